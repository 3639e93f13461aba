import PyProof.Rows.All
import Wide.All
import OpenK.AllK
import Wide.FinOn
import HandS.ForMost
import HandS.EndTab
import HandS.Star
import HandS.IsInst
import HandS.Conv
import HandS.TupAny
import HandS.Walk
import HandS.Style
import KE.SortUse
import HandS.Exc
import HandS.TryMany
import HandS.Lambda
import KE.KExcSuper
import HandS.HeadWalk
import KE.KDictWalk
import HandS.WordsExc
import PyProof.ReprBulk
import PyProof.Rows.StrJoinMade
import HandS.NoneIn
import HandS.HeadEnd
import HandS.HeadHook1
import HandS.HeadHook2
import HandS.HeadHook3
import HandS.HeadHook4
import HandS.Head0
import HandS.Head1
import HandS.Head2
import KE.KStateDown
import PySem.Challenge.RW_plainstore_k18_whole_best_counts_and_vot
set_option Elab.async false
set_option linter.all false
set_option maxRecDepth 100000
set_option maxHeartbeats 4000000
/-! Data readings: what expressions and statements are worth, told by plain data in the slots. -/
namespace G
open PySem PySem.Spec PyProof.Rows L2

abbrev Tl := List (Addr × Str)
/-- the heap goes on: all but the tables of code objects stays, these stay tables -/
structure Up (T : Tl) (H H' : Hp) : Prop where
  ext : LamX.ExtN H H'
  tab : LamX.Tabs T H → LamX.Tabs T H'
theorem Up.refl {T : Tl} {H : Hp} : Up T H H := ⟨LamX.ExtN.refl H, fun t => t⟩
theorem Up.trans {T : Tl} {H H1 H2 : Hp} (a : Up T H H1) (b : Up T H1 H2) : Up T H H2 := ⟨a.ext.trans b.ext, fun t => b.tab (a.tab t)⟩
theorem Up.of {T : Tl} {H H' : Hp} (e : ∀ b o, H b = some o → H' b = some o) : Up T H H' := ⟨LamX.ExtN.of e, fun t => t.ext e⟩
theorem Up.new {T : Tl} {H : Hp} {p : Addr} {o : HO} (h : H p = none) : Up T H (upd H p o) := Up.of fun b u e => by
  rw [upd_ne (ne_of_none e h)]
  exact e
def Vac (H0 : Hp) (l : Addr) : Prop := ∀ u, H0 l = some u → ∃ ps, u = .tbl ps
theorem Vac.of {T : Tl} {H0 H : Hp} {l : Addr} (u : Up T H0 H) (h : H l = none) : Vac H0 l := fun o e => by
  cases o with
  | tbl ps => exact ⟨ps, rfl⟩
  | lst _ => have q := u.ext l _ e (fun _ z => by cases z); rw [h] at q; cases q
  | tup _ => have q := u.ext l _ e (fun _ z => by cases z); rw [h] at q; cases q
  | dK _ => have q := u.ext l _ e (fun _ z => by cases z); rw [h] at q; cases q
  | dT _ => have q := u.ext l _ e (fun _ z => by cases z); rw [h] at q; cases q
  | set _ _ => have q := u.ext l _ e (fun _ z => by cases z); rw [h] at q; cases q
  | ins _ _ _ => have q := u.ext l _ e (fun _ z => by cases z); rw [h] at q; cases q
  | own _ => have q := u.ext l _ e (fun _ z => by cases z); rw [h] at q; cases q
  | xd _ => have q := u.ext l _ e (fun _ z => by cases z); rw [h] at q; cases q
  | met _ _ => have q := u.ext l _ e (fun _ z => by cases z); rw [h] at q; cases q
  | rng _ _ => have q := u.ext l _ e (fun _ z => by cases z); rw [h] at q; cases q
  | frz _ _ => have q := u.ext l _ e (fun _ z => by cases z); rw [h] at q; cases q
  | ext _ => have q := u.ext l _ e (fun _ z => by cases z); rw [h] at q; cases q
theorem Vac.none {H : Hp} {l : Addr} (h : H l = Option.none) : Vac H l := fun u e => by rw [h] at e; cases e
theorem Vac.back {T : Tl} {H0 H : Hp} {l : Addr} (u : Up T H0 H) (h : Vac H l) : Vac H0 l := fun o e => by
  by_cases n : ∃ ps, o = .tbl ps
  · exact n
  · exact h o (u.ext l o e fun ps z => n ⟨ps, z⟩)
/-- the tables stay while a list or a dict that is none of them is written -/
theorem tabs_upd {T : Tl} {H : Hp} {l : Addr} {o u : HO} (hl : H l = some o) (h1 : ∀ ps, o ≠ .tbl ps) (h2 : ∀ φ, o ≠ .ext φ) (t : LamX.Tabs T H) : LamX.Tabs T (upd H l u) := fun p hp => by
  obtain ⟨ps, a1, a2, a3⟩ := t p hp
  have n1 : p.1 ≠ l := fun z => by
    rw [z, hl] at a1
    exact h1 ps (Option.some.inj a1)
  refine ⟨ps, by rw [upd_ne n1]; exact a1, a2, fun pos cv hc => ?_⟩
  obtain ⟨c, e1, e2⟩ := a3 pos cv hc
  have n2 : c ≠ l := fun z => by
    rw [z, hl] at e2
    exact h2 _ (Option.some.inj e2)
  exact ⟨c, e1, by rw [upd_ne n2]; exact e2⟩
theorem Up.put {T : Tl} {H0 H : Hp} {l : Addr} {o u : HO} (a : Up T H0 H) (v : Vac H0 l) (hl : H l = some o) (h1 : ∀ ps, o ≠ .tbl ps) (h2 : ∀ φ, o ≠ .ext φ) : Up T H0 (upd H l u) :=
  ⟨fun b x e n => by
    have nb : b ≠ l := fun z => by
      rw [z] at e
      obtain ⟨ps, q⟩ := v _ e
      exact n ps q
    rw [upd_ne nb]
    exact a.ext b x e n, fun t => tabs_upd hl h1 h2 (a.tab t)⟩

/-! ### data under heaps -/
def cut (H : Hp) (l : Addr) : Hp := fun a => if a = l then none else H a
theorem cut_ne {H : Hp} {a l : Addr} (h : a ≠ l) : cut H l a = H a := if_neg h
theorem cut_same {H : Hp} {l : Addr} : cut H l l = none := if_pos rfl
theorem cut_some {H : Hp} {a l : Addr} {o : HO} (h : cut H l a = some o) : a ≠ l ∧ H a = some o := by
  by_cases e : a = l
  · rw [e, cut_same] at h
    cases h
  · rw [cut_ne e] at h
    exact ⟨e, h⟩
theorem cut_upd {H : Hp} {l : Addr} {o : HO} : cut (upd H l o) l = cut H l := by
  funext a
  by_cases e : a = l
  · rw [e, cut_same, cut_same]
  · rw [cut_ne e, cut_ne e, upd_ne e]
theorem cut_ext {H H' : Hp} {l : Addr} (e : LamX.ExtN H H') : LamX.ExtN (cut H l) (cut H' l) := fun b o h n => by
  obtain ⟨n1, h1⟩ := cut_some h
  rw [cut_ne n1]
  exact e b o h1 n
theorem cut_sub {H : Hp} {l : Addr} : LamX.ExtN (cut H l) H := fun b o h _ => (cut_some h).2
theorem cut_id {H : Hp} {l : Addr} (h : H l = none) : cut H l = H := by
  funext a
  by_cases e : a = l
  · rw [e, cut_same, h]
  · rw [cut_ne e]
section
variable {H H' : Hp}
theorem rd_mono {a : Addr} {u : HO} (k : LamX.ExtN H H') (n : ∀ ps, u ≠ .tbl ps) (h : Rd H a u) : Rd H' a u := by
  rcases h with h | ⟨o, h⟩
  · exact .inl (k _ _ h n)
  · exact .inr ⟨o, k _ _ h fun _ z => by cases z⟩
theorem rdl_mono {a : Addr} {xs : List V} (k : LamX.ExtN H H') (h : Rd H a (.lst xs)) : Rd H' a (.lst xs) := rd_mono k (fun _ z => by cases z) h
theorem rdt_mono {a : Addr} {xs : List V} (k : LamX.ExtN H H') (h : Rd H a (.tup xs)) : Rd H' a (.tup xs) := rd_mono k (fun _ z => by cases z) h
mutual
/-- v stands for the data d -/
inductive Dx (H : Hp) : V → PyData → Prop
  | non : Dx H .non .none
  | bl (b : Bool) : Dx H (.bl b) (.bool b)
  | int (i : Int) : Dx H (.int i) (.int i)
  | str (x : Str) : Dx H (.str x) (.str x)
  | lst {a : Addr} {xs : List V} {ds : List PyData} (h : Rd H a (.lst xs)) (t : DxAll H xs ds) : Dx H (.ref a) (.list ds)
  | tup {a : Addr} {xs : List V} {ds : List PyData} (h : Rd H a (.tup xs)) (t : DxAll H xs ds) : Dx H (.ref a) (.tuple ds)
inductive DxAll (H : Hp) : List V → List PyData → Prop
  | nil : DxAll H [] []
  | cons {v : V} {vs : List V} {d : PyData} {ds : List PyData} (h : Dx H v d) (t : DxAll H vs ds) : DxAll H (v :: vs) (d :: ds)
end
mutual
theorem dx_dp {K : PySem.W.Frag} {H : Hp} : ∀ (d : PyData) (v : V), Dx H v d → Dp K H v d
  | .none, _, h => by cases h; exact .non
  | .bool b, _, h => by cases h; exact .bl b
  | .int i, _, h => by cases h; exact .int i
  | .str x, _, h => by cases h; exact .str x
  | .list ds, _, h => by
    cases h with
    | lst hs ha => exact .lst (.inl hs) (dxa_dp ds _ ha)
  | .tuple ds, _, h => by
    cases h with
    | tup hs ha => exact .tup (.inl hs) (dxa_dp ds _ ha)
  | .dict _, _, h => by cases h
theorem dxa_dp {K : PySem.W.Frag} {H : Hp} : ∀ (ds : List PyData) (vs : List V), DxAll H vs ds → DpAll K H vs ds
  | [], _, h => by cases h; exact .nil
  | d :: ds, _, h => by
    cases h with
    | cons h1 h2 => exact .cons (dx_dp d _ h1) (dxa_dp ds _ h2)
end
mutual
theorem dx_mono (k : LamX.ExtN H H') : ∀ (d : PyData) (v : V), Dx H v d → Dx H' v d
  | .none, _, h => by cases h; exact .non
  | .bool b, _, h => by cases h; exact .bl b
  | .int i, _, h => by cases h; exact .int i
  | .str x, _, h => by cases h; exact .str x
  | .list ds, _, h => by
    cases h with
    | lst hs ha => exact .lst (rdl_mono k hs) (dxa_mono k ds _ ha)
  | .tuple ds, _, h => by
    cases h with
    | tup hs ha => exact .tup (rdt_mono k hs) (dxa_mono k ds _ ha)
  | .dict _, _, h => by cases h
theorem dxa_mono (k : LamX.ExtN H H') : ∀ (ds : List PyData) (vs : List V), DxAll H vs ds → DxAll H' vs ds
  | [], _, h => by cases h; exact .nil
  | d :: ds, _, h => by
    cases h with
    | cons h1 h2 => exact .cons (dx_mono k d _ h1) (dxa_mono k ds _ h2)
end
/-- data without lists -/
def flat : PyData → Bool
  | .tuple ds => flatAll ds
  | .list _ => false
  | .dict _ => false
  | .none => true
  | .bool _ => true
  | .int _ => true
  | .str _ => true
where flatAll : List PyData → Bool
  | [] => true
  | d :: ds => flat d && flatAll ds
/-- the tuples stay -/
def TupN (H H' : Hp) : Prop := (∀ a xs, H a = some (.tup xs) → H' a = some (.tup xs)) ∧ ∀ a o xs, H a = some (.frz o (.tup xs)) → H' a = some (.frz o (.tup xs))
theorem rdt_tup {a : Addr} {xs : List V} (k : TupN H H') (h : Rd H a (.tup xs)) : Rd H' a (.tup xs) := by
  rcases h with h | ⟨o, h⟩
  · exact .inl (k.1 _ _ h)
  · exact .inr ⟨o, k.2 _ _ _ h⟩
mutual
theorem dx_flat (k : TupN H H') : ∀ (d : PyData) (v : V), flat d = true → Dx H v d → Dx H' v d
  | .none, _, _, h => by cases h; exact .non
  | .bool b, _, _, h => by cases h; exact .bl b
  | .int i, _, _, h => by cases h; exact .int i
  | .str x, _, _, h => by cases h; exact .str x
  | .list ds, _, f, h => by
    unfold flat at f
    cases f
  | .tuple ds, _, f, h => by
    cases h with
    | tup hs ha =>
      unfold flat at f
      exact .tup (rdt_tup k hs) (dxa_flat k ds _ f ha)
  | .dict _, _, _, h => by cases h
theorem dxa_flat (k : TupN H H') : ∀ (ds : List PyData) (vs : List V), flat.flatAll ds = true → DxAll H vs ds → DxAll H' vs ds
  | [], _, _, h => by cases h; exact .nil
  | d :: ds, _, f, h => by
    cases h with
    | cons h1 h2 =>
      unfold flat.flatAll at f
      obtain ⟨f1, f2⟩ := Bool.and_eq_true_iff.mp f
      exact .cons (dx_flat k d _ f1 h1) (dxa_flat k ds _ f2 h2)
end
theorem tupN_cut {l : Addr} {o : HO} (h : H l = some o) (h1 : ∀ xs, o ≠ .tup xs) (h2 : ∀ ob xs, o ≠ .frz ob (.tup xs)) : TupN H (cut H l) :=
  ⟨fun a xs e => by rw [cut_ne (fun z => by rw [z, h] at e; exact h1 xs (Option.some.inj e))]; exact e, fun a ob xs e => by rw [cut_ne (fun z => by rw [z, h] at e; exact h2 ob xs (Option.some.inj e))]; exact e⟩
theorem tupN_upd {l : Addr} {o u : HO} (h : H l = some o) (h1 : ∀ xs, o ≠ .tup xs) (h2 : ∀ ob xs, o ≠ .frz ob (.tup xs)) : TupN H (upd H l u) :=
  ⟨fun a xs e => by rw [upd_ne (fun z => by rw [z, h] at e; exact h1 xs (Option.some.inj e))]; exact e, fun a ob xs e => by rw [upd_ne (fun z => by rw [z, h] at e; exact h2 ob xs (Option.some.inj e))]; exact e⟩
theorem dx_int {v : V} {i : Int} (h : Dx H v (.int i)) : v = .int i := by cases h; rfl
theorem dx_bl {v : V} {b : Bool} (h : Dx H v (.bool b)) : v = .bl b := by cases h; rfl
theorem dx_str {v : V} {x : Str} (h : Dx H v (.str x)) : v = .str x := by cases h; rfl
theorem dx_non {v : V} (h : Dx H v .none) : v = .non := by cases h; rfl
theorem dx_lst {v : V} {ds : List PyData} (h : Dx H v (.list ds)) : ∃ a xs, v = .ref a ∧ Rd H a (.lst xs) ∧ DxAll H xs ds := by
  cases h with
  | lst hs ha => exact ⟨_, _, rfl, hs, ha⟩
theorem dx_tup {v : V} {ds : List PyData} (h : Dx H v (.tuple ds)) : ∃ a xs, v = .ref a ∧ Rd H a (.tup xs) ∧ DxAll H xs ds := by
  cases h with
  | tup hs ha => exact ⟨_, _, rfl, hs, ha⟩
theorem dxa_len : ∀ {ds : List PyData} {vs : List V}, DxAll H vs ds → vs.length = ds.length
  | _, _, .nil => rfl
  | _, _, .cons _ t => by rw [List.length_cons, List.length_cons, dxa_len t]
theorem dxa_get : ∀ {ds : List PyData} {vs : List V} {i : Nat} {d : PyData}, DxAll H vs ds → ds[i]? = some d → ∃ v, vs[i]? = some v ∧ Dx H v d
  | _, _, _, _, .nil, e => by simp at e
  | _, _, 0, _, .cons h _, e => by simp at e; subst e; exact ⟨_, rfl, h⟩
  | _, _, i + 1, d, .cons _ t, e => by
    obtain ⟨v, a, b⟩ := dxa_get (i := i) (d := d) t (by simpa using e)
    exact ⟨v, by simpa using a, b⟩
theorem dxa_get2 : ∀ {ds : List PyData} {vs : List V} {i : Nat} {v : V}, DxAll H vs ds → vs[i]? = some v → ∃ d, ds[i]? = some d ∧ Dx H v d
  | _, _, _, _, .nil, e => by simp at e
  | _, _, 0, _, .cons h _, e => by simp at e; subst e; exact ⟨_, rfl, h⟩
  | _, _, i + 1, d, .cons _ t, e => by
    obtain ⟨v, a, b⟩ := dxa_get2 (i := i) (v := d) t (by simpa using e)
    exact ⟨v, by simpa using a, b⟩
theorem dxa_app : ∀ {ds es : List PyData} {vs us : List V}, DxAll H vs ds → DxAll H us es → DxAll H (vs ++ us) (ds ++ es)
  | _, _, _, _, .nil, h => h
  | _, _, _, _, .cons h t, q => .cons h (dxa_app t q)
theorem dxa_snoc {ds : List PyData} {vs : List V} {d : PyData} {v : V} (h : DxAll H vs ds) (q : Dx H v d) : DxAll H (vs ++ [v]) (ds ++ [d]) := dxa_app h (.cons q .nil)
theorem dxa_take : ∀ {ds : List PyData} {vs : List V} (n : Nat), DxAll H vs ds → DxAll H (vs.take n) (ds.take n)
  | _, _, 0, _ => .nil
  | _, _, _ + 1, .nil => .nil
  | _, _, n + 1, .cons h t => .cons h (dxa_take n t)
theorem dxa_drop : ∀ {ds : List PyData} {vs : List V} (n : Nat), DxAll H vs ds → DxAll H (vs.drop n) (ds.drop n)
  | _, _, 0, h => h
  | _, _, _ + 1, .nil => .nil
  | _, _, n + 1, .cons _ t => dxa_drop n t
theorem dxa_erase : ∀ {ds : List PyData} {vs : List V} (n : Nat), DxAll H vs ds → DxAll H (vs.eraseIdx n) (ds.eraseIdx n)
  | _, _, _, .nil => .nil
  | _, _, 0, .cons _ t => t
  | _, _, n + 1, .cons h t => .cons h (dxa_erase n t)
theorem dxa_rep {ds : List PyData} {vs : List V} (h : DxAll H vs ds) : ∀ k : Nat, DxAll H (List.replicate k vs).flatten (List.replicate k ds).flatten
  | 0 => .nil
  | k + 1 => by
    rw [List.replicate_succ, List.replicate_succ, List.flatten_cons, List.flatten_cons]
    exact dxa_app h (dxa_rep h k)
theorem dxa_ints : ∀ {ns : List Int} {vs : List V}, DxAll H vs (ns.map PyData.int) → vs = ns.map V.int
  | [], _, h => by cases h; rfl
  | n :: ns, _, h => by
    cases h with
    | cons a t => rw [dx_int a, dxa_ints t]; rfl
theorem ints_dpa : ∀ (ns : List Int), DxAll H (ns.map V.int) (ns.map PyData.int)
  | [] => .nil
  | n :: ns => .cons (.int n) (ints_dpa ns)
theorem dxa_bls : ∀ {bs : List Bool} {vs : List V}, DxAll H vs (bs.map PyData.bool) → vs = bs.map V.bl
  | [], _, h => by cases h; rfl
  | n :: ns, _, h => by
    cases h with
    | cons a t => rw [dx_bl a, dxa_bls t]; rfl
theorem flatAll_mem : ∀ {ds : List PyData}, flat.flatAll ds = true ↔ ∀ d ∈ ds, flat d = true
  | [] => by simp [flat.flatAll]
  | d :: ds => by
    unfold flat.flatAll
    rw [Bool.and_eq_true_iff, flatAll_mem]
    simp
end
end G
set_option Elab.async false
set_option linter.all false
set_option maxRecDepth 100000
set_option maxHeartbeats 4000000
namespace G
open PySem PySem.Spec PyProof.Rows L2

/-! ### slots -/
abbrev Es := List (Option PyData)
/-- the list that is written: its slot, what it holds -/
abbrev Ow := Option (Nat × List PyData)
def ownL (w : Ow) (σ : L2.St) : Option Addr := match w with
  | none => none
  | some (i, _) => match σ[i]? with
    | some (some (.ref l)) => some l
    | _ => none
theorem ownL_at {i : Nat} {ds : List PyData} {σ : L2.St} {l : Addr} (h : σ[i]? = some (some (.ref l))) : ownL (some (i, ds)) σ = some l := by
  show (match σ[i]? with
    | some (some (.ref l)) => some l
    | _ => none) = some l
  rw [h]
/-- the heap without the list that is written -/
def Bs (w : Ow) (σ : L2.St) (H : Hp) : Hp := match ownL w σ with
  | none => H
  | some l => cut H l
theorem bs_none {σ : L2.St} {H : Hp} : Bs none σ H = H := rfl
theorem bs_some {w : Ow} {σ : L2.St} {H : Hp} {l : Addr} (h : ownL w σ = some l) : Bs w σ H = cut H l := by unfold Bs; rw [h]
theorem bs_sub {w : Ow} {σ : L2.St} {H : Hp} : LamX.ExtN (Bs w σ H) H := by
  unfold Bs
  split
  · exact LamX.ExtN.refl H
  · exact cut_sub
theorem bs_no {w : Ow} {σ : L2.St} {H : Hp} {q : Addr} (h : H q = none) : Bs w σ H q = none := by
  cases e : ownL w σ with
  | none =>
    have z : Bs w σ H = H := by unfold Bs; rw [e]
    rw [z]
    exact h
  | some l =>
    rw [bs_some e]
    by_cases k : q = l
    · rw [k, cut_same]
    · rw [cut_ne k]
      exact h
theorem bs_at {w : Ow} {σ : L2.St} {H : Hp} {q : Addr} {o : HO} (h : H q = some o) (n : ∀ l, ownL w σ = some l → q ≠ l) : Bs w σ H q = some o := by
  cases e : ownL w σ with
  | none =>
    have z : Bs w σ H = H := by unfold Bs; rw [e]
    rw [z]
    exact h
  | some l =>
    rw [bs_some e, cut_ne (n l e)]
    exact h
theorem bs_ext {w : Ow} {σ : L2.St} {H H' : Hp} (e : LamX.ExtN H H') : LamX.ExtN (Bs w σ H) (Bs w σ H') := by
  unfold Bs
  split
  · exact e
  · exact cut_ext e
structure Has (H : Hp) (σ : L2.St) (es : Es) : Prop where
  len : σ.length = es.length
  dat : ∀ (i : Nat) (d : PyData), es[i]? = some (some d) → ∃ v, σ[i]? = some (some v) ∧ Dx H v d
theorem Has.mono {H H' : Hp} {σ : L2.St} {es : Es} (h : Has H σ es) (e : LamX.ExtN H H') : Has H' σ es :=
  ⟨h.len, fun i d q => let ⟨v, a, b⟩ := h.dat i d q; ⟨v, a, dx_mono e _ _ b⟩⟩
theorem Has.set {H : Hp} {σ : L2.St} {es : Es} (h : Has H σ es) (i : Nat) {v : V} {d : PyData} (q : Dx H v d) : Has H (σ.set i (some v)) (es.set i (some d)) := by
  refine ⟨by rw [List.length_set, List.length_set]; exact h.len, fun j e r => ?_⟩
  by_cases hj : i = j
  · subst hj
    have hl : i < es.length := by
      have z := (List.getElem?_eq_some_iff.mp r).1
      rw [List.length_set] at z
      exact z
    rw [List.getElem?_set_self hl] at r
    cases r
    exact ⟨v, List.getElem?_set_self (by rw [h.len]; exact hl), q⟩
  · rw [List.getElem?_set_ne hj] at r
    rw [List.getElem?_set_ne hj]
    exact h.dat j e r
/-- a slot forgotten -/
theorem Has.wipe {H : Hp} {σ : L2.St} {es : Es} (h : Has H σ es) (i : Nat) (x : Option V) : Has H (σ.set i x) (es.set i none) := by
  refine ⟨by rw [List.length_set, List.length_set]; exact h.len, fun j e r => ?_⟩
  by_cases hj : i = j
  · subst hj
    have hl : i < es.length := by
      have z := (List.getElem?_eq_some_iff.mp r).1
      rw [List.length_set] at z
      exact z
    rw [List.getElem?_set_self hl] at r
    cases r
  · rw [List.getElem?_set_ne hj] at r
    rw [List.getElem?_set_ne hj]
    exact h.dat j e r
/-- the slots of es known, from the heap H0 on -/
structure At (T : Tl) (H0 : Hp) (w : Ow) (es : Es) (σ : L2.St) (H : Hp) : Prop where
  up : Up T H0 H
  tab : LamX.Tabs T H
  has : Has (Bs w σ H) σ es
  own : ∀ i ds, w = some (i, ds) → ∃ l vs, σ[i]? = some (some (.ref l)) ∧ Vac H0 l ∧ H l = some (.lst vs) ∧ DxAll (cut H l) vs ds
section
variable {T : Tl} {H0 H H' : Hp} {w : Ow} {es : Es} {σ : L2.St}
theorem At.lift (a : At T H0 w es σ H) (u : Up T H H') : At T H0 w es σ H' :=
  ⟨a.up.trans u, u.tab a.tab, a.has.mono (bs_ext u.ext), fun i ds e => by
    obtain ⟨l, vs, h1, h2, h3, h4⟩ := a.own i ds e
    exact ⟨l, vs, h1, h2, u.ext _ _ h3 (fun _ z => by cases z), dxa_mono (cut_ext u.ext) _ _ h4⟩⟩
theorem At.ownAt (a : At T H0 w es σ H) {l : Addr} (h : ownL w σ = some l) : ∃ i ds vs, w = some (i, ds) ∧ σ[i]? = some (some (.ref l)) ∧ Vac H0 l ∧ H l = some (.lst vs) ∧ DxAll (cut H l) vs ds := by
  cases w with
  | none => cases h
  | some p =>
    obtain ⟨i, ds⟩ := p
    obtain ⟨l', vs, h1, h2, h3, h4⟩ := a.own i ds rfl
    have e : ownL (some (i, ds)) σ = some l' := ownL_at h1
    rw [e] at h
    cases h
    exact ⟨i, ds, vs, rfl, h1, h2, h3, h4⟩
theorem At.ownNe (a : At T H0 w es σ H) {p l : Addr} (hp : H p = none) (h : ownL w σ = some l) : p ≠ l := by
  obtain ⟨_, _, vs, _, _, _, h3, _⟩ := a.ownAt h
  intro z
  rw [z, h3] at hp
  cases hp
theorem At.ownNv (a : At T H0 w es σ H) {p l : Addr} (hp : Vac H p) (h : ownL w σ = some l) : p ≠ l := by
  obtain ⟨_, _, vs, _, _, _, h3, _⟩ := a.ownAt h
  intro z
  rw [← z] at h3
  obtain ⟨ps, q⟩ := hp _ h3
  cases q
theorem At.bsNew (a : At T H0 w es σ H) {p : Addr} {o : HO} (hp : H p = none) : Bs w σ (upd H p o) = upd (Bs w σ H) p o := by
  unfold Bs
  split
  · rfl
  · rename_i l hl
    have n := a.ownNe hp hl
    funext b
    by_cases e : b = l
    · rw [e, cut_same, upd_ne n.symm, cut_same]
    · rw [cut_ne e]
      by_cases e2 : b = p
      · rw [e2, upd_same, upd_same]
      · rw [upd_ne e2, upd_ne e2, cut_ne e]
theorem At.tupN (a : At T H0 w es σ H) : TupN H (Bs w σ H) := by
  unfold Bs
  split
  · exact ⟨fun _ _ e => e, fun _ _ _ e => e⟩
  · rename_i l hl
    obtain ⟨_, _, vs, _, _, _, h3, _⟩ := a.ownAt hl
    exact tupN_cut h3 (fun _ z => by cases z) (fun _ _ z => by cases z)
/-- what holds of plain data holds without the written list -/
theorem At.strong (a : At T H0 w es σ H) {v : V} {d : PyData} (f : w = none ∨ flat d = true) (h : Dx H v d) : Dx (Bs w σ H) v d := by
  rcases f with f | f
  · subst f
    exact h
  · exact dx_flat a.tupN d v f h
end
theorem weakE {X : Cx} {e : Expr} {t t' : TE} (h : PE X e t) (k : ∀ σ H Q, t' σ H Q → t σ H Q) : PE X e t' := ⟨fun pins s σ H Q I q => h.run pins s σ H Q I (k σ H Q q)⟩
theorem weakT {X : Cx} {e : Expr} {t t' : TT} (h : PT X e t) (k : ∀ σ H Q, t' σ H Q → t σ H Q) : PT X e t' := ⟨fun pins s σ H Q I q => h.run pins s σ H Q I (k σ H Q q)⟩
theorem weakW {X : Cx} {e : Expr} {t t' : TT} (h : PW X e t) (k : ∀ σ H Q, t' σ H Q → t σ H Q) : PW X e t' := ⟨fun wh pins s σ H Q I q => h.run wh pins s σ H Q I (k σ H Q q)⟩
theorem weakA {X : Cx} {es : List Expr} {t t' : TA} (h : PA X es t) (k : ∀ σ H Q, t' σ H Q → t σ H Q) : PA X es t' := ⟨fun pos pins s σ H Q I q => h.run pos pins s σ H Q I (k σ H Q q)⟩
theorem weakS {X : Cx} {st : Stmt} {t t' : TS} (h : PS X st t) (k : ∀ D σ H, t' D σ H → t D σ H) : PS X st t' := ⟨fun pins s σ H D I q => h.run pins s σ H D I (k D σ H q)⟩
theorem weakSs {X : Cx} {st : List Stmt} {t t' : TS} (h : PSs X st t) (k : ∀ D σ H, t' D σ H → t D σ H) : PSs X st t' := ⟨fun pins s σ H D I q => h.run pins s σ H D I (k D σ H q)⟩
/-- e is worth d -/
def tE (T : Tl) (H0 : Hp) (w : Ow) (es : Es) (d : PyData) : TE := fun σ H Q => At T H0 w es σ H ∧ ∀ v H', Up T H H' → Dx (Bs w σ H') v d → Q v H'
/-- a new list of ds -/
def tN (T : Tl) (H0 : Hp) (w : Ow) (es : Es) (ds : List PyData) : TE := fun σ H Q => At T H0 w es σ H ∧ ∀ p H' vs, Vac H p → Up T H H' → H' p = some (.lst vs) → DxAll (cut (Bs w σ H') p) vs ds → Q (.ref p) H'
def tD (T : Tl) (H0 : Hp) (w : Ow) (es : Es) (ds : List PyData) : TA := fun σ H Q => At T H0 w es σ H ∧ ∀ vs H', Up T H H' → DxAll (Bs w σ H') vs ds → Q vs H'
def tB (T : Tl) (H0 : Hp) (w : Ow) (es : Es) (b : Bool) : TT := fun σ H Q => At T H0 w es σ H ∧ ∀ H', Up T H H' → Q b H'
abbrev J (X : Cx) (T : Tl) (H0 : Hp) (w : Ow) (es : Es) (e : Expr) (d : PyData) : Prop := PE X e (tE T H0 w es d)
abbrev JN (X : Cx) (T : Tl) (H0 : Hp) (w : Ow) (es : Es) (e : Expr) (ds : List PyData) : Prop := PE X e (tN T H0 w es ds)
abbrev JA (X : Cx) (T : Tl) (H0 : Hp) (w : Ow) (es : Es) (e : List Expr) (ds : List PyData) : Prop := PA X e (tD T H0 w es ds)
abbrev JT (X : Cx) (T : Tl) (H0 : Hp) (w : Ow) (es : Es) (e : Expr) (b : Bool) : Prop := PT X e (tB T H0 w es b)
abbrev JW (X : Cx) (T : Tl) (H0 : Hp) (w : Ow) (es : Es) (e : Expr) (b : Bool) : Prop := PW X e (tB T H0 w es b)
section
variable {X : Cx} {T : Tl} {H0 : Hp} {w : Ow} {es : Es} {a b c : Expr} {pos : Pos} {d : PyData}
/-! ### names, constants -/
theorem jv (i : Nat) {x : Str} (h : es[i]? = some (some d)) (hN : X.N[i]? = some x := by rfl) (hv : Vis X.env.scope x := by first | exact Or.inl rfl | exact Or.inr (Or.inl rfl) | exact Or.inr (Or.inr rfl)) (hd : (x == ("__debug__" : Str)) = false := by decide)
    (hcd : (x == ("__classdict__" : Str)) = false := by decide) : J X T H0 w es (.Name x pos) d := weakE (pe_var (i := i) hN hv hd hcd) fun σ H Q ⟨hA, q⟩ => by
  obtain ⟨v, e, r⟩ := hA.has.dat i d h
  exact ⟨v, e, q v H Up.refl r⟩
theorem j_int {i : Int} {j : Nat} : J X T H0 w es (.Constant (.int i) j pos) (.int i) := weakE pe_int fun σ H Q ⟨hA, q⟩ => q _ H Up.refl (.int i)
theorem j_bool {i : Bool} {j : Nat} : J X T H0 w es (.Constant (.bool i) j pos) (.bool i) := weakE pe_bl fun σ H Q ⟨hA, q⟩ => q _ H Up.refl (.bl i)
theorem j_non {j : Nat} : J X T H0 w es (.Constant .none j pos) .none := weakE pe_non fun σ H Q ⟨hA, q⟩ => q _ H Up.refl .non
theorem j_str {x : Str} {j : Nat} : J X T H0 w es (.Constant (.str x) j pos) (.str x) := weakE pe_str fun σ H Q ⟨hA, q⟩ => q _ H Up.refl (.str x)
theorem j_glob {x : Str} {i : Int} {u : Value} (hg : Gl X x) (hm : X.mg x = some u) (r : RelV (.int i) u) (hd : (x == ("__debug__" : Str)) = false := by decide) : J X T H0 w es (.Name x pos) (.int i) :=
  weakE (pe_glob hg hm r hd) fun σ H Q ⟨hA, q⟩ => q _ H Up.refl (.int i)
/-! ### operators on ints -/
variable {i j k : Int}
theorem j_two {op : Operator} {r : R2} {x y z : PyData} (ho : OpR X (binaryOp op) r) (ha : J X T H0 w es a x) (hb : J X T H0 w es b y)
    (hr : ∀ (σ : L2.St) (H : Hp) (u v : V) (Q : VK), At T H0 w es σ H → Dx (Bs w σ H) u x → Dx (Bs w σ H) v y → (∀ z' H', Up T H H' → Dx (Bs w σ H') z' z → Q z' H') → r u v H Q) : J X T H0 w es (.BinOp a op b pos) z :=
  weakE (pe_op ho ha hb) fun σ H Q ⟨hA, q⟩ => ⟨hA, fun u H1 u1 d1 => ⟨hA.lift u1, fun v H2 u2 d2 =>
    hr σ H2 u v Q ((hA.lift u1).lift u2) (dx_mono (bs_ext u2.ext) _ _ d1) d2 fun z' H3 u3 d3 => q z' H3 ((u1.trans u2).trans u3) d3⟩⟩
theorem j_op0 {op : Operator} {g : Int → Int → Int} (ho : OpR X (binaryOp op) (rI0 fun i j => .int (g i j))) (ha : J X T H0 w es a (.int i)) (hb : J X T H0 w es b (.int j)) : J X T H0 w es (.BinOp a op b pos) (.int (g i j)) :=
  j_two ho ha hb fun σ H u v Q hA h1 h2 q => ⟨i, j, dx_int h1, dx_int h2, q _ H Up.refl (.int _)⟩
theorem j_opC {op : Operator} {C : Int → Int → Prop} {g : Int → Int → Int} (ho : OpR X (binaryOp op) (rI C fun i j => .int (g i j))) (hc : C i j) (ha : J X T H0 w es a (.int i)) (hb : J X T H0 w es b (.int j)) : J X T H0 w es (.BinOp a op b pos) (.int (g i j)) :=
  j_two ho ha hb fun σ H u v Q hA h1 h2 q => ⟨i, j, dx_int h1, dx_int h2, hc, q _ H Up.refl (.int _)⟩
theorem j_add (ha : J X T H0 w es a (.int i)) (hb : J X T H0 w es b (.int j)) : J X T H0 w es (.BinOp a .Add b pos) (.int (i + j)) := j_op0 op_add ha hb
theorem j_sub (ha : J X T H0 w es a (.int i)) (hb : J X T H0 w es b (.int j)) : J X T H0 w es (.BinOp a .Sub b pos) (.int (i - j)) := j_op0 op_sub ha hb
theorem j_mul (hc : CMul i j) (ha : J X T H0 w es a (.int i)) (hb : J X T H0 w es b (.int j)) : J X T H0 w es (.BinOp a .Mult b pos) (.int (i * j)) := j_opC op_mul hc ha hb
theorem j_fdiv (hc : CDiv i j) (ha : J X T H0 w es a (.int i)) (hb : J X T H0 w es b (.int j)) : J X T H0 w es (.BinOp a .FloorDiv b pos) (.int (i / j)) := j_opC op_fdiv hc ha hb
theorem j_mod (hc : 0 < j) (ha : J X T H0 w es a (.int i)) (hb : J X T H0 w es b (.int j)) : J X T H0 w es (.BinOp a .Mod b pos) (.int (i % j)) := j_opC op_mod hc ha hb
theorem j_neg (ha : J X T H0 w es a (.int i)) : J X T H0 w es (.UnaryOp .USub a pos) (.int (-i)) :=
  weakE (pe_un un_neg ha) fun σ H Q ⟨hA, q⟩ => ⟨hA, fun u H1 u1 d1 => ⟨i, dx_int d1, q _ H1 u1 (.int _)⟩⟩
/-! ### comparisons -/
theorem j_cmpV {op : CmpOp} {r : R2} {x y : PyData} {k : Bool} (ho : OpR X (compareOp op) r) (ha : J X T H0 w es a x) (hb : J X T H0 w es b y)
    (hr : ∀ (σ : L2.St) (H : Hp) (u v : V) (Q : VK), At T H0 w es σ H → Dx (Bs w σ H) u x → Dx (Bs w σ H) v y → Q (.bl k) H → r u v H Q) (hm : behindInMarks op b = false) : J X T H0 w es (.Compare a [op] [b] pos) (.bool k) :=
  weakE (pe_cmpR ho ha hb hm) fun σ H Q ⟨hA, q⟩ => ⟨hA, fun u H1 u1 d1 => ⟨hA.lift u1, fun v H2 u2 d2 =>
    hr σ H2 u v Q ((hA.lift u1).lift u2) (dx_mono (bs_ext u2.ext) _ _ d1) d2 (q _ H2 (u1.trans u2) (.bl k))⟩⟩
theorem jt_cmpV {op : CmpOp} {r : R2} {x y : PyData} {k : Bool} (ho : OpR X (compareOp op) r) (ha : J X T H0 w es a x) (hb : J X T H0 w es b y)
    (hr : ∀ (σ : L2.St) (H : Hp) (u v : V) (Q : VK), At T H0 w es σ H → Dx (Bs w σ H) u x → Dx (Bs w σ H) v y → Q (.bl k) H → r u v H Q) (hm : behindInMarks op b = false) : JT X T H0 w es (.Compare a [op] [b] pos) k :=
  weakT (pt_cmpR ho ha hb hm) fun σ H Q ⟨hA, q⟩ => ⟨hA, fun u H1 u1 d1 => ⟨hA.lift u1, fun v H2 u2 d2 =>
    hr σ H2 u v _ ((hA.lift u1).lift u2) (dx_mono (bs_ext u2.ext) _ _ d1) d2 ⟨k, rfl, q H2 (u1.trans u2)⟩⟩⟩
theorem int_cmp {g : Int → Int → Bool} {σ : L2.St} {H : Hp} {u v : V} {Q : VK} (hA : At T H0 w es σ H) (h1 : Dx (Bs w σ H) u (.int i)) (h2 : Dx (Bs w σ H) v (.int j)) (q : Q (.bl (g i j)) H) : rI0 (fun i j => .bl (g i j)) u v H Q :=
  ⟨i, j, dx_int h1, dx_int h2, q⟩
theorem int_eq {σ : L2.St} {H : Hp} {u v : V} {Q : VK} (hA : At T H0 w es σ H) (h1 : Dx (Bs w σ H) u (.int i)) (h2 : Dx (Bs w σ H) v (.int j)) (q : Q (.bl (i == j)) H) : rEq u v H Q := by
  rw [dx_int h1, dx_int h2]
  exact ⟨rfl, by rw [dec_int]; exact q⟩
theorem int_ne {σ : L2.St} {H : Hp} {u v : V} {Q : VK} (hA : At T H0 w es σ H) (h1 : Dx (Bs w σ H) u (.int i)) (h2 : Dx (Bs w σ H) v (.int j)) (q : Q (.bl (!(i == j))) H) : rNe u v H Q := by
  rw [dx_int h1, dx_int h2]
  exact ⟨rfl, by rw [dec_int]; exact q⟩
theorem j_lt (ha : J X T H0 w es a (.int i)) (hb : J X T H0 w es b (.int j)) : J X T H0 w es (.Compare a [.Lt] [b] pos) (.bool (decide (i < j))) := j_cmpV op_lt ha hb (fun _ _ _ _ _ hA h1 h2 q => int_cmp (g := fun i j => decide (i < j)) hA h1 h2 q) (nomark _)
theorem j_le (ha : J X T H0 w es a (.int i)) (hb : J X T H0 w es b (.int j)) : J X T H0 w es (.Compare a [.LtE] [b] pos) (.bool (decide (i ≤ j))) := j_cmpV op_le ha hb (fun _ _ _ _ _ hA h1 h2 q => int_cmp (g := fun i j => decide (i ≤ j)) hA h1 h2 q) (nomark _)
theorem j_gt (ha : J X T H0 w es a (.int i)) (hb : J X T H0 w es b (.int j)) : J X T H0 w es (.Compare a [.Gt] [b] pos) (.bool (decide (j < i))) := j_cmpV op_gt ha hb (fun _ _ _ _ _ hA h1 h2 q => int_cmp (g := fun i j => decide (j < i)) hA h1 h2 q) (nomark _)
theorem j_ge (ha : J X T H0 w es a (.int i)) (hb : J X T H0 w es b (.int j)) : J X T H0 w es (.Compare a [.GtE] [b] pos) (.bool (decide (j ≤ i))) := j_cmpV op_ge ha hb (fun _ _ _ _ _ hA h1 h2 q => int_cmp (g := fun i j => decide (j ≤ i)) hA h1 h2 q) (nomark _)
theorem j_eq (ha : J X T H0 w es a (.int i)) (hb : J X T H0 w es b (.int j)) : J X T H0 w es (.Compare a [.Eq] [b] pos) (.bool (i == j)) := j_cmpV op_eq ha hb (fun _ _ _ _ _ hA h1 h2 q => int_eq hA h1 h2 q) (nomark _)
theorem jt_lt (ha : J X T H0 w es a (.int i)) (hb : J X T H0 w es b (.int j)) : JT X T H0 w es (.Compare a [.Lt] [b] pos) (decide (i < j)) := jt_cmpV op_lt ha hb (fun _ _ _ _ _ hA h1 h2 q => int_cmp (g := fun i j => decide (i < j)) hA h1 h2 q) (nomark _)
theorem jt_le (ha : J X T H0 w es a (.int i)) (hb : J X T H0 w es b (.int j)) : JT X T H0 w es (.Compare a [.LtE] [b] pos) (decide (i ≤ j)) := jt_cmpV op_le ha hb (fun _ _ _ _ _ hA h1 h2 q => int_cmp (g := fun i j => decide (i ≤ j)) hA h1 h2 q) (nomark _)
theorem jt_gt (ha : J X T H0 w es a (.int i)) (hb : J X T H0 w es b (.int j)) : JT X T H0 w es (.Compare a [.Gt] [b] pos) (decide (j < i)) := jt_cmpV op_gt ha hb (fun _ _ _ _ _ hA h1 h2 q => int_cmp (g := fun i j => decide (j < i)) hA h1 h2 q) (nomark _)
theorem jt_ge (ha : J X T H0 w es a (.int i)) (hb : J X T H0 w es b (.int j)) : JT X T H0 w es (.Compare a [.GtE] [b] pos) (decide (j ≤ i)) := jt_cmpV op_ge ha hb (fun _ _ _ _ _ hA h1 h2 q => int_cmp (g := fun i j => decide (j ≤ i)) hA h1 h2 q) (nomark _)
theorem jt_eq (ha : J X T H0 w es a (.int i)) (hb : J X T H0 w es b (.int j)) : JT X T H0 w es (.Compare a [.Eq] [b] pos) (i == j) := jt_cmpV op_eq ha hb (fun _ _ _ _ _ hA h1 h2 q => int_eq hA h1 h2 q) (nomark _)
theorem jt_ne (ha : J X T H0 w es a (.int i)) (hb : J X T H0 w es b (.int j)) : JT X T H0 w es (.Compare a [.NotEq] [b] pos) (!(i == j)) := jt_cmpV op_ne ha hb (fun _ _ _ _ _ hA h1 h2 q => int_ne hA h1 h2 q) (nomark _)
theorem str_eq {x y : Str} {u v : V} {H : Hp} {σ : L2.St} {Q : VK} (h1 : Dx (Bs w σ H) u (.str x)) (h2 : Dx (Bs w σ H) v (.str y)) (q : Q (.bl (x == y)) H) : rEq u v H Q := by
  rw [dx_str h1, dx_str h2]
  exact ⟨rfl, by rw [dec_str]; exact q⟩
theorem str_ne {x y : Str} {u v : V} {H : Hp} {σ : L2.St} {Q : VK} (h1 : Dx (Bs w σ H) u (.str x)) (h2 : Dx (Bs w σ H) v (.str y)) (q : Q (.bl (!(x == y))) H) : rNe u v H Q := by
  rw [dx_str h1, dx_str h2]
  exact ⟨rfl, by rw [dec_str]; exact q⟩
theorem j_eqS {x y : Str} (ha : J X T H0 w es a (.str x)) (hb : J X T H0 w es b (.str y)) : J X T H0 w es (.Compare a [.Eq] [b] pos) (.bool (x == y)) := j_cmpV op_eq ha hb (fun _ _ _ _ _ hA h1 h2 q => str_eq h1 h2 q) (nomark _)
theorem jt_neS {x y : Str} (ha : J X T H0 w es a (.str x)) (hb : J X T H0 w es b (.str y)) : JT X T H0 w es (.Compare a [.NotEq] [b] pos) (!(x == y)) := jt_cmpV op_ne ha hb (fun _ _ _ _ _ hA h1 h2 q => str_ne h1 h2 q) (nomark _)
def isNon : PyData → Bool
  | .none => true
  | _ => false
theorem isNon_of {H : Hp} {u : V} {x : PyData} (h : Dx H u x) : decide (u = .non) = isNon x := by
  cases h <;> rfl
theorem jt_isN {x : PyData} {n : Nat} {p : Pos} (ha : J X T H0 w es a x) : JT X T H0 w es (.Compare a [.Is] [.Constant .none n p] pos) (isNon x) :=
  jt_cmpV op_isN ha j_non (fun _ _ _ _ _ hA h1 h2 q => ⟨dx_non h2, by rw [isNon_of h1]; exact q⟩) (nomark _)
theorem jt_notN {x : PyData} {n : Nat} {p : Pos} (ha : J X T H0 w es a x) : JT X T H0 w es (.Compare a [.IsNot] [.Constant .none n p] pos) (!isNon x) :=
  jt_cmpV op_notN ha j_non (fun _ _ _ _ _ hA h1 h2 q => ⟨dx_non h2, by rw [isNon_of h1]; exact q⟩) (nomark _)
/-- an int in a tuple of ints -/
theorem inV_ints (n : Int) : ∀ ns : List Int, inV (.int n) (ns.map V.int) = ns.contains n
  | [] => rfl
  | m :: ns => by
    have ih := inV_ints n ns
    unfold inV at ih ⊢
    rw [List.map_cons, List.any_cons, ih, List.contains_cons]
    have e : eqV (.int m) (.int n) = (n == m) := by
      show (m == n) = (n == m)
      rw [Bool.beq_comm]
    rw [e]
theorem flat_ints : ∀ ns : List Int, (ns.map V.int).all flatV = true
  | [] => rfl
  | m :: ns => by rw [List.map_cons, List.all_cons, flat_ints ns]; rfl
theorem jt_inT {n : Int} {ns : List Int} (ha : J X T H0 w es a (.int n)) (hb : J X T H0 w es b (.tuple (ns.map .int))) (hm : behindInMarks .In b = false := by rfl) : JT X T H0 w es (.Compare a [.In] [b] pos) (ns.contains n) :=
  jt_cmpV op_in_seq ha hb (fun _ _ u v _ hA h1 h2 q => by
    obtain ⟨p, xs, e, hs, hd⟩ := dx_tup h2
    have e2 := dxa_ints hd
    subst e2
    refine ⟨p, _, e, .inr (.inl (rdt_mono bs_sub hs)), by rw [dx_int h1]; rfl, flat_ints _, ?_⟩
    rw [dx_int h1, inV_ints]
    exact q) hm
/-- lo <= x <= hi -/
theorem j_chainLe (ha : J X T H0 w es a (.int i)) (hb : J X T H0 w es b (.int j)) (hc : J X T H0 w es c (.int k)) (hs : PE X (.Compare a [.LtE, .LtE] [b, c] pos) (tChain (rI0 fun i j => .bl (decide (i ≤ j))) (rI0 fun i j => .bl (decide (i ≤ j))) (tE T H0 w es (.int i)) (tE T H0 w es (.int j)) (tE T H0 w es (.int k)))) :
    J X T H0 w es (.Compare a [.LtE, .LtE] [b, c] pos) (.bool (decide (i ≤ j) && decide (j ≤ k))) :=
  weakE hs fun σ H Q ⟨hA, q⟩ => ⟨hA, fun u H1 u1 d1 => ⟨hA.lift u1, fun v H2 u2 d2 => ⟨i, j, dx_int (dx_mono (bs_ext u2.ext) _ _ d1), dx_int d2, decide (i ≤ j), rfl, by
    by_cases e : i ≤ j
    · rw [decide_eq_true e] at q ⊢
      exact iteT ⟨(hA.lift u1).lift u2, fun x H3 u3 d3 => ⟨j, k, dx_int d2, dx_int d3, q _ H3 ((u1.trans u2).trans u3) (.bl _)⟩⟩
    · rw [decide_eq_false e] at q ⊢
      exact iteF (q _ H2 (u1.trans u2) (.bl _))⟩⟩⟩
theorem jt_chainLe (ha : J X T H0 w es a (.int i)) (hb : J X T H0 w es b (.int j)) (hc : J X T H0 w es c (.int k)) (hs : PT X (.Compare a [.LtE, .LtE] [b, c] pos) (tTest (tChain (rI0 fun i j => .bl (decide (i ≤ j))) (rI0 fun i j => .bl (decide (i ≤ j))) (tE T H0 w es (.int i)) (tE T H0 w es (.int j)) (tE T H0 w es (.int k))))) :
    JT X T H0 w es (.Compare a [.LtE, .LtE] [b, c] pos) (decide (i ≤ j) && decide (j ≤ k)) :=
  weakT hs fun σ H Q ⟨hA, q⟩ => ⟨hA, fun u H1 u1 d1 => ⟨hA.lift u1, fun v H2 u2 d2 => ⟨i, j, dx_int (dx_mono (bs_ext u2.ext) _ _ d1), dx_int d2, decide (i ≤ j), rfl, by
    by_cases e : i ≤ j
    · rw [decide_eq_true e] at q ⊢
      exact iteT ⟨(hA.lift u1).lift u2, fun x H3 u3 d3 => ⟨j, k, dx_int d2, dx_int d3, _, rfl, q H3 ((u1.trans u2).trans u3)⟩⟩
    · rw [decide_eq_false e] at q ⊢
      exact iteF ⟨_, rfl, q H2 (u1.trans u2)⟩⟩⟩⟩
/-! ### tests -/
variable {x y : Bool} {rest : List Expr}
theorem jt_val (h : J X T H0 w es a (.bool x)) (he : ∀ whole, isTrue a X.env whole = (do let v ← whole; standAt a.pos; holding [v] (truthy v)) := by intro _; rfl) : JT X T H0 w es a x :=
  weakT (pt_val h he) fun σ H Q ⟨hA, q⟩ => ⟨hA, fun u H1 u1 d1 => ⟨x, dx_bl d1, q H1 u1⟩⟩
theorem jt_not (h : JT X T H0 w es a x) : JT X T H0 w es (.UnaryOp .Not a pos) (!x) := weakT (pt_not h) fun σ H Q ⟨hA, q⟩ => ⟨hA, fun H1 u1 => q H1 u1⟩
theorem jw_and1 (h : JT X T H0 w es a x) : JW X T H0 w es (.BoolOp .And [a] pos) x := pw_and1 h
theorem jw_or1 (h : JT X T H0 w es a x) : JW X T H0 w es (.BoolOp .Or [a] pos) x := pw_or1 h
theorem jw_and (h1 : JT X T H0 w es a x) (h2 : x = true → JW X T H0 w es (.BoolOp .And (b :: rest) pos) y) : JW X T H0 w es (.BoolOp .And (a :: b :: rest) pos) (x && y) := by
  cases x with
  | true => exact weakW (pw_and h1 (h2 rfl)) fun σ H Q ⟨hA, q⟩ => ⟨hA, fun H1 u1 => iteT ⟨hA.lift u1, fun H2 u2 => q H2 (u1.trans u2)⟩⟩
  | false => exact weakW (pw_and (tB' := fun _ _ _ => False) h1 ⟨fun _ _ _ _ _ _ _ z => z.elim⟩) fun σ H Q ⟨hA, q⟩ => ⟨hA, fun H1 u1 => iteF (q H1 u1)⟩
theorem jw_or (h1 : JT X T H0 w es a x) (h2 : x = false → JW X T H0 w es (.BoolOp .Or (b :: rest) pos) y) : JW X T H0 w es (.BoolOp .Or (a :: b :: rest) pos) (x || y) := by
  cases x with
  | true => exact weakW (pw_or (tB' := fun _ _ _ => False) h1 ⟨fun _ _ _ _ _ _ _ z => z.elim⟩) fun σ H Q ⟨hA, q⟩ => ⟨hA, fun H1 u1 => iteT (q H1 u1)⟩
  | false => exact weakW (pw_or h1 (h2 rfl)) fun σ H Q ⟨hA, q⟩ => ⟨hA, fun H1 u1 => iteF ⟨hA.lift u1, fun H2 u2 => q H2 (u1.trans u2)⟩⟩
theorem j_one {op : BoolOp} (h : J X T H0 w es a d) : J X T H0 w es (.BoolOp op [a] pos) d := pe_one h
theorem j_and (h1 : J X T H0 w es a (.bool x)) (h2 : x = true → J X T H0 w es (.BoolOp .And (b :: rest) pos) (.bool y)) : J X T H0 w es (.BoolOp .And (a :: b :: rest) pos) (.bool (x && y)) := by
  cases x with
  | true => exact weakE (pe_and h1 (h2 rfl)) fun σ H Q ⟨hA, q⟩ => ⟨hA, fun u H1 u1 d1 => ⟨true, dx_bl d1, iteT ⟨hA.lift u1, fun v H2 u2 d2 => q v H2 (u1.trans u2) d2⟩⟩⟩
  | false => exact weakE (pe_and (tb := fun _ _ _ => False) h1 ⟨fun _ _ _ _ _ _ z => z.elim⟩) fun σ H Q ⟨hA, q⟩ => ⟨hA, fun u H1 u1 d1 => ⟨false, dx_bl d1, iteF (q _ H1 u1 (.bl _))⟩⟩
theorem j_not (h : J X T H0 w es a (.bool x)) : J X T H0 w es (.UnaryOp .Not a pos) (.bool (!x)) :=
  weakE (pe_not h) fun σ H Q ⟨hA, q⟩ => ⟨hA, fun u H1 u1 d1 => ⟨x, dx_bl d1, q _ H1 u1 (.bl _)⟩⟩
theorem j_ifExp (hc : JT X T H0 w es c x) (ha : x = true → J X T H0 w es a d) (hb : x = false → J X T H0 w es b d) : J X T H0 w es (.IfExp c a b pos) d := by
  cases x with
  | true => exact weakE (pe_ifExp (tb := fun _ _ _ => False) hc (ha rfl) ⟨fun _ _ _ _ _ _ z => z.elim⟩) fun σ H Q ⟨hA, q⟩ => ⟨hA, fun H1 u1 => iteT ⟨hA.lift u1, fun v H2 u2 d2 => q v H2 (u1.trans u2) d2⟩⟩
  | false => exact weakE (pe_ifExp (ta := fun _ _ _ => False) hc ⟨fun _ _ _ _ _ _ z => z.elim⟩ (hb rfl)) fun σ H Q ⟨hA, q⟩ => ⟨hA, fun H1 u1 => iteF ⟨hA.lift u1, fun v H2 u2 d2 => q v H2 (u1.trans u2) d2⟩⟩
end
end G
set_option Elab.async false
set_option linter.all false
set_option maxRecDepth 100000
set_option maxHeartbeats 4000000
namespace G
open PySem PySem.Spec PyProof.Rows L2
theorem line_of {n : Nat} (h : n ≤ 100000) : n ≤ sizeLine := Nat.le_trans h (by decide)
theorem line_lt {n : Nat} (h : n < 100000) : n < sizeLine := Nat.lt_of_lt_of_le h (by decide)
/-- what a def promises: from data to data; to a new list -/
def spD (T : Tl) (R : List PyData → PyData → Prop) : Sp := fun vs H Q _ => LamX.Tabs T H ∧ ∃ ds d, DxAll H vs ds ∧ R ds d ∧ ∀ v H', Up T H H' → Dx H' v d → Q v H'
def spN (T : Tl) (R : List PyData → List PyData → Prop) : Sp := fun vs H Q _ => LamX.Tabs T H ∧ ∃ ds rs, DxAll H vs ds ∧ R ds rs ∧ ∀ p H' us, Vac H p → Up T H H' → H' p = some (.lst us) → DxAll (cut H' p) us rs → Q (.ref p) H'
/-- a def that is known by its name -/
structure Fd (P : Program) (w : World) (K : PySem.W.Frag) (mg : Str → Option Value) (base : Heap) (k : Nat) (x : Str) (sp : Sp) : Prop where
  ex : ∃ (f : Addr) (fd : FuncData) (ps : List Str), FnOk P w K mg base CX0 k f fd ps sp ∧ mg x = some (.ref f) ∧ PySem.W.keepIn K (.ref f) = true ∧ Binds K fd ps []
section
variable {X : Cx} {T : Tl} {H0 : Hp} {w : Ow} {es : Es} {a b c e : Expr} {xs : List Expr} {pos p : Pos} {d : PyData} {ds rs : List PyData}
/-! ### arguments -/
theorem ja_nil : JA X T H0 w es [] [] := weakA pa_nil fun σ H Q ⟨hA, q⟩ => q [] H Up.refl .nil
theorem ja_cons (ha : J X T H0 w es a d) (hr : JA X T H0 w es xs ds) (hs : starEach (a :: xs) X.env = (false, eval a X.env) :: starEach xs X.env := by rfl) : JA X T H0 w es (a :: xs) (d :: ds) :=
  weakA (pa_cons ha hr hs) fun σ H Q ⟨hA, q⟩ => ⟨hA, fun v H1 u1 d1 => ⟨hA.lift u1, fun vs H2 u2 d2 => q _ H2 (u1.trans u2) (.cons (dx_mono (bs_ext u2.ext) _ _ d1) d2)⟩⟩
theorem ja_starT (ha : J X T H0 w es a (.tuple rs)) (hr : JA X T H0 w es xs ds) (hs : starEach (.Starred a p :: xs) X.env = (true, eval a X.env) :: starEach xs X.env := by rfl) : JA X T H0 w es (.Starred a p :: xs) (rs ++ ds) :=
  weakA (StX.pa_star ha hr hs) fun σ H Q ⟨hA, q⟩ => ⟨hA, fun v H1 u1 d1 => by
    obtain ⟨l, us, e, hl, hd⟩ := dx_tup d1
    exact ⟨l, us, e, .inl (.inl (rdt_mono bs_sub hl)), hA.lift u1, fun vs H2 u2 d2 => q _ H2 (u1.trans u2) (dxa_app (dxa_mono (bs_ext u2.ext) _ _ hd) d2)⟩⟩
theorem ja_starL (ha : J X T H0 w es a (.list rs)) (hr : JA X T H0 w es xs ds) (hs : starEach (.Starred a p :: xs) X.env = (true, eval a X.env) :: starEach xs X.env := by rfl) : JA X T H0 w es (.Starred a p :: xs) (rs ++ ds) :=
  weakA (StX.pa_star ha hr hs) fun σ H Q ⟨hA, q⟩ => ⟨hA, fun v H1 u1 d1 => by
    obtain ⟨l, us, e, hl, hd⟩ := dx_lst d1
    exact ⟨l, us, e, .inr (.inl (rdl_mono bs_sub hl)), hA.lift u1, fun vs H2 u2 d2 => q _ H2 (u1.trans u2) (dxa_app (dxa_mono (bs_ext u2.ext) _ _ hd) d2)⟩⟩
/-! ### displays -/
theorem new_tup {σ : L2.St} {H : Hp} {q : Addr} {us : List V} (hA : At T H0 w es σ H) (hq : H q = none) (hd : DxAll (Bs w σ H) us ds) : Dx (Bs w σ (upd H q (.tup us))) (.ref q) (.tuple ds) := by
  have e := hA.bsNew (o := .tup us) hq
  refine .tup (.inl ?_) (dxa_mono (bs_ext (Up.new (T := T) hq).ext) _ _ hd)
  rw [e, upd_same]
theorem new_lst {σ : L2.St} {H : Hp} {q : Addr} {us : List V} (hA : At T H0 w es σ H) (hq : H q = none) (hd : DxAll (Bs w σ H) us ds) : DxAll (cut (Bs w σ (upd H q (.lst us))) q) us ds := by
  rw [hA.bsNew (o := .lst us) hq, cut_upd]
  rw [cut_id (bs_no hq)]
  exact hd
theorem j_tup {n : Nat} (h : JA X T H0 w es xs ds) (hl : ds.length ≤ 100000 := by first | decide | exact Nat.le_of_ble_eq_true rfl) : J X T H0 w es (.Tuple xs n pos) (.tuple ds) :=
  weakE (pe_tup h) fun σ H Q ⟨hA, q⟩ => ⟨hA, fun vs H1 u1 d1 => ⟨by rw [dxa_len d1]; exact line_of hl, fun p hp => q _ _ (u1.trans (Up.new hp)) (new_tup (hA.lift u1) hp d1)⟩⟩
theorem jn_lst (h : JA X T H0 w es xs ds) (hl : ds.length ≤ 100000 := by first | decide | exact Nat.le_of_ble_eq_true rfl) : JN X T H0 w es (.List xs pos) ds :=
  weakE (pe_lst h) fun σ H Q ⟨hA, q⟩ => ⟨hA, fun vs H1 u1 d1 => ⟨by rw [dxa_len d1]; exact line_of hl, fun p hp => q p _ vs (.of u1 hp) (u1.trans (Up.new hp)) upd_same (new_lst (hA.lift u1) hp d1)⟩⟩
theorem dx_new {σ : L2.St} {H H' : Hp} {q : Addr} {us : List V} (hA : At T H0 w es σ H) (hv : Vac H q) (u : Up T H H') (hq : H' q = some (.lst us)) (hd : DxAll (cut (Bs w σ H') q) us ds) : Dx (Bs w σ H') (.ref q) (.list ds) := by
  exact .lst (.inl (bs_at hq fun l hl => hA.ownNv hv hl)) (dxa_mono cut_sub _ _ hd)
theorem jn (h : JN X T H0 w es e ds) : J X T H0 w es e (.list ds) :=
  weakE h fun σ H Q ⟨hA, q⟩ => ⟨hA, fun p H' vs hv u hp hd => q _ H' u (dx_new hA hv u hp hd)⟩
/-! ### calls of the text's defs -/
variable {k : Nat} {x : Str} {R : List PyData → PyData → Prop} {RN : List PyData → List PyData → Prop} {E : XK}
theorem j_call (F : Fd X.prog X.w X.K X.mg X.base k x (spD T R)) (hr : Room k X.A) (ha : JA X T H0 w es (a :: xs) ds) (hR : R ds d) (f : w = none ∨ flat d = true := by first | exact Or.inl rfl | exact Or.inr rfl) (hg : Gl X x := by rfl) (hdb : (x == ("__debug__" : Str)) = false := by decide)
    (he : starEach (a :: xs) X.env = (false, eval a X.env) :: starEach xs X.env := by rfl) (hpl : (backTo pos (starEach xs X.env)).any (·.1) = false := by rfl) : J X T H0 w es (.Call (.Name x p) (a :: xs) [] pos) d := by
  obtain ⟨fa, fd, ps, G, hm, hk, hb⟩ := F.ex
  refine weakE (pe_call G hr hg hm hk hb .nil pass0 ha hdb he hpl) fun σ H Q ⟨hA, q⟩ => ⟨hA, fun vs H1 u1 h1 => ?_⟩
  show spD T R (vs ++ []) H1 Q E0
  rw [List.append_nil]
  exact ⟨(hA.lift u1).tab, ds, d, dxa_mono bs_sub _ _ h1, hR, fun v H2 u2 h2 => q v H2 (u1.trans u2) (((hA.lift u1).lift u2).strong f h2)⟩
theorem jn_call (F : Fd X.prog X.w X.K X.mg X.base k x (spN T RN)) (hr : Room k X.A) (ha : JA X T H0 w es (a :: xs) ds) (hR : RN ds rs) (f : w = none ∨ flat.flatAll rs = true) (hg : Gl X x := by rfl) (hdb : (x == ("__debug__" : Str)) = false := by decide)
    (he : starEach (a :: xs) X.env = (false, eval a X.env) :: starEach xs X.env := by rfl) (hpl : (backTo pos (starEach xs X.env)).any (·.1) = false := by rfl) : JN X T H0 w es (.Call (.Name x p) (a :: xs) [] pos) rs := by
  obtain ⟨fa, fd, ps, G, hm, hk, hb⟩ := F.ex
  refine weakE (pe_call G hr hg hm hk hb .nil pass0 ha hdb he hpl) fun σ H Q ⟨hA, q⟩ => ⟨hA, fun vs H1 u1 h1 => ?_⟩
  show spN T RN (vs ++ []) H1 Q E0
  rw [List.append_nil]
  refine ⟨(hA.lift u1).tab, ds, rs, dxa_mono bs_sub _ _ h1, hR, fun r H2 us hv u2 hr2 h2 => q r H2 us (hv.back u1) (u1.trans u2) hr2 ?_⟩
  rcases f with f | f
  · subst f
    exact h2
  · have hA2 := (hA.lift u1).lift u2
    refine dxa_flat (H := cut H2 r) ⟨fun a ys e => ?_, fun a o ys e => ?_⟩ rs us f h2
    · obtain ⟨n1, e1⟩ := cut_some e
      rw [cut_ne n1]
      exact hA2.tupN.1 _ _ e1
    · obtain ⟨n1, e1⟩ := cut_some e
      rw [cut_ne n1]
      exact hA2.tupN.2 _ _ _ e1
/-! ### built-ins by values -/
variable {id : String} {r : List V → Hp → VK → Prop}
theorem j_bi (hc : CallR X (.builtin id) r) (hm : X.mg x = none) (ha : JA X T H0 w es (a :: xs) ds)
    (hr : ∀ (σ : L2.St) (H : Hp) (vs : List V) (Q : VK), At T H0 w es σ H → DxAll (Bs w σ H) vs ds → (∀ v H', Up T H H' → Dx (Bs w σ H') v d → Q v H') → r vs H Q)
    (hv : bootBuiltins x = some (.builtin id) := by decide +kernel) (hg : Gl X x := by rfl) (hn : x ≠ "__name__" := by decide) (hdb : (x == ("__debug__" : Str)) = false := by decide)
    (he : starEach (a :: xs) X.env = (false, eval a X.env) :: starEach xs X.env := by rfl) (hpl : (backTo pos (starEach xs X.env)).any (·.1) = false := by rfl) : J X T H0 w es (.Call (.Name x p) (a :: xs) [] pos) d :=
  weakE (pe_callB hc hg hm hv ha hn hdb he hpl) fun σ H Q ⟨hA, q⟩ => ⟨hA, fun vs H1 u1 h1 => hr σ H1 vs Q (hA.lift u1) h1 fun v H2 u2 h2 => q v H2 (u1.trans u2) h2⟩
theorem j_ty (hc : CallR X (.type id) r) (hm : X.mg x = none) (ha : JA X T H0 w es (a :: xs) ds)
    (hr : ∀ (σ : L2.St) (H : Hp) (vs : List V) (Q : VK), At T H0 w es σ H → DxAll (Bs w σ H) vs ds → (∀ v H', Up T H H' → Dx (Bs w σ H') v d → Q v H') → r vs H Q)
    (hv : bootBuiltins x = some (.type id) := by decide +kernel) (hg : Gl X x := by rfl) (hn : x ≠ "__name__" := by decide) (hdb : (x == ("__debug__" : Str)) = false := by decide)
    (he : starEach (a :: xs) X.env = (false, eval a X.env) :: starEach xs X.env := by rfl) (hpl : (backTo pos (starEach xs X.env)).any (·.1) = false := by rfl) : J X T H0 w es (.Call (.Name x p) (a :: xs) [] pos) d :=
  weakE (pe_callTy hc hg hm hv ha hn hdb he hpl) fun σ H Q ⟨hA, q⟩ => ⟨hA, fun vs H1 u1 h1 => hr σ H1 vs Q (hA.lift u1) h1 fun v H2 u2 h2 => q v H2 (u1.trans u2) h2⟩
variable {y : Expr} {i j : Int}
theorem j_lenL (hm : X.mg "len" = none) (ha : J X T H0 w es a (.list ds)) (hg : Gl X "len" := by rfl) (he : starEach (a :: []) X.env = (false, eval a X.env) :: starEach [] X.env := by rfl) : J X T H0 w es (.Call (.Name "len" p) [a] [] pos) (.int (ds.length : Int)) :=
  j_bi call_len_seq hm (ja_cons ha ja_nil he) (fun σ H vs Q hA h q => by
    cases h with
    | cons h1 h2 =>
      cases h2
      obtain ⟨l, us, e, hl, hd⟩ := dx_lst h1
      subst e
      refine ⟨l, us, rfl, .inl (.inl (rdl_mono bs_sub hl)), ?_⟩
      rw [dxa_len hd]
      exact q _ H Up.refl (.int _)) PySem.boot_len hg (by decide) (by decide) he
theorem j_lenT (hm : X.mg "len" = none) (ha : J X T H0 w es a (.tuple ds)) (hg : Gl X "len" := by rfl) (he : starEach (a :: []) X.env = (false, eval a X.env) :: starEach [] X.env := by rfl) : J X T H0 w es (.Call (.Name "len" p) [a] [] pos) (.int (ds.length : Int)) :=
  j_bi call_len_seq hm (ja_cons ha ja_nil he) (fun σ H vs Q hA h q => by
    cases h with
    | cons h1 h2 =>
      cases h2
      obtain ⟨l, us, e, hl, hd⟩ := dx_tup h1
      subst e
      refine ⟨l, us, rfl, .inr (.inl (rdt_mono bs_sub hl)), ?_⟩
      rw [dxa_len hd]
      exact q _ H Up.refl (.int _)) PySem.boot_len hg (by decide) (by decide) he
theorem j_sum {ns : List Int} (hc : X.calm = true) (hm : X.mg "sum" = none) (ha : J X T H0 w es a (.list (ns.map .int))) (hg : Gl X "sum" := by rfl) (he : starEach (a :: []) X.env = (false, eval a X.env) :: starEach [] X.env := by rfl) : J X T H0 w es (.Call (.Name "sum" p) [a] [] pos) (.int ns.sum) :=
  j_bi (cr_sum hc) hm (ja_cons ha ja_nil he) (fun σ H vs Q hA h q => by
    cases h with
    | cons h1 h2 =>
      cases h2
      obtain ⟨l, us, e, hl, hd⟩ := dx_lst h1
      subst e
      have e2 := dxa_ints hd
      subst e2
      exact ⟨l, ns, rfl, .inl (rdl_mono bs_sub hl), q _ H Up.refl (.int _)⟩) (by decide +kernel) hg (by decide) (by decide) he
theorem j_all {bs : List Bool} (hc : X.calm = true) (hm : X.mg "all" = none) (ha : J X T H0 w es a (.list (bs.map .bool))) (hg : Gl X "all" := by rfl) (he : starEach (a :: []) X.env = (false, eval a X.env) :: starEach [] X.env := by rfl) : J X T H0 w es (.Call (.Name "all" p) [a] [] pos) (.bool (bs.all _root_.id)) :=
  j_bi (cr_all hc) hm (ja_cons ha ja_nil he) (fun σ H vs Q hA h q => by
    cases h with
    | cons h1 h2 =>
      cases h2
      obtain ⟨l, us, e, hl, hd⟩ := dx_lst h1
      subst e
      have e2 := dxa_bls hd
      subst e2
      exact ⟨l, bs, rfl, .inl (rdl_mono bs_sub hl), q _ H Up.refl (.bl _)⟩) (by decide +kernel) hg (by decide) (by decide) he
theorem j_maxL {ns : List Int} {m : Int} (hc : X.calm = true) (hm : X.mg "max" = none) (h1 : m ∈ ns) (h2 : ∀ y ∈ ns, y ≤ m) (ha : J X T H0 w es a (.list (ns.map .int))) (hg : Gl X "max" := by rfl) (he : starEach (a :: []) X.env = (false, eval a X.env) :: starEach [] X.env := by rfl) : J X T H0 w es (.Call (.Name "max" p) [a] [] pos) (.int m) :=
  j_bi (cr_max hc) hm (ja_cons ha ja_nil he) (fun σ H vs Q hA h q => by
    cases h with
    | cons k1 k2 =>
      cases k2
      obtain ⟨l, us, e, hl, hd⟩ := dx_lst k1
      subst e
      have e2 := dxa_ints hd
      subst e2
      refine ⟨l, ns, rfl, .inl (rdl_mono bs_sub hl), List.length_pos_of_mem h1, fun z hz hle => ?_⟩
      have ez : z = m := Int.le_antisymm (h2 z hz) (hle m h1)
      rw [ez]
      exact q _ H Up.refl (.int _)) (by decide +kernel) hg (by decide) (by decide) he
theorem j_max2 (hc : X.calm = true) (hm : X.mg "max" = none) (ha : J X T H0 w es a (.int i)) (hb : J X T H0 w es b (.int j)) (hg : Gl X "max" := by rfl) (he : starEach [a, b] X.env = (false, eval a X.env) :: starEach [b] X.env := by rfl) (he2 : starEach [b] X.env = (false, eval b X.env) :: starEach [] X.env := by rfl) (hpl : (backTo pos (starEach [b] X.env)).any (·.1) = false := by rfl) : J X T H0 w es (.Call (.Name "max" p) [a, b] [] pos) (.int (if j > i then j else i)) :=
  j_bi (call_max2 hc) hm (ja_cons ha (ja_cons hb ja_nil he2) he) (fun σ H vs Q hA h q => by
    cases h with
    | cons k1 k2 =>
      cases k2 with
      | cons k2 k3 =>
        cases k3
        exact ⟨i, j, by rw [dx_int k1, dx_int k2], q _ H Up.refl (.int _)⟩) (by decide +kernel) hg (by decide) (by decide) he hpl
theorem j_min2 (hc : X.calm = true) (hm : X.mg "min" = none) (ha : J X T H0 w es a (.int i)) (hb : J X T H0 w es b (.int j)) (hg : Gl X "min" := by rfl) (he : starEach [a, b] X.env = (false, eval a X.env) :: starEach [b] X.env := by rfl) (he2 : starEach [b] X.env = (false, eval b X.env) :: starEach [] X.env := by rfl) (hpl : (backTo pos (starEach [b] X.env)).any (·.1) = false := by rfl) : J X T H0 w es (.Call (.Name "min" p) [a, b] [] pos) (.int (if j < i then j else i)) :=
  j_bi (call_min2 hc) hm (ja_cons ha (ja_cons hb ja_nil he2) he) (fun σ H vs Q hA h q => by
    cases h with
    | cons k1 k2 =>
      cases k2 with
      | cons k2 k3 =>
        cases k3
        exact ⟨i, j, by rw [dx_int k1, dx_int k2], q _ H Up.refl (.int _)⟩) (by decide +kernel) hg (by decide) (by decide) he hpl
theorem j_abs (hm : X.mg "abs" = none) (ha : J X T H0 w es a (.int i)) (hg : Gl X "abs" := by rfl) (he : starEach (a :: []) X.env = (false, eval a X.env) :: starEach [] X.env := by rfl) : J X T H0 w es (.Call (.Name "abs" p) [a] [] pos) (.int (if i < 0 then -i else i)) :=
  j_bi call_abs hm (ja_cons ha ja_nil he) (fun σ H vs Q hA h q => by
    cases h with
    | cons k1 k2 =>
      cases k2
      exact ⟨i, by rw [dx_int k1], q _ H Up.refl (.int _)⟩) (by decide +kernel) hg (by decide) (by decide) he
theorem j_intI (hm : X.mg "int" = none) (ha : J X T H0 w es a (.int i)) (hg : Gl X "int" := by rfl) (he : starEach (a :: []) X.env = (false, eval a X.env) :: starEach [] X.env := by rfl) : J X T H0 w es (.Call (.Name "int" p) [a] [] pos) (.int i) :=
  j_ty call_int1 hm (ja_cons ha ja_nil he) (fun σ H vs Q hA h q => by
    cases h with
    | cons k1 k2 =>
      cases k2
      exact .inl ⟨i, by rw [dx_int k1], q _ H Up.refl (.int _)⟩) (by decide +kernel) hg (by decide) (by decide) he
theorem j_intB {f : Bool} (hm : X.mg "int" = none) (ha : J X T H0 w es a (.bool f)) (hg : Gl X "int" := by rfl) (he : starEach (a :: []) X.env = (false, eval a X.env) :: starEach [] X.env := by rfl) : J X T H0 w es (.Call (.Name "int" p) [a] [] pos) (.int (if f then 1 else 0)) :=
  j_ty call_int1 hm (ja_cons ha ja_nil he) (fun σ H vs Q hA h q => by
    cases h with
    | cons k1 k2 =>
      cases k2
      exact .inr ⟨f, by rw [dx_bl k1], q _ H Up.refl (.int _)⟩) (by decide +kernel) hg (by decide) (by decide) he
/-! ### new lists and tuples out of others -/
theorem jn_listOf (hm : X.mg "list" = none) (ha : J X T H0 w es a (.list ds)) (hg : Gl X "list" := by rfl) (he : starEach (a :: []) X.env = (false, eval a X.env) :: starEach [] X.env := by rfl) : JN X T H0 w es (.Call (.Name "list" p) [a] [] pos) ds :=
  weakE (pe_callTy call_list_of hg hm (by decide +kernel) (ja_cons ha ja_nil he) (by decide) (by decide) he rfl) fun σ H Q ⟨hA, q⟩ => ⟨hA, fun vs H1 u1 h1 => by
    cases h1 with
    | cons k1 k2 =>
      cases k2
      obtain ⟨l, us, e, hl, hd⟩ := dx_lst k1
      subst e
      exact ⟨l, us, rfl, .inl (.inl (rdl_mono bs_sub hl)), fun n hn => q n _ us (.of u1 hn) (u1.trans (Up.new hn)) upd_same (new_lst (hA.lift u1) hn hd)⟩⟩
/-- list(x) of the list that is written -/
theorem jn_listOwn {m : Nat} {x : Str} {pp : Pos} (hm : X.mg "list" = none) (hN : X.N[m]? = some x := by rfl) (hg : Gl X "list" := by rfl) (hvs : Vis X.env.scope x := by first | exact Or.inl rfl | exact Or.inr (Or.inl rfl) | exact Or.inr (Or.inr rfl)) (hd : (x == ("__debug__" : Str)) = false := by decide)
    (hcd : (x == ("__classdict__" : Str)) = false := by decide) (he : starEach (.Name x pp :: []) X.env = (false, eval (.Name x pp) X.env) :: starEach [] X.env := by rfl) : JN X T H0 (some (m, ds)) es (.Call (.Name "list" p) [.Name x pp] [] pos) ds :=
  weakE (pe_callTy call_list_of hg hm (by decide +kernel) (pa_cons (pe_var (i := m) hN hvs hd hcd) pa_nil he) (by decide) (by decide) he rfl) fun σ H Q ⟨hA, q⟩ => by
    obtain ⟨l, us, h1, h2, h3, h4⟩ := hA.own m ds rfl
    refine ⟨.ref l, h1, l, us, rfl, .inl (.inl (.inl h3)), fun n hn => q n _ us (.none hn) (Up.new hn) upd_same ?_⟩
    refine new_lst hA hn ?_
    rw [bs_some (ownL_at h1)]
    exact h4
theorem rgV_data {H : Hp} (n : Nat) : DxAll H (rgV 0 (n : Int)) ((List.range n).map fun i => PyData.int (i : Nat)) := by
  unfold rgV
  have e : ((n : Int) - 0).toNat = n := by omega
  rw [e]
  have g : ∀ l : List Nat, DxAll H (l.map fun i => V.int (0 + (i : Nat))) (l.map fun i => PyData.int (i : Nat)) := by
    intro l
    induction l with
    | nil => exact .nil
    | cons i l ih =>
      rw [List.map_cons, List.map_cons]
      refine .cons ?_ ih
      rw [Int.zero_add]
      exact .int _
  exact g _
theorem j_tupRg {n : Nat} {p2 pos2 : Pos} (hc : X.calm = true) (hm : X.mg "tuple" = none) (hm2 : X.mg "range" = none) (hn : n ≤ 100000) (ha : J X T H0 w es a (.int (n : Int))) (hg : Gl X "tuple" := by rfl) (hg2 : Gl X "range" := by rfl)
    (he : starEach [a] X.env = (false, eval a X.env) :: starEach [] X.env := by rfl) (he2 : starEach [.Call (.Name "range" p2) [a] [] pos2] X.env = (false, eval (.Call (.Name "range" p2) [a] [] pos2) X.env) :: starEach [] X.env := by rfl) :
    J X T H0 w es (.Call (.Name "tuple" p) [.Call (.Name "range" p2) [a] [] pos2] [] pos) (.tuple ((List.range n).map fun i => .int (i : Nat))) :=
  weakE (pe_tupRg hc hg hm (prg_1 hg2 hm2 ha he) he2) fun σ H Q ⟨hA, q⟩ => ⟨hA, fun v H1 u1 d1 => ⟨(n : Int), dx_int d1, RgOk.of_le (by decide) (by omega) (by decide) (by omega), fun l hl => q _ _ (u1.trans (Up.new hl)) (new_tup (hA.lift u1) hl (rgV_data n))⟩⟩
/-! ### items, slices -/
theorem dxa_at {H : Hp} {us : List V} {i : Int} (h : DxAll H us ds) (e : atI ds i = some d) : ∃ v, atI us i = some v ∧ Dx H v d := by
  unfold atI at e ⊢
  rw [dxa_len h]
  cases q : ixN ds.length i with
  | none => rw [q] at e; cases e
  | some j =>
    rw [q] at e
    exact dxa_get h e
theorem j_ixT (ha : J X T H0 w es a (.tuple ds)) (hb : J X T H0 w es b (.int i)) (h : atI ds i = some d) (hs : PlainIx b := by exact fun _ _ => rfl) : J X T H0 w es (.Subscript a b pos) d :=
  weakE (pe_ix ix_tup ha hb hs) fun σ H Q ⟨hA, q⟩ => ⟨hA, fun u H1 u1 d1 => ⟨hA.lift u1, fun v H2 u2 d2 => by
    obtain ⟨l, us, e, hl, hd⟩ := dx_tup d1
    obtain ⟨v', e1, e2⟩ := dxa_at (dxa_mono (bs_ext u2.ext) _ _ hd) h
    exact ⟨l, us, i, v', e, dx_int d2, .inl (rdt_mono bs_sub (rdt_mono (bs_ext u2.ext) hl)), e1, q v' H2 (u1.trans u2) e2⟩⟩⟩
theorem j_ixL (ha : J X T H0 w es a (.list ds)) (hb : J X T H0 w es b (.int i)) (h : atI ds i = some d) (hs : PlainIx b := by exact fun _ _ => rfl) : J X T H0 w es (.Subscript a b pos) d :=
  weakE (pe_ix ix_list ha hb hs) fun σ H Q ⟨hA, q⟩ => ⟨hA, fun u H1 u1 d1 => ⟨hA.lift u1, fun v H2 u2 d2 => by
    obtain ⟨l, us, e, hl, hd⟩ := dx_lst d1
    obtain ⟨v', e1, e2⟩ := dxa_at (dxa_mono (bs_ext u2.ext) _ _ hd) h
    exact ⟨l, us, i, v', e, dx_int d2, .inl (rdl_mono bs_sub (rdl_mono (bs_ext u2.ext) hl)), e1, q v' H2 (u1.trans u2) e2⟩⟩⟩
theorem cut_to (us : List V) (n : Nat) : cutV us none (some (n : Int)) = us.take n := by
  unfold cutV
  rw [HT.sIx_none, HT.sIx_nat, List.drop_zero, Nat.sub_zero]
  exact (List.take_eq_take_min ..).symm
/-- x[:n] of a list -/
theorem jn_sliceTo {n : Nat} {p2 : Pos} (ha : J X T H0 w es a (.list ds)) (hb : J X T H0 w es b (.int (n : Int))) : JN X T H0 w es (.Subscript a (.Slice none (some b) none p2) pos) (ds.take n) :=
  weakE (pe_slice sl_list ha po_none (po_some hb)) fun σ H Q ⟨hA, q⟩ => ⟨hA, fun u H1 u1 d1 => ⟨hA.lift u1, fun v H2 u2 d2 => ⟨(n : Int), dx_int d2, by
    obtain ⟨l, us, e, hl, hd⟩ := dx_lst d1
    refine ⟨l, us, e, .inl (rdl_mono bs_sub (rdl_mono (bs_ext u2.ext) hl)), fun m hm => ?_⟩
    rw [cut_to]
    exact q m _ _ (.of (u1.trans u2) hm) ((u1.trans u2).trans (Up.new hm)) upd_same (new_lst ((hA.lift u1).lift u2) hm (dxa_take n (dxa_mono (bs_ext u2.ext) _ _ hd)))⟩⟩⟩
/-! ### +, * of lists and tuples -/
def rCatR : R2 := fun x y H Q => ∃ l b xs zs, x = .ref l ∧ y = .ref b ∧ Rd H l (.lst xs) ∧ Rd H b (.lst zs) ∧ xs.length + zs.length ≤ sizeLine ∧ ∀ p, H p = none → Q (.ref p) (upd H p (.lst (xs ++ zs)))
theorem rd_list {pins : List (Addr × Obj)} {σ : L2.St} {H : Hp} {s : Shared} {l : Addr} {xs : List V} (I : Inv X pins σ H s) (h : Rd H l (.lst xs)) : ∃ (its : List Value) (n : Nat), Vals xs its ∧ xs.length = its.length ∧ s.heap.get? l = some { cls := .type "list", data := .seq its.toArray n } := by
  obtain ⟨z, its, n, r, e⟩ := h.ok I.hok
  exact ⟨its, n, r, r.length, e⟩
theorem op_catR : OpR X (binaryOp .Add) rCatR := by
  intro pins s σ H x y v u Q I rx ry h
  obtain ⟨l, b, xs, zs, rfl, rfl, hH, hB, hz, q⟩ := h
  cases rx
  cases ry
  obtain ⟨its, n, r, hl, e⟩ := rd_list I hH
  obtain ⟨its2, n2, r2, hl2, e2⟩ := rd_list I hB
  refine PySem.P.add_list e e2 ?_ (by rw [List.size_toArray, List.size_toArray]; omega)
  rw [show its.toArray ++ its2.toArray = (its ++ its2).toArray by simp]
  exact ⟨.ref _, _, I.lnew (t' := s.toks) (r.append r2) (by rw [List.length_append]; omega), rfl, q _ I.fresh⟩
theorem jn_cat (ha : J X T H0 w es a (.list ds)) (hb : J X T H0 w es b (.list rs)) (hl : ds.length + rs.length ≤ 100000) : JN X T H0 w es (.BinOp a .Add b pos) (ds ++ rs) :=
  weakE (pe_op op_catR ha hb) fun σ H Q ⟨hA, q⟩ => ⟨hA, fun u H1 u1 d1 => ⟨hA.lift u1, fun v H2 u2 d2 => by
    obtain ⟨l, us, e, h1, hd⟩ := dx_lst d1
    obtain ⟨l2, us2, e2, h2, hd2⟩ := dx_lst d2
    exact ⟨l, l2, us, us2, e, e2, rdl_mono bs_sub (rdl_mono (bs_ext u2.ext) h1), rdl_mono bs_sub h2, by rw [dxa_len hd, dxa_len hd2]; exact line_of hl, fun p hp =>
      q p _ _ (.of (u1.trans u2) hp) ((u1.trans u2).trans (Up.new hp)) upd_same (new_lst ((hA.lift u1).lift u2) hp (dxa_app (dxa_mono (bs_ext u2.ext) _ _ hd) hd2))⟩⟩⟩
/-- [x, ..] * n -/
theorem jn_rep {n : Nat} (ha : JN X T H0 w es a ds) (hb : J X T H0 w es b (.int (n : Int))) (hl : ds.length * n ≤ 100000) (hn : n ≤ 100000) : JN X T H0 w es (.BinOp a .Mult b pos) (List.replicate n ds).flatten :=
  weakE (pe_op op_rep ha hb) fun σ H Q ⟨hA, q⟩ => ⟨hA, fun p H1 us hv u1 hp d1 => ⟨hA.lift u1, fun v H2 u2 d2 => by
    have h2 := u2.ext _ _ hp (fun _ z => by cases z)
    have d1' : DxAll (Bs w σ H2) us ds := dxa_mono (bs_ext u2.ext) _ _ (dxa_mono cut_sub _ _ d1)
    refine ⟨p, (n : Int), us, rfl, dx_int d2, h2, by omega, by omega, by rw [dxa_len d1]; exact line_of hl, fun m hm => ?_⟩
    exact q m _ _ (.of (u1.trans u2) hm) ((u1.trans u2).trans (Up.new hm)) upd_same (new_lst ((hA.lift u1).lift u2) hm (dxa_rep d1' n))⟩⟩
theorem j_catT (ha : J X T H0 w es a (.tuple ds)) (hb : J X T H0 w es b (.tuple rs)) (hl : ds.length + rs.length ≤ 100000) : J X T H0 w es (.BinOp a .Add b pos) (.tuple (ds ++ rs)) :=
  weakE (pe_op op_catA ha hb) fun σ H Q ⟨hA, q⟩ => ⟨hA, fun u H1 u1 d1 => ⟨hA.lift u1, fun v H2 u2 d2 => by
    obtain ⟨l, us, e, h1, hd⟩ := dx_tup d1
    obtain ⟨l2, us2, e2, h2, hd2⟩ := dx_tup d2
    have hA2 := (hA.lift u1).lift u2
    have h1' := rdt_mono (bs_ext (w := w) (σ := σ) u2.ext) h1
    have hd' := dxa_mono (bs_ext (w := w) (σ := σ) u2.ext) _ _ hd
    refine ⟨l, l2, us, us2, e, e2, .inl (rdt_mono bs_sub h1'), .inl (rdt_mono bs_sub h2), by rw [dxa_len hd, dxa_len hd2]; exact line_of hl, fun z => ?_, fun _ z => ?_, fun _ _ p hp => ?_⟩
    · subst z
      cases hd
      exact q _ H2 (u1.trans u2) (.tup h2 hd2)
    · subst z
      cases hd2
      rw [List.append_nil] at q
      exact q _ H2 (u1.trans u2) (.tup h1' hd')
    · exact q _ _ ((u1.trans u2).trans (Up.new hp)) (new_tup hA2 hp (dxa_app hd' hd2))⟩⟩
/-! ### isinstance -/
def tyn : PyData → String
  | .none => "NoneType"
  | .bool _ => "bool"
  | .int _ => "int"
  | .str _ => "str"
  | .list _ => "list"
  | .tuple _ => "tuple"
  | .dict _ => "dict"
theorem tyx_of {H : Hp} {v : V} (K : PySem.W.Frag) (h : Dx H v d) : TyX K H v (.type (tyn d)) := by
  cases h with
  | non => exact .base .non
  | bl b => exact .base (.bl b)
  | int i => exact .base (.int i)
  | str x => exact .base (.str x)
  | lst h t =>
    rcases h with h | ⟨o, h⟩
    · exact .base (.lst h)
    · exact .base (.frz h)
  | tup h t =>
    rcases h with h | ⟨o, h⟩
    · exact .base (.tup h)
    · exact .fTuple h
theorem j_isi {c2 : String} {cn : Str} {k2 : Bool} {p2 : Pos} (hm : X.mg "isinstance" = none) (hmc : X.mg cn = none) (ha : J X T H0 w es a d) (hk : kitB (tyn d) c2 = some k2) (hvc : bootBuiltins cn = some (.type c2) := by decide +kernel) (hg : Gl X "isinstance" := by rfl) (hgc : Gl X cn := by rfl)
    (hn : cn ≠ "__name__" := by decide) (hdb : (cn == ("__debug__" : Str)) = false := by decide) (he : starEach [a, .Name cn p2] X.env = (false, eval a X.env) :: starEach [.Name cn p2] X.env := by rfl) (he2 : starEach [.Name cn p2] X.env = (false, eval (.Name cn p2) X.env) :: starEach [] X.env := by rfl)
    (hpl : (backTo pos (starEach [.Name cn p2] X.env)).any (·.1) = false := by rfl) : J X T H0 w es (.Call (.Name "isinstance" p) [a, .Name cn p2] [] pos) (.bool k2) :=
  weakE (pe_callB call_isi hg hm (by decide +kernel) (pa_cons ha (pa_cons (pe_bltn (v := .ty c2) hgc hmc hvc rfl hn hdb) pa_nil he2) he) (by decide) (by decide) he hpl) fun σ H Q ⟨hA, q⟩ => ⟨hA, fun u H1 u1 d1 =>
    ⟨u, .ty c2, .type (tyn d), .type c2, k2, rfl, .ty c2, tyx_of X.K (dx_mono bs_sub _ _ d1), kit_ty hk, q _ H1 u1 (.bl _)⟩⟩
theorem j_isi2 {c2 c3 : String} {cn cn3 : Str} {k2 k3 : Bool} {p2 p3 p4 : Pos} {n : Nat} (hm : X.mg "isinstance" = none) (hmc : X.mg cn = none) (hmc3 : X.mg cn3 = none) (ha : J X T H0 w es a d) (hk : kitB (tyn d) c2 = some k2) (hk3 : kitB (tyn d) c3 = some k3)
    (hvc : bootBuiltins cn = some (.type c2) := by decide +kernel) (hvc3 : bootBuiltins cn3 = some (.type c3) := by decide +kernel) (hg : Gl X "isinstance" := by rfl) (hgc : Gl X cn := by rfl) (hgc3 : Gl X cn3 := by rfl)
    (hn : cn ≠ "__name__" := by decide) (hdb : (cn == ("__debug__" : Str)) = false := by decide) (hn3 : cn3 ≠ "__name__" := by decide) (hdb3 : (cn3 == ("__debug__" : Str)) = false := by decide)
    (he : starEach [a, .Tuple [.Name cn p2, .Name cn3 p3] n p4] X.env = (false, eval a X.env) :: starEach [.Tuple [.Name cn p2, .Name cn3 p3] n p4] X.env := by rfl)
    (he2 : starEach [.Tuple [.Name cn p2, .Name cn3 p3] n p4] X.env = (false, eval (.Tuple [.Name cn p2, .Name cn3 p3] n p4) X.env) :: starEach [] X.env := by rfl)
    (he3 : starEach [.Name cn p2, .Name cn3 p3] X.env = (false, eval (.Name cn p2) X.env) :: starEach [.Name cn3 p3] X.env := by rfl) (he4 : starEach [.Name cn3 p3] X.env = (false, eval (.Name cn3 p3) X.env) :: starEach [] X.env := by rfl)
    (hpl : (backTo pos (starEach [.Tuple [.Name cn p2, .Name cn3 p3] n p4] X.env)).any (·.1) = false := by rfl) : J X T H0 w es (.Call (.Name "isinstance" p) [a, .Tuple [.Name cn p2, .Name cn3 p3] n p4] [] pos) (.bool (k2 || k3)) :=
  weakE (pe_callB call_isiT hg hm (by decide +kernel) (pa_cons ha (pa_cons (pe_tup (pa_cons (pe_bltn (v := .ty c2) hgc hmc hvc rfl hn hdb) (pa_cons (pe_bltn (v := .ty c3) hgc3 hmc3 hvc3 rfl hn3 hdb3) pa_nil he4) he3)) pa_nil he2) he) (by decide) (by decide) he hpl) fun σ H Q ⟨hA, q⟩ => ⟨hA, fun u H1 u1 d1 =>
    ⟨line_of (by show 2 ≤ 100000; decide), fun l hl => ⟨u, l, _, .type (tyn d), [.type c2, .type c3], k2 || k3, rfl, upd_same, .cons (.ty c2) (.cons (.ty c3) .nil), tyx_of X.K (dx_mono (Up.new (T := T) hl).ext _ _ (dx_mono bs_sub _ _ d1)),
      kitAny_cons (kit_ty hk) (fun z => by rw [z]; exact kitAny_cons (kit_ty hk3) (fun z3 => by rw [z3]; exact kitAny_nil) (fun z3 => by rw [z3]; rfl)) (fun z => by rw [z]; rfl), q _ _ (u1.trans (Up.new hl)) (.bl _)⟩⟩⟩
end
end G
set_option Elab.async false
set_option linter.all false
set_option maxRecDepth 100000
set_option maxHeartbeats 4000000
namespace G
open PySem PySem.Spec PyProof.Rows L2
/-! ### what a for or a comprehension walks -/
def BsO (o : Option Addr) (H : Hp) : Hp := match o with
  | none => H
  | some l => cut H l
theorem bso_is {w : Ow} {σ : L2.St} {H : Hp} : Bs w σ H = BsO (ownL w σ) H := rfl
theorem bso_sub {o : Option Addr} {H : Hp} : LamX.ExtN (BsO o H) H := by
  cases o with
  | none => exact LamX.ExtN.refl H
  | some l => exact cut_sub
theorem bso_ext {o : Option Addr} {H H' : Hp} (e : LamX.ExtN H H') : LamX.ExtN (BsO o H) (BsO o H') := by
  cases o with
  | none => exact e
  | some l => exact cut_ext e
theorem bso_up {o : Option Addr} {H H' : Hp} (e : LamX.ExtN (BsO o H) H') : LamX.ExtN (BsO o H) (BsO o H') := by
  cases o with
  | none => exact e
  | some l =>
    intro b u h n
    have h2 : cut H l b = some u := h
    show cut H' l b = some u
    rw [cut_ne (cut_some h2).1]
    exact e b u h n
theorem bso_new {o : Option Addr} {H : Hp} {q : Addr} {u : HO} (n : ∀ l, o = some l → q ≠ l) : BsO o (upd H q u) q = some u := by
  cases o with
  | none => exact upd_same
  | some l =>
    show cut (upd H q u) l q = some u
    rw [cut_ne (n l rfl), upd_same]
/-- the items ds, one after the other -/
def tI (T : Tl) (H0 : Hp) (w : Ow) (es : Es) (ds : List PyData) : TI := fun σ H R => At T H0 w es σ H ∧ ∀ (J : It) (H1 : Hp), Up T H H1 → (∃ (G : Hp → Prop) (Y : Nat → Hp → V → Hp → Prop), Walk J ds.length G Y ∧ (∀ H', LamX.ExtN (BsO (ownL w σ) H1) H' → G H') ∧
  ∀ i Ha x Hb, i < ds.length → LamX.ExtN (BsO (ownL w σ) H1) Ha → (∀ l, ownL w σ = some l → Ha l ≠ none) → Y i Ha x Hb → Up T Ha Hb ∧ ∃ d, ds[i]? = some d ∧ Dx (BsO (ownL w σ) Hb) x d) → R J H1
abbrev JI (X : Cx) (T : Tl) (H0 : Hp) (w : Ow) (es : Es) (tg e : Expr) (ds : List PyData) : Prop := PI X tg e (tI T H0 w es ds)
theorem weakI {X : Cx} {tg e : Expr} {t t' : TI} (h : PI X tg e t) (k : ∀ σ H Q, t' σ H Q → t σ H Q) : PI X tg e t' := ⟨fun pins s σ H Q I q => h.run pins s σ H Q I (k σ H Q q)⟩
section
variable {X : Cx} {T : Tl} {H0 : Hp} {w : Ow} {es : Es} {a b tg : Expr} {pos p : Pos} {ds : List PyData}
theorem ji_list (ha : J X T H0 w es a (.list ds)) : JI X T H0 w es tg a ds :=
  weakI (pi_list ha) fun σ H R ⟨hA, q⟩ => ⟨hA, fun v H1 u1 d1 => by
    obtain ⟨l, us, e, hl, hd⟩ := dx_lst d1
    have hlen := dxa_len hd
    refine ⟨l, e, ⟨us, .inl (rdl_mono bs_sub hl)⟩, q _ H1 u1 ⟨_, _, hlen ▸ walk_list (K := X.K) (a := l) (xs := us), fun H' x => .inl (rdl_mono x hl), fun i Ha x Hb hi xa hn hy => ?_⟩⟩
    obtain ⟨e1, e2⟩ := hy
    subst e1
    obtain ⟨d, e3, e4⟩ := dxa_get2 hd e2
    exact ⟨Up.refl, d, e3, dx_mono (bso_up xa) _ _ e4⟩⟩
theorem ji_tup (ha : J X T H0 w es a (.tuple ds)) : JI X T H0 w es tg a ds :=
  weakI (pi_tup ha) fun σ H R ⟨hA, q⟩ => ⟨hA, fun v H1 u1 d1 => by
    obtain ⟨l, us, e, hl, hd⟩ := dx_tup d1
    have hlen := dxa_len hd
    refine ⟨l, e, ⟨us, .inl (rdt_mono bs_sub hl)⟩, q _ H1 u1 ⟨_, _, hlen ▸ walk_tup (K := X.K) (a := l) (xs := us), fun H' x => .inl (rdt_mono x hl), fun i Ha x Hb hi xa hn hy => ?_⟩⟩
    obtain ⟨e1, e2⟩ := hy
    subst e1
    obtain ⟨d, e3, e4⟩ := dxa_get2 hd e2
    exact ⟨Up.refl, d, e3, dx_mono (bso_up xa) _ _ e4⟩⟩
/-- the whole numbers lo, lo + 1, .. -/
def rng (lo : Int) (n : Nat) : List PyData := (List.range n).map fun i => .int (lo + (i : Nat))
theorem rng_len (lo : Int) (n : Nat) : (rng lo n).length = n := by unfold rng; rw [List.length_map, List.length_range]
theorem rng_get {lo : Int} {n i : Nat} (h : i < n) : (rng lo n)[i]? = some (.int (lo + (i : Nat))) := by
  unfold rng
  rw [List.getElem?_map, List.getElem?_range h]
  rfl
theorem rng_walk (lo : Int) (n : Nat) : Walk (Itr lo n) (rng lo n).length (fun _ => True) (YFn fun i => .int (lo + i)) := by
  rw [rng_len]
  exact walk_range
theorem ji_range1 {n : Nat} (hm : X.mg "range" = none) (hn : n ≤ 100000) (ha : J X T H0 w es a (.int (n : Int))) (hg : Gl X "range" := by rfl) (he : starEach [a] X.env = (false, eval a X.env) :: starEach [] X.env := by rfl) : JI X T H0 w es tg (.Call (.Name "range" p) [a] [] pos) (rng 0 n) :=
  weakI (pi_range1 hg hm (ja_cons ha ja_nil he) he) fun σ H R ⟨hA, q⟩ => ⟨hA, fun vs H1 u1 d1 => by
    cases d1 with
    | cons k1 k2 =>
      cases k2
      refine ⟨(n : Int), by rw [dx_int k1], by omega, by omega, ?_⟩
      have e : ((n : Int)).toNat = n := by omega
      rw [e]
      refine q _ H1 u1 ⟨_, _, rng_walk 0 n, fun _ _ => True.intro, fun i Ha x Hb hi xa hn hy => ?_⟩
      obtain ⟨e1, e2⟩ := hy
      rw [rng_len] at hi
      subst e1 e2
      exact ⟨Up.refl, _, rng_get hi, .int _⟩⟩
theorem ji_range2 {i j : Int} {n : Nat} (hm : X.mg "range" = none) (h1 : -100000 ≤ i ∧ i ≤ 100000) (h2 : -100000 ≤ j ∧ j ≤ 100000) (e : (j - i).toNat = n) (ha : J X T H0 w es a (.int i)) (hb : J X T H0 w es b (.int j)) (hg : Gl X "range" := by rfl)
    (he : starEach [a, b] X.env = (false, eval a X.env) :: starEach [b] X.env := by rfl) (he2 : starEach [b] X.env = (false, eval b X.env) :: starEach [] X.env := by rfl) : JI X T H0 w es tg (.Call (.Name "range" p) [a, b] [] pos) (rng i n) :=
  weakI (pi_range2 hg hm (ja_cons ha (ja_cons hb ja_nil he2) he) (by rw [he, he2]; rfl) (by rw [he2]; rfl)) fun σ H R ⟨hA, q⟩ => ⟨hA, fun vs H1 u1 d1 => by
    cases d1 with
    | cons k1 k2 =>
      cases k2 with
      | cons k2 k3 =>
        cases k3
        refine ⟨i, j, by rw [dx_int k1, dx_int k2], ⟨by omega, by omega, by omega, by omega⟩, ?_⟩
        rw [e]
        refine q _ H1 u1 ⟨_, _, rng_walk i n, fun _ _ => True.intro, fun m Ha x Hb hi xa hn hy => ?_⟩
        obtain ⟨e1, e2⟩ := hy
        rw [rng_len] at hi
        subst e1 e2
        exact ⟨Up.refl, _, rng_get hi, .int _⟩⟩
/-- enumerate(xs) -/
def enumD (ds : List PyData) : List PyData := ds.zipIdx.map fun q => .tuple [.int (q.2 : Nat), q.1]
theorem enumD_len (ds : List PyData) : (enumD ds).length = ds.length := by unfold enumD; rw [List.length_map, List.length_zipIdx]
theorem enumD_get {ds : List PyData} {i : Nat} {d : PyData} (h : ds[i]? = some d) : (enumD ds)[i]? = some (.tuple [.int (i : Nat), d]) := by
  unfold enumD
  rw [List.getElem?_map, List.getElem?_zipIdx, h]
  simp
theorem ji_enum {elts : List Expr} {kk : Nat} {tpos : Pos} (hm : X.mg "enumerate" = none) (ha : J X T H0 w es a (.list ds)) (hg : Gl X "enumerate" := by rfl) (he : starEach [a] X.env = (false, eval a X.env) :: starEach [] X.env := by rfl) :
    JI X T H0 w es (.Tuple elts kk tpos) (.Call (.Name "enumerate" p) [a] [] pos) (enumD ds) :=
  weakI (pi_enum hg hm (ja_cons ha ja_nil he) he) fun σ H R ⟨hA, q⟩ => ⟨hA, fun vs H1 u1 d1 => by
    cases d1 with
    | cons k1 k2 =>
      cases k2
      obtain ⟨l, us, e, hl, hd⟩ := dx_lst k1
      subst e
      have hlen : us.length = (enumD ds).length := by rw [enumD_len]; exact dxa_len hd
      refine ⟨l, us, rfl, .inl (rdl_mono bs_sub hl), q _ H1 u1 ⟨_, _, hlen ▸ walk_enum (K := X.K) (a := l) (xs := us), fun H' x => .inl (rdl_mono x hl), fun i Ha x Hb hi xa hn hy => ?_⟩⟩
      obtain ⟨t, y1, y2, e1, e2, e3, e4, e5⟩ := hy
      obtain ⟨d, e6, e7⟩ := dxa_get2 hd e5
      subst e1 e3
      refine ⟨Up.new e2, _, enumD_get e6, .tup (.inl (bso_new fun l hl z => hn l hl (by rw [← z]; exact e2))) (.cons ?_ (.cons (dx_mono (bso_ext (Up.new (T := T) e2).ext) _ _ (dx_mono (bso_up xa) _ _ e7)) .nil))⟩
      have z : y1 = V.int (i : Nat) := (Option.some.inj e4).symm
      rw [z]
      exact .int _⟩
end
/-! ### targets -/
theorem wipe_in {σ : L2.St} {x : Option V} {j : Nat} : ∀ {vs : List Nat}, j ∈ vs → wipe (σ.set j x) vs = wipe σ vs
  | [], h => nomatch h
  | v :: vs, h => by
    unfold wipe
    by_cases hv : j ∈ vs
    · rw [wipe_in hv]
    · have e : j = v := by
        rcases List.mem_cons.mp h with z | z
        · exact z
        · exact absurd z hv
      have out : ∀ us : List Nat, j ∉ us → wipe (σ.set j x) us = (wipe σ us).set j x := by
        intro us
        induction us with
        | nil => intro _; rfl
        | cons u us ih =>
          intro hu
          unfold wipe
          rw [ih (fun z => hu (List.mem_cons_of_mem _ z)), List.set_comm _ _ (fun z => hu (by rw [z]; exact List.mem_cons_self))]
      rw [out vs hv, ← e, List.set_set]
theorem ownL_set {w : Ow} {σ : L2.St} {j : Nat} {x : Option V} (n : ∀ i ds, w = some (i, ds) → i ≠ j) : ownL w (σ.set j x) = ownL w σ := by
  cases w with
  | none => rfl
  | some p =>
    obtain ⟨i, ds⟩ := p
    have e : (σ.set j x)[i]? = σ[i]? := List.getElem?_set_ne (Ne.symm (n i ds rfl))
    show (match (σ.set j x)[i]? with
      | some (some (.ref l)) => some l
      | _ => none) = _
    rw [e] <;> rfl
section
variable {T : Tl} {H0 H : Hp} {w : Ow} {es : Es} {σ : L2.St} {v : V} {d : PyData} {j : Nat}
theorem At.set (a : At T H0 w es σ H) (n : ∀ i ds, w = some (i, ds) → i ≠ j) (h : Dx (Bs w σ H) v d) : At T H0 w (es.set j (some d)) (σ.set j (some v)) H := by
  have e := ownL_set (σ := σ) (x := some v) n
  refine ⟨a.up, a.tab, ?_, fun i ds q => ?_⟩
  · rw [bso_is, e, ← bso_is]
    exact a.has.set j h
  · obtain ⟨l, vs, h1, h2, h3, h4⟩ := a.own i ds q
    exact ⟨l, vs, by rw [List.getElem?_set_ne (Ne.symm (n i ds q))]; exact h1, h2, h3, h4⟩
theorem At.forget (a : At T H0 w es σ H) (n : ∀ i ds, w = some (i, ds) → i ≠ j) (x : Option V) : At T H0 w (es.set j none) (σ.set j x) H := by
  have e := ownL_set (σ := σ) (x := x) n
  refine ⟨a.up, a.tab, ?_, fun i ds q => ?_⟩
  · rw [bso_is, e, ← bso_is]
    exact a.has.wipe j x
  · obtain ⟨l, vs, h1, h2, h3, h4⟩ := a.own i ds q
    exact ⟨l, vs, by rw [List.getElem?_set_ne (Ne.symm (n i ds q))]; exact h1, h2, h3, h4⟩
def wipeE (es : Es) : List Nat → Es
  | [] => es
  | v :: vs => (wipeE es vs).set v none
theorem At.wipe (a : At T H0 w es σ H) : ∀ {vs : List Nat}, (∀ i ds, w = some (i, ds) → i ∉ vs) → At T H0 w (wipeE es vs) (L2.wipe σ vs) H ∧ ownL w (L2.wipe σ vs) = ownL w σ
  | [], _ => ⟨a, rfl⟩
  | v :: vs, n => by
    obtain ⟨h1, h2⟩ := At.wipe a (vs := vs) fun i ds q z => n i ds q (List.mem_cons_of_mem _ z)
    have nv : ∀ i ds, w = some (i, ds) → i ≠ v := fun i ds q z => n i ds q (by rw [z]; exact List.mem_cons_self)
    exact ⟨h1.forget nv none, (ownL_set nv).trans h2⟩
end
/-- a target that takes the data d into the slots js -/
structure TgS (g : TG) (js : List Nat) (d : PyData) (up : Es → Es) : Prop where
  run : ∀ {T : Tl} {H0 H : Hp} {w : Ow} {es : Es} {σ : L2.St} {v : V} {k : L2.St → Hp → Prop}, (∀ i ds, w = some (i, ds) → i ∉ js) → At T H0 w es σ H → Dx (Bs w σ H) v d →
    (∀ σ2, At T H0 w (up es) σ2 H → ownL w σ2 = ownL w σ → (∀ vs : List Nat, (∀ j ∈ js, j ∈ vs) → wipe σ2 vs = wipe σ vs) → k σ2 H) → g v σ H k
theorem tg_name {j : Nat} {d : PyData} : TgS (gName j) [j] d (fun es => es.set j (some d)) :=
  ⟨fun n hA h k => k _ (hA.set (fun i ds q z => n i ds q (by rw [z]; exact List.mem_cons_self)) h) (ownL_set fun i ds q z => n i ds q (by rw [z]; exact List.mem_cons_self)) fun vs hv => wipe_in (hv j List.mem_cons_self)⟩
theorem tg_two {K : PySem.W.Frag} {i j : Nat} {d e : PyData} : TgS (gTup K 2 (gCons (gName i) (gCons (gName j) gNil))) [i, j] (.tuple [d, e]) (fun es => (es.set i (some d)).set j (some e)) :=
  ⟨fun {T H0 H w es σ v k} n hA h q => by
    obtain ⟨l, us, e1, hl, hd⟩ := dx_tup h
    cases hd with
    | cons k1 k2 =>
      cases k2 with
      | cons k2 k3 =>
        cases k3
        have n1 : ∀ m ds, w = some (m, ds) → m ≠ i := fun m ds z y => n m ds z (by rw [y]; simp)
        have n2 : ∀ m ds, w = some (m, ds) → m ≠ j := fun m ds z y => n m ds z (by rw [y]; simp)
        refine ⟨l, _, e1, .inl (rdt_mono bs_sub hl), rfl, _, _, rfl, _, _, rfl, rfl, ?_⟩
        have A1 := hA.set n1 k1
        refine q _ (A1.set n2 ?_) ((ownL_set n2).trans (ownL_set n1)) fun vs hv => ?_
        · rw [bso_is, ownL_set n1, ← bso_is]
          exact k2
        · rw [wipe_in (hv j (by simp)), wipe_in (hv i (by simp))]⟩
theorem tg_three {K : PySem.W.Frag} {i j m : Nat} {d e f : PyData} : TgS (gTup K 3 (gCons (gName i) (gCons (gName j) (gCons (gName m) gNil)))) [i, j, m] (.tuple [d, e, f]) (fun es => ((es.set i (some d)).set j (some e)).set m (some f)) :=
  ⟨fun {T H0 H w es σ v k} n hA h q => by
    obtain ⟨l, us, e1, hl, hd⟩ := dx_tup h
    cases hd with
    | @cons v1 _ _ _ k1 k2 =>
      cases k2 with
      | @cons v2 _ _ _ k2 k3 =>
        cases k3 with
        | @cons v3 _ _ _ k3 k4 =>
          cases k4
          have n1 : ∀ t ds, w = some (t, ds) → t ≠ i := fun t ds z y => n t ds z (by rw [y]; simp)
          have n2 : ∀ t ds, w = some (t, ds) → t ≠ j := fun t ds z y => n t ds z (by rw [y]; simp)
          have n3 : ∀ t ds, w = some (t, ds) → t ≠ m := fun t ds z y => n t ds z (by rw [y]; simp)
          refine ⟨l, _, e1, .inl (rdt_mono bs_sub hl), rfl, _, _, rfl, _, _, rfl, _, _, rfl, rfl, ?_⟩
          have A1 := hA.set n1 k1
          have A2 := A1.set (v := v2) (d := e) n2 (by rw [bso_is, ownL_set n1, ← bso_is]; exact k2)
          refine q _ (A2.set n3 ?_) ((ownL_set n3).trans ((ownL_set n2).trans (ownL_set n1))) fun vs hv => ?_
          · rw [bso_is, ownL_set n2, ownL_set n1, ← bso_is]
            exact k3
          · rw [wipe_in (hv m (by simp)), wipe_in (hv j (by simp)), wipe_in (hv i (by simp))]⟩
end G
set_option Elab.async false
set_option linter.all false
set_option maxRecDepth 100000
set_option maxHeartbeats 4000000
namespace G
open PySem PySem.Spec PyProof.Rows L2
/-! ### readings of which one holds -/
theorem exE {X : Cx} {ι : Type} {P : ι → Prop} {e : Expr} {t : ι → TE} (h : ∀ i, P i → PE X e (t i)) : PE X e (fun σ H Q => ∃ i, P i ∧ t i σ H Q) := ⟨fun pins s σ H Q I ⟨i, p, q⟩ => (h i p).run pins s σ H Q I q⟩
theorem exTs {X : Cx} {ι : Type} {P : ι → Prop} {e : List Expr} {t : ι → TT} (h : ∀ i, P i → PTs X e (t i)) : PTs X e (fun σ H Q => ∃ i, P i ∧ t i σ H Q) := ⟨fun pins s σ H Q I ⟨i, p, q⟩ => (h i p).run pins s σ H Q I q⟩
theorem exSs {X : Cx} {ι : Type} {P : ι → Prop} {e : List Stmt} {t : ι → TS} (h : ∀ i, P i → PSs X e (t i)) : PSs X e (fun D σ H => ∃ i, P i ∧ t i D σ H) := ⟨fun pins s σ H D I ⟨i, p, q⟩ => (h i p).run pins s σ H D I q⟩
theorem weakTs {X : Cx} {e : List Expr} {t t' : TT} (h : PTs X e t) (k : ∀ σ H Q, t' σ H Q → t σ H Q) : PTs X e t' := ⟨fun pins s σ H Q I q => h.run pins s σ H Q I (k σ H Q q)⟩
section
variable {X : Cx} {T : Tl} {H0 : Hp} {w : Ow} {es : Es}
theorem jts_nil : PTs X [] (tB T H0 w es true) := weakTs pts_nil fun σ H Q ⟨hA, q⟩ => q H Up.refl
theorem jts_one {c : Expr} {b : Bool} (h : JT X T H0 w es c b) : PTs X [c] (tB T H0 w es b) := pts_one h
theorem filter_take {α : Type} {items : List α} {pr : α → Bool} {i : Nat} {a : α} (h : items[i]? = some a) : (items.take (i + 1)).filter pr = (items.take i).filter pr ++ (if pr a then [a] else []) := by
  rw [List.take_add_one, h, List.filter_append]
  cases e : pr a <;> simp [e]
/-- the reading of [elt for tg in iter if ..]: items, told by enc; pr: is it kept; f: what it gives -/
theorem lc_rd {α : Type} (items : List α) (enc : α → PyData) (pr : α → Bool) (f : α → PyData) (up : α → Es → Es) {own : List (Str × Nat)} {g : TG} {js : List Nat}
    (tgs : ∀ a ∈ items, TgS g js (enc a) (up a)) (hj : ∀ j ∈ js, j ∈ own.map (·.2)) (hw : ∀ i ds, w = some (i, ds) → i ∉ own.map (·.2))
    (hf : ∀ a ∈ items, pr a = true → flat (f a) = true) (hl : items.length ≤ 90000) (σ : L2.St) (H : Hp) (Q : VK) (hh : tN T H0 w es ((items.filter pr).map f) σ H Q) :
    tLc (tI T H0 w es (items.map enc)) g (fun σ H Q => ∃ i, i ∈ items ∧ tB T H0 w (up i (wipeE es (own.map (·.2)))) (pr i) σ H Q) (fun σ H Q => ∃ i, (i ∈ items ∧ pr i = true) ∧ tE T H0 w (up i (wipeE es (own.map (·.2)))) (f i) σ H Q) (own.map (·.2)) σ H Q := by
  obtain ⟨hA, q⟩ := hh
  show tI T H0 w es (items.map enc) σ H _
  refine ⟨hA, fun Jt H1 u1 ⟨G, Y, wk, hG, hY⟩ D hD => ?_⟩
  have hA1 := hA.lift u1
  have fl : ∀ n, flat.flatAll (((items.take n).filter pr).map f) = true := fun n => flatAll_mem.mpr fun d hd => by
    obtain ⟨a, ha, rfl⟩ := List.mem_map.mp hd
    obtain ⟨ha, hp⟩ := List.mem_filter.mp ha
    exact hf a (List.mem_of_mem_take ha) hp
  have ext1 : ∀ {H' : Hp}, Up T H1 H' → LamX.ExtN (BsO (ownL w σ) H1) H' := fun u b o e n => u.ext b o (bso_sub b o e n) n
  refine lc_it (g := g) (tt := fun σ H Q => ∃ i, i ∈ items ∧ tB T H0 w (up i (wipeE es (own.map (·.2)))) (pr i) σ H Q) (te := fun σ H Q => ∃ i, (i ∈ items ∧ pr i = true) ∧ tE T H0 w (up i (wipeE es (own.map (·.2)))) (f i) σ H Q) (vs := own.map (·.2)) (σ := σ) (Qd := fun H' => Q (.ref D) H') wk (fun i H' => Up T H1 H' ∧ ∃ acc, H' D = some (.lst acc) ∧ DxAll H' acc (((items.take i).filter pr).map f)) ⟨Up.new hD, [], upd_same, .nil⟩ (fun i H' _ p => hG H' (ext1 p.1)) (fun i x Ha Hb hi p hy => ?_) fun H' p => ?_
  · obtain ⟨u2, acc, hacc, dacc⟩ := p
    rw [List.length_map] at hi
    have nl : ∀ l, ownL w σ = some l → Ha l ≠ none := fun l hl2 z => by
      obtain ⟨_, _, vs, _, _, _, h3, _⟩ := (hA1.lift u2).ownAt hl2
      rw [z] at h3
      cases h3
    obtain ⟨u3, d, hd, dd⟩ := hY i Ha x Hb (by rw [List.length_map]; exact hi) (ext1 u2) nl hy
    obtain ⟨a, ha⟩ : ∃ a, items[i]? = some a := ⟨_, List.getElem?_eq_getElem hi⟩
    have ed : d = enc a := by
      rw [List.getElem?_map, ha] at hd
      exact (Option.some.inj hd).symm
    subst ed
    have ham : a ∈ items := List.mem_of_getElem? ha
    obtain ⟨hW, oW⟩ := ((hA1.lift u2).lift u3).wipe hw
    refine (tgs a ham).run (fun i ds z k => hw i ds z (hj i k)) hW (by rw [bso_is, oW]; exact dd) fun σ2 hA2 o2 wp => ⟨wp _ hj |>.trans (by
      have idem : ∀ (us : List Nat), (∀ j ∈ us, j ∈ own.map (·.2)) → wipe (wipe σ us) (own.map (·.2)) = wipe σ (own.map (·.2)) := by
        intro us
        induction us with
        | nil => intro _; rfl
        | cons u us ih =>
          intro hu
          show wipe ((wipe σ us).set u none) (own.map (·.2)) = _
          rw [wipe_in (hu u List.mem_cons_self)]
          exact ih fun j hj2 => hu j (List.mem_cons_of_mem _ hj2)
      exact idem _ fun j hj2 => hj2), a, ham, hA2, fun H3 u4 => ?_⟩
    have u24 := (u2.trans u3).trans u4
    have hacc3 := (u3.trans u4).ext _ _ hacc (fun _ z => by cases z)
    have dacc3 := dxa_mono (u3.trans u4).ext _ _ dacc
    cases hp : pr a with
    | false =>
      refine iteF ⟨u24, acc, hacc3, ?_⟩
      rw [filter_take ha, hp]
      simpa using dacc3
    | true =>
      refine iteT ⟨a, ⟨ham, hp⟩, hA2.lift u4, fun y H4 u5 d5 => ⟨acc, u5.ext _ _ hacc3 (fun _ z => by cases z), ?_, ?_⟩⟩
      · rw [dxa_len dacc]
        refine line_lt (Nat.lt_of_le_of_lt (Nat.le_trans (by rw [List.length_map]; exact List.length_filter_le ..) (List.length_take_le _ _)) (by omega))
      · have h4 := u5.ext _ _ hacc3 (fun _ z => by cases z)
        have tn : TupN H4 (upd H4 D (.lst (acc ++ [y]))) := tupN_upd h4 (fun _ z => by cases z) (fun _ _ z => by cases z)
        refine ⟨(u24.trans u5).put (.none hD) h4 (fun _ z => by cases z) (fun _ z => by cases z), _, upd_same, ?_⟩
        rw [filter_take ha, hp, if_pos rfl, List.map_append]
        exact dxa_app (dxa_flat tn _ _ (fl i) (dxa_mono u5.ext _ _ dacc3)) (.cons (dx_flat tn _ _ (hf a ham hp) (dx_mono bs_sub _ _ d5)) .nil)
  · obtain ⟨u2, acc, hacc, dacc⟩ := p
    rw [List.length_map, List.take_length] at dacc
    have fl2 := fl items.length
    rw [List.take_length] at fl2
    refine q D H' acc (.of u1 hD) (u1.trans u2) hacc ?_
    have hA2 := hA1.lift u2
    refine dxa_flat (H := H') ⟨fun b xs e => ?_, fun b o xs e => ?_⟩ _ _ fl2 dacc
    · rw [cut_ne (fun z => by rw [z, hacc] at e; cases e)]
      exact hA2.tupN.1 _ _ e
    · rw [cut_ne (fun z => by rw [z, hacc] at e; cases e)]
      exact hA2.tupN.2 _ _ _ e
/-- [elt for tg in iter if ..]: items, told by enc; pr: is it kept; f: what it gives -/
theorem jn_lc {α : Type} (items : List α) (enc : α → PyData) (pr : α → Bool) (f : α → PyData) (up : α → Es → Es) {elt tg iter : Expr} {ifs : List Expr} {scope : Scope} {own : List (Str × Nat)} {pos : Pos} {g : TG} {js : List Nat}
    (hc : X.calm = true) (hN : X.N.Nodup) (src : JI X T H0 w es tg iter (items.map enc)) (ok : BlkOk X.N X.env.scope scope own)
    (hg : ∀ (s : Shared) (H : Hp) (C : Addr) (cl : List (Str × Addr)) (fp : List Addr), PG (X.blk s H scope (compEnvC scope cl C X.env) fp) tg g)
    (tgs : ∀ a ∈ items, TgS g js (enc a) (up a)) (hj : ∀ j ∈ js, j ∈ own.map (·.2)) (hw : ∀ i ds, w = some (i, ds) → i ∉ own.map (·.2))
    (ht : ∀ a ∈ items, ∀ (s : Shared) (H : Hp) (C : Addr) (cl : List (Str × Addr)) (fp : List Addr), PTs (X.blk s H scope (compEnvC scope cl C X.env) fp) ifs (tB T H0 w (up a (wipeE es (own.map (·.2)))) (pr a)))
    (he : ∀ a ∈ items, pr a = true → ∀ (s : Shared) (H : Hp) (C : Addr) (cl : List (Str × Addr)) (fp : List Addr), J (X.blk s H scope (compEnvC scope cl C X.env) fp) T H0 w (up a (wipeE es (own.map (·.2)))) elt (f a))
    (hf : ∀ a ∈ items, pr a = true → flat (f a) = true) (hl : items.length ≤ 90000) (hs : ∀ x, foldedSetIterable iter X.env x = pure x := by intro _; rfl) :
    JN X T H0 w es (.ListComp elt [⟨tg, iter, ifs, 0⟩] scope pos) ((items.filter pr).map f) :=
  weakE (pe_lc hc hN src ok hg (fun s H C cl fp => exTs (P := fun a : α => a ∈ items) fun a ha => ht a ha s H C cl fp) (fun s H C cl fp => exE (P := fun a : α => a ∈ items ∧ pr a = true) fun a ha => he a ha.1 ha.2 s H C cl fp) hs)
    (lc_rd items enc pr f up tgs hj hw hf hl)
/-- name = [elt for tg in iter if ..], on one line -/
theorem jn_setLc {α : Type} (items : List α) (enc : α → PyData) (pr : α → Bool) (f : α → PyData) (up : α → Es → Es) {i : Nat} {y : Str} {py spos : Pos} {elt tg iter : Expr} {ifs : List Expr} {scope : Scope} {own : List (Str × Nat)} {pos : Pos} {g : TG} {js : List Nat}
    (hc : X.calm = true) (hN : X.N.Nodup) (hy : X.N[i]? = some y) (hyl : X.env.scope.names.lookup y = some .local)
    (hsw : swapsWith (.ListComp elt [⟨tg, iter, ifs, 0⟩] scope pos) (some (.Name y py)) spos.line X.env = pure true) (src : JI X T H0 w es tg iter (items.map enc)) (ok : BlkOk X.N X.env.scope scope own)
    (hg : ∀ (s : Shared) (H : Hp) (C : Addr) (cl : List (Str × Addr)) (fp : List Addr), PG (X.blk s H scope (compEnvC scope cl C X.env) fp) tg g)
    (tgs : ∀ a ∈ items, TgS g js (enc a) (up a)) (hj : ∀ j ∈ js, j ∈ own.map (·.2)) (hw : ∀ i ds, w = some (i, ds) → i ∉ own.map (·.2))
    (ht : ∀ a ∈ items, ∀ (s : Shared) (H : Hp) (C : Addr) (cl : List (Str × Addr)) (fp : List Addr), PTs (X.blk s H scope (compEnvC scope cl C X.env) fp) ifs (tB T H0 w (up a (wipeE es (own.map (·.2)))) (pr a)))
    (he : ∀ a ∈ items, pr a = true → ∀ (s : Shared) (H : Hp) (C : Addr) (cl : List (Str × Addr)) (fp : List Addr), J (X.blk s H scope (compEnvC scope cl C X.env) fp) T H0 w (up a (wipeE es (own.map (·.2)))) elt (f a))
    (hf : ∀ a ∈ items, pr a = true → flat (f a) = true) (hl : items.length ≤ 90000) (hs : ∀ x, foldedSetIterable iter X.env x = pure x := by intro _; rfl) :
    PS X (.Assign [.Name y py] (.ListComp elt [⟨tg, iter, ifs, 0⟩] scope pos) spos) (tAsg (tN T H0 w es ((items.filter pr).map f)) (gName i)) :=
  weakS (ps_setLc hc hN hy hyl hsw src ok hg (fun s H C cl fp => exTs (P := fun a : α => a ∈ items) fun a ha => ht a ha s H C cl fp) (fun s H C cl fp => exE (P := fun a : α => a ∈ items ∧ pr a = true) fun a ha => he a ha.1 ha.2 s H C cl fp) hs)
    fun D σ H h => lc_rd items enc pr f up tgs hj hw hf hl σ H _ h
end
end G
set_option Elab.async false
set_option linter.all false
set_option maxRecDepth 100000
set_option maxHeartbeats 4000000
namespace G
open PySem PySem.Spec PyProof.Rows L2
/-! ### statements -/
/-- from the slots es to the slots es' -/
def tS (T : Tl) (H0 : Hp) (w : Ow) (es : Es) (w' : Ow) (es' : Es) : TS := fun D σ H => At T H0 w es σ H ∧ ∀ σ' H', At T H0 w' es' σ' H' → ownL w' σ' = ownL w σ → LamX.ExtN (BsO (ownL w σ) H) H' → D.nx σ' H'
/-- what it hands back is as ret says -/
def tR (T : Tl) (H0 : Hp) (w : Ow) (es : Es) (ret : V → Hp → Prop) : TS := fun D σ H => At T H0 w es σ H ∧ ∀ v H', ret v H' → D.rt v H'
def RD (T : Tl) (H0 : Hp) (d : PyData) : V → Hp → Prop := fun v H' => Up T H0 H' ∧ Dx H' v d
def RN (T : Tl) (H0 : Hp) (ds : List PyData) : V → Hp → Prop := fun v H' => ∃ p us, v = .ref p ∧ Vac H0 p ∧ Up T H0 H' ∧ H' p = some (.lst us) ∧ DxAll (cut H' p) us ds
abbrev JS (X : Cx) (T : Tl) (H0 : Hp) (st : Stmt) (w : Ow) (es : Es) (w' : Ow) (es' : Es) : Prop := PS X st (tS T H0 w es w' es')
abbrev JSs (X : Cx) (T : Tl) (H0 : Hp) (st : List Stmt) (w : Ow) (es : Es) (w' : Ow) (es' : Es) : Prop := PSs X st (tS T H0 w es w' es')
abbrev JR (X : Cx) (T : Tl) (H0 : Hp) (st : List Stmt) (w : Ow) (es : Es) (ret : V → Hp → Prop) : Prop := PSs X st (tR T H0 w es ret)
section
variable {X : Cx} {T : Tl} {H0 : Hp} {w w1 w2 : Ow} {es es1 es2 : Es} {st : Stmt} {rest body : List Stmt} {e a b : Expr} {pos p : Pos} {d : PyData} {ds rs : List PyData} {ret : V → Hp → Prop}
theorem ext_of {o : Option Addr} {H H1 H2 : Hp} (a : LamX.ExtN (BsO o H) H1) (b : LamX.ExtN (BsO o H1) H2) : LamX.ExtN (BsO o H) H2 := (bso_up a).trans b
theorem ext_up {o : Option Addr} {H H1 : Hp} (u : Up T H H1) : LamX.ExtN (BsO o H) H1 := bso_sub.trans u.ext
theorem js_nil : JSs X T H0 [] w es w es := weakSs pss_nil fun D σ H ⟨hA, q⟩ => q σ H hA rfl bso_sub
theorem js_cons (h1 : JS X T H0 st w es w1 es1) (h2 : JSs X T H0 rest w1 es1 w2 es2) : JSs X T H0 (st :: rest) w es w2 es2 :=
  weakSs (pss_cons h1 h2) fun D σ H ⟨hA, q⟩ => ⟨hA, fun σ1 H1 hA1 o1 x1 => ⟨hA1, fun σ2 H2 hA2 o2 x2 => q σ2 H2 hA2 (o2.trans o1) (ext_of x1 (by rw [← o1]; exact x2))⟩⟩
theorem js_to {w' : Ow} {es' : Es} (h : JSs X T H0 rest w es w1 es1) (ew : w1 = w') (ee : es1 = es') : JSs X T H0 rest w es w' es' := by
  subst ew ee
  exact h
theorem js_to1 {w' : Ow} {es' : Es} (h : JS X T H0 st w es w1 es1) (ew : w1 = w') (ee : es1 = es') : JS X T H0 st w es w' es' := by
  subst ew ee
  exact h
theorem js_one (h1 : JS X T H0 st w es w1 es1) : JSs X T H0 [st] w es w1 es1 := pss_one h1
theorem jr_cons (h1 : JS X T H0 st w es w1 es1) (h2 : JR X T H0 rest w1 es1 ret) : JR X T H0 (st :: rest) w es ret :=
  weakSs (pss_cons h1 h2) fun D σ H ⟨hA, q⟩ => ⟨hA, fun σ1 H1 hA1 _ _ => ⟨hA1, q⟩⟩
theorem jr_ret {d' : PyData} (h : J X T H0 w es e d') (ed : d' = d) : JR X T H0 [.Return (some e) pos] w es (RD T H0 d) := by
  subst ed
  exact weakSs (pss_one (ps_ret h)) fun D σ H ⟨hA, q⟩ => ⟨hA, fun v H1 u1 d1 => q v H1 ⟨hA.up.trans u1, dx_mono bs_sub _ _ d1⟩⟩
theorem jr_retN {ds' : List PyData} (h : JN X T H0 w es e ds') (ed : ds' = ds) : JR X T H0 [.Return (some e) pos] w es (RN T H0 ds) := by
  subst ed
  exact weakSs (pss_one (ps_ret h)) fun D σ H ⟨hA, q⟩ => ⟨hA, fun p H1 us hv u1 hp d1 => q _ H1 ⟨p, us, rfl, hv.back hA.up, hA.up.trans u1, hp, dxa_mono (cut_ext bs_sub) _ _ d1⟩⟩
/-- the written list itself -/
theorem jr_retOwn (i : Nat) {x : Str} {pp : Pos} (hN : X.N[i]? = some x := by rfl) (hv : Vis X.env.scope x := by first | exact Or.inl rfl | exact Or.inr (Or.inl rfl) | exact Or.inr (Or.inr rfl)) (hd : (x == ("__debug__" : Str)) = false := by decide)
    (ed : rs = ds) (hcd : (x == ("__classdict__" : Str)) = false := by decide) : JR X T H0 [.Return (some (.Name x pp)) pos] (some (i, rs)) es (RN T H0 ds) := by
  subst ed
  exact weakSs (pss_one (ps_ret (pe_var (i := i) hN hv hd hcd))) fun D σ H ⟨hA, q⟩ => by
    obtain ⟨l, us, h1, h2, h3, h4⟩ := hA.own i rs rfl
    exact ⟨_, h1, q _ H ⟨l, us, rfl, h2, hA.up, h3, h4⟩⟩
theorem jr_if {t : Expr} {k : Bool} {th : List Stmt} (hc : JT X T H0 w es t k) (h1 : k = true → JR X T H0 th w es ret) (h2 : k = false → JR X T H0 rest w es ret) : JR X T H0 (.If t th [] pos :: rest) w es ret := by
  cases k with
  | true => exact weakSs (pss_cons (ps_if hc (h1 rfl) pss_nil) pss_never) fun D σ H ⟨hA, q⟩ => ⟨hA, fun H1 u1 => iteT ⟨hA.lift u1, q⟩⟩
  | false => exact weakSs (pss_cons (ps_if hc (pss_never (sts := th)) pss_nil) (h2 rfl)) fun D σ H ⟨hA, q⟩ => ⟨hA, fun H1 u1 => iteF ⟨hA.lift u1, q⟩⟩
theorem js_if {t : Expr} {k : Bool} {th : List Stmt} (hc : JT X T H0 w es t k) (h1 : k = true → JSs X T H0 th w es w1 es1) (h2 : k = false → w1 = w ∧ es1 = es) : JS X T H0 (.If t th [] pos) w es w1 es1 := by
  cases k with
  | true => exact weakS (ps_if hc (h1 rfl) (pss_nil)) fun D σ H ⟨hA, q⟩ => ⟨hA, fun H1 u1 => iteT ⟨hA.lift u1, fun σ2 H2 hA2 o2 x2 => q σ2 H2 hA2 o2 (ext_of (ext_up u1) x2)⟩⟩
  | false =>
    obtain ⟨rfl, rfl⟩ := h2 rfl
    exact weakS (ps_if hc (pss_never (sts := th)) (pss_nil)) fun D σ H ⟨hA, q⟩ => ⟨hA, fun H1 u1 => iteF (q σ H1 (hA.lift u1) rfl (ext_up u1))⟩
/-! ### assignments -/
theorem js_asg {g : TG} {js : List Nat} {up : Es → Es} (h : PS X st (tAsg (tE T H0 w es d) g)) (tgs : TgS g js d up) (hw : ∀ i ds, w = some (i, ds) → i ∉ js) : JS X T H0 st w es w (up es) :=
  weakS h fun D σ H ⟨hA, q⟩ => ⟨hA, fun v H1 u1 d1 => tgs.run hw (hA.lift u1) d1 fun σ2 hA2 o2 _ => q σ2 H1 hA2 o2 (ext_up u1)⟩
theorem js_set (i : Nat) {x : Str} {pos' : Pos} (hN : X.N.Nodup) (h : J X T H0 w es e d) (hw : ∀ j ds, w = some (j, ds) → j ≠ i := by first | exact fun _ _ z => nomatch z | (intro _ _ z; cases z; decide)) (hi : X.N[i]? = some x := by rfl) (hx : Loc X.env.scope x := by first | exact Or.inl rfl | exact Or.inr rfl)
    (hs : swapsWith e (some (.Name x pos')) pos.line X.env = pure false := by rfl) (hf : X.fn x = true ∨ X.env.scope.names.lookup x = some .local := by first | exact .inl rfl | exact .inr rfl) : JS X T H0 (.Assign [.Name x pos'] e pos) w es w (es.set i (some d)) :=
  weakS (ps_set hN hi hx h hs hf) fun D σ H ⟨hA, q⟩ => ⟨hA, fun v H1 u1 d1 => q _ H1 ((hA.lift u1).set hw d1) (ownL_set hw) (ext_up u1)⟩
/-- a new list becomes a slot's data -/
theorem js_asgN (i : Nat) (h : PS X st (tAsg (tN T H0 w es ds) (gName i))) (hw : ∀ j ds, w = some (j, ds) → j ≠ i := by first | exact fun _ _ z => nomatch z | (intro _ _ z; cases z; decide)) : JS X T H0 st w es w (es.set i (some (.list ds))) :=
  weakS h fun D σ H ⟨hA, q⟩ => ⟨hA, fun p H1 us hv u1 hp d1 => q _ H1 ((hA.lift u1).set hw (dx_new hA hv u1 hp d1)) (ownL_set hw) (ext_up u1)⟩
/-- .. becomes the list that is written -/
theorem jr_create (i : Nat) (h : PS X st (tAsg (tN T H0 none es ds) (gName i))) (hl : i < es.length) (hr : JR X T H0 rest (some (i, ds)) (es.set i none) ret) : JR X T H0 (st :: rest) none es ret :=
  weakSs (pss_cons h hr) fun D σ H ⟨hA, q⟩ => ⟨hA, fun p H1 us hv u1 hp d1 => by
    have hA1 := hA.lift u1
    have hl2 : i < σ.length := by rw [hA.has.len]; exact hl
    have e1 : (σ.set i (some (V.ref p)))[i]? = some (some (V.ref p)) := List.getElem?_set_self hl2
    refine ⟨⟨hA1.up, hA1.tab, ?_, fun j ds' z => ?_⟩, q⟩
    · rw [bs_some (ownL_at e1)]
      refine (hA.has.mono (H' := cut H1 p) (fun b o eb n => ?_)).wipe i (some (V.ref p))
      have eb' : H b = some o := eb
      rw [cut_ne (fun z => by
        rw [z] at eb'
        obtain ⟨ps, r⟩ := hv _ eb'
        exact n ps r)]
      exact u1.ext b o eb' n
    · cases z
      exact ⟨p, us, e1, hv.back hA.up, hp, d1⟩⟩
/-- .. is written no more -/
theorem jr_rel {i : Nat} (hr : JR X T H0 rest none (es.set i (some (.list ds))) ret) : JR X T H0 rest (some (i, ds)) es ret :=
  weakSs hr fun D σ H ⟨hA, q⟩ => by
    obtain ⟨l, us, h1, h2, h3, h4⟩ := hA.own i ds rfl
    refine ⟨⟨hA.up, hA.tab, ?_, fun _ _ z => nomatch z⟩, q⟩
    have hh : Has H (σ.set i (some (V.ref l))) (es.set i (some (.list ds))) := (hA.has.mono bs_sub).set i (.lst (.inl h3) (dxa_mono cut_sub _ _ h4))
    have es2 : σ.set i (some (V.ref l)) = σ := by
      apply List.ext_getElem?
      intro j
      by_cases hj : i = j
      · subst hj
        rw [List.getElem?_set_self (List.getElem?_eq_some_iff.mp h1).1, h1]
      · rw [List.getElem?_set_ne hj]
    rw [es2] at hh
    exact hh
/-- a, b = x, y -/
theorem js_par {i j : Nat} {d2 : PyData} (h : PS X st (tPar i j (tD T H0 w es [d, d2]))) (hwi : ∀ m ds, w = some (m, ds) → m ≠ i := by first | exact fun _ _ z => nomatch z | (intro _ _ z; cases z; decide)) (hwj : ∀ m ds, w = some (m, ds) → m ≠ j := by first | exact fun _ _ z => nomatch z | (intro _ _ z; cases z; decide)) :
    JS X T H0 st w es w ((es.set i (some d)).set j (some d2)) :=
  weakS h fun D σ H ⟨hA, q⟩ => ⟨hA, fun vs H1 u1 d1 => by
    cases d1 with
    | @cons v1 _ _ _ k1 k2 =>
      cases k2 with
      | @cons v2 _ _ _ k2 k3 =>
        cases k3
        exact ⟨v1, v2, rfl, q _ H1 (((hA.lift u1).set hwi k1).set hwj (by rw [bso_is, ownL_set hwi, ← bso_is]; exact k2)) ((ownL_set hwj).trans (ownL_set hwi)) (ext_up u1)⟩⟩
theorem js_par3 {i j m : Nat} {d2 d3 : PyData} (h : PS X st (tPar3 i j m (tD T H0 w es [d, d2, d3]))) (hwi : ∀ m ds, w = some (m, ds) → m ≠ i := by first | exact fun _ _ z => nomatch z | (intro _ _ z; cases z; decide)) (hwj : ∀ m ds, w = some (m, ds) → m ≠ j := by first | exact fun _ _ z => nomatch z | (intro _ _ z; cases z; decide))
    (hwm : ∀ k ds, w = some (k, ds) → k ≠ m := by first | exact fun _ _ z => nomatch z | (intro _ _ z; cases z; decide)) : JS X T H0 st w es w (((es.set i (some d)).set j (some d2)).set m (some d3)) :=
  weakS h fun D σ H ⟨hA, q⟩ => ⟨hA, fun vs H1 u1 d1 => by
    cases d1 with
    | @cons v1 _ _ _ k1 k2 =>
      cases k2 with
      | @cons v2 _ _ _ k2 k3 =>
        cases k3 with
        | @cons v3 _ _ _ k3 k4 =>
          cases k4
          exact ⟨v1, v2, v3, rfl, q _ H1 ((((hA.lift u1).set hwi k1).set hwj (by rw [bso_is, ownL_set hwi, ← bso_is]; exact k2)).set hwm (by rw [bso_is, ownL_set hwj, ownL_set hwi, ← bso_is]; exact k3)) ((ownL_set hwm).trans ((ownL_set hwj).trans (ownL_set hwi))) (ext_up u1)⟩⟩
/-- x *= e of ints -/
theorem ip_mul {X : Cx} : PIp X .Mult (fun x y H Q => ∃ i j, x = .int i ∧ y = .int j ∧ CMul i j ∧ Q (.int (i * j)) H) := by
  intro pins s σ H x y v u Q I r1 r2 h
  obtain ⟨i, j, e1, e2, hc, q⟩ := h
  subst e1
  subst e2
  obtain ⟨t, rfl⟩ := r1
  obtain ⟨t', rfl⟩ := r2
  exact imul_int ⟨.int _, H, I.tok _, ⟨_, rfl⟩, q⟩ hc.ok
theorem js_mulBy (i : Nat) {x : Str} {pos' : Pos} {m n : Int} (hN : X.N.Nodup) (h0 : es[i]? = some (some (.int m))) (h : J X T H0 w es e (.int n)) (hc : CMul m n) (hw : ∀ j ds, w = some (j, ds) → j ≠ i := by first | exact fun _ _ z => nomatch z | (intro _ _ z; cases z; decide)) (hi : X.N[i]? = some x := by rfl) (hx : Loc X.env.scope x := by first | exact Or.inl rfl | exact Or.inr rfl)
    (hf : X.fn x = true ∨ X.env.scope.names.lookup x = some .local := by first | exact .inl rfl | exact .inr rfl) : JS X T H0 (.AugAssign (.Name x pos') .Mult e pos) w es w (es.set i (some (.int (m * n)))) :=
  weakS (ps_aug hN hi hx h ip_mul hf) fun D σ H ⟨hA, q⟩ => by
    obtain ⟨v, e1, e2⟩ := hA.has.dat i _ h0
    refine ⟨v, e1, hA, fun u H1 u1 d1 => ⟨m, n, dx_int e2, dx_int d1, hc, q _ H1 ((hA.lift u1).set hw (.int _)) (ownL_set hw) (ext_up u1)⟩⟩
/-! ### the list that is written: append, extend, pop -/
theorem own_put {i : Nat} {σ : L2.St} {H : Hp} {l : Addr} {us vs : List V} (hA : At T H0 (some (i, ds)) es σ H) (h1 : σ[i]? = some (some (.ref l))) (h2 : Vac H0 l) (h3 : H l = some (.lst us)) (hd : DxAll (cut H l) vs rs) : At T H0 (some (i, rs)) es σ (upd H l (.lst vs)) ∧ LamX.ExtN (BsO (ownL (some (i, ds)) σ) H) (upd H l (.lst vs)) := by
  have eo : ownL (some (i, ds)) σ = some l := ownL_at h1
  refine ⟨⟨hA.up.put h2 h3 (fun _ z => by cases z) (fun _ z => by cases z), tabs_upd h3 (fun _ z => by cases z) (fun _ z => by cases z) hA.tab, ?_, fun j ds' z => ?_⟩, ?_⟩
  · rw [bs_some (ownL_at h1), cut_upd, ← bs_some eo]
    exact hA.has
  · cases z
    exact ⟨l, vs, h1, h2, upd_same, by rw [cut_upd]; exact hd⟩
  · rw [eo]
    intro b o e n
    obtain ⟨n1, e1⟩ := cut_some (show cut H l b = some o from e)
    rw [upd_ne n1]
    exact e1
theorem js_append (i : Nat) {x : Str} {pp apos : Pos} (hN : X.N[i]? = some x) (h : J X T H0 (some (i, ds)) es e d) (hz : ds.length < 90000) (hv : Vis X.env.scope x := by first | exact Or.inl rfl | exact Or.inr (Or.inl rfl) | exact Or.inr (Or.inr rfl)) (hdb : (x == ("__debug__" : Str)) = false := by decide) (hcd : (x == ("__classdict__" : Str)) = false := by decide)
    (hbase : attributeBase (.Name x pp) "append" X.env (eval (.Name x pp) X.env) = eval (.Name x pp) X.env := by rfl)
    (hfew : ((backTo p (starEach [e] X.env)).all (fun x => !x.1) && (backToKw p (keywordEach [] X.env)).all (fun x => x.1.isSome) && decide ([e].length + ([] : List Keyword).length + (if ([] : List Keyword).isEmpty then 0 else 1) < 30)) = true := by rfl)
    (hline : (apos.endLine == p.line) = true := by rfl) (hs : starEach [e] X.env = (false, eval e X.env) :: starEach [] X.env := by rfl) (hpl : (backTo p (starEach [] X.env)).any (·.1) = false := by rfl) (hsw : swapsWith (.Call (.Attribute (.Name x pp) "append" apos) [e] [] p) none pos.line X.env = pure false := by rfl) :
    JS X T H0 (.Expr (.Call (.Attribute (.Name x pp) "append" apos) [e] [] p) pos) (some (i, ds)) es (some (i, ds ++ [d])) es :=
  weakS (ps_expr (pe_bm PySem.F.plainAttrs_list PySem.F.slot_list_append PySem.F.type_list_append mt_append (pe_var (i := i) hN hv hdb hcd) (ja_cons h ja_nil hs) hbase hfew hline hs hpl) hsw) fun D σ H ⟨hA, q⟩ => by
    obtain ⟨l, us, h1, h2, h3, h4⟩ := hA.own i ds rfl
    refine ⟨_, h1, .inl ⟨rfl, _, .inl (.inl h3)⟩, hA, fun vs H1 u1 d1 => ?_⟩
    cases d1 with
    | @cons v _ _ _ k1 k2 =>
      cases k2
      have h3' := u1.ext _ _ h3 (fun _ z => by cases z)
      have h4' := dxa_mono (cut_ext u1.ext) _ _ h4
      have k1' : Dx (cut H1 l) v d := by
        rw [← bs_some (w := some (i, ds)) (σ := σ) (ownL_at h1)]
        exact k1
      obtain ⟨a1, a2⟩ := own_put (hA.lift u1) h1 h2 h3' (dxa_snoc h4' k1')
      exact ⟨l, us, v, rfl, rfl, h3', by rw [dxa_len h4]; exact line_lt (by omega), q σ _ a1 ((ownL_at h1).trans (ownL_at h1).symm) (ext_of (ext_up u1) a2)⟩
theorem js_extend (i : Nat) {x : Str} {pp apos : Pos} (hN : X.N[i]? = some x) (h : JN X T H0 (some (i, ds)) es e rs) (hz : ds.length + rs.length ≤ 90000) (hv : Vis X.env.scope x := by first | exact Or.inl rfl | exact Or.inr (Or.inl rfl) | exact Or.inr (Or.inr rfl)) (hdb : (x == ("__debug__" : Str)) = false := by decide) (hcd : (x == ("__classdict__" : Str)) = false := by decide)
    (hbase : attributeBase (.Name x pp) "extend" X.env (eval (.Name x pp) X.env) = eval (.Name x pp) X.env := by rfl)
    (hfew : ((backTo p (starEach [e] X.env)).all (fun x => !x.1) && (backToKw p (keywordEach [] X.env)).all (fun x => x.1.isSome) && decide ([e].length + ([] : List Keyword).length + (if ([] : List Keyword).isEmpty then 0 else 1) < 30)) = true := by rfl)
    (hline : (apos.endLine == p.line) = true := by rfl) (hs : starEach [e] X.env = (false, eval e X.env) :: starEach [] X.env := by rfl) (hpl : (backTo p (starEach [] X.env)).any (·.1) = false := by rfl) (hsw : swapsWith (.Call (.Attribute (.Name x pp) "extend" apos) [e] [] p) none pos.line X.env = pure false := by rfl) :
    JS X T H0 (.Expr (.Call (.Attribute (.Name x pp) "extend" apos) [e] [] p) pos) (some (i, ds)) es (some (i, ds ++ rs)) es :=
  weakS (ps_expr (pe_bm PySem.F.plainAttrs_list PySem.F.slot_list_extend PySem.F.type_list_extend mt_extend (pe_var (i := i) hN hv hdb hcd) (pa_cons h pa_nil hs) hbase hfew hline hs hpl) hsw) fun D σ H ⟨hA, q⟩ => by
    obtain ⟨l, us, h1, h2, h3, h4⟩ := hA.own i ds rfl
    refine ⟨_, h1, .inl ⟨rfl, _, .inl (.inl h3)⟩, hA, fun b H1 vs hv u1 hb d1 => ?_⟩
    have h3' := u1.ext _ _ h3 (fun _ z => by cases z)
    have h4' := dxa_mono (cut_ext u1.ext) _ _ h4
    have k1' : DxAll (cut H1 l) vs rs := by
      rw [← bs_some (w := some (i, ds)) (σ := σ) (ownL_at h1)]
      exact dxa_mono cut_sub _ _ d1
    obtain ⟨a1, a2⟩ := own_put (hA.lift u1) h1 h2 h3' (dxa_app h4' k1')
    exact ⟨l, b, us, vs, rfl, rfl, h3', hb, by rw [dxa_len h4, dxa_len d1]; exact line_of (by omega), q σ _ a1 ((ownL_at h1).trans (ownL_at h1).symm) (ext_of (ext_up u1) a2)⟩
theorem js_popAt (i : Nat) {x : Str} {pp apos : Pos} {k : Nat} (hN : X.N[i]? = some x) (h : J X T H0 (some (i, ds)) es e (.int (k : Int))) (hk : k < ds.length) (hz : ds.length < 90000) (hv : Vis X.env.scope x := by first | exact Or.inl rfl | exact Or.inr (Or.inl rfl) | exact Or.inr (Or.inr rfl)) (hdb : (x == ("__debug__" : Str)) = false := by decide) (hcd : (x == ("__classdict__" : Str)) = false := by decide)
    (hbase : attributeBase (.Name x pp) "pop" X.env (eval (.Name x pp) X.env) = eval (.Name x pp) X.env := by rfl)
    (hfew : ((backTo p (starEach [e] X.env)).all (fun x => !x.1) && (backToKw p (keywordEach [] X.env)).all (fun x => x.1.isSome) && decide ([e].length + ([] : List Keyword).length + (if ([] : List Keyword).isEmpty then 0 else 1) < 30)) = true := by rfl)
    (hline : (apos.endLine == p.line) = true := by rfl) (hs : starEach [e] X.env = (false, eval e X.env) :: starEach [] X.env := by rfl) (hpl : (backTo p (starEach [] X.env)).any (·.1) = false := by rfl) (hsw : swapsWith (.Call (.Attribute (.Name x pp) "pop" apos) [e] [] p) none pos.line X.env = pure false := by rfl) :
    JS X T H0 (.Expr (.Call (.Attribute (.Name x pp) "pop" apos) [e] [] p) pos) (some (i, ds)) es (some (i, ds.eraseIdx k)) es :=
  weakS (ps_expr (pe_bm PySem.F.plainAttrs_list PySem.F.slot_list_pop PySem.F.type_list_pop mt_popAt (pe_var (i := i) hN hv hdb hcd) (ja_cons h ja_nil hs) hbase hfew hline hs hpl) hsw) fun D σ H ⟨hA, q⟩ => by
    obtain ⟨l, us, h1, h2, h3, h4⟩ := hA.own i ds rfl
    refine ⟨_, h1, .inl ⟨rfl, _, .inl (.inl h3)⟩, hA, fun vs H1 u1 d1 => ?_⟩
    cases d1 with
    | @cons v _ _ _ k1 k2 =>
      cases k2
      have h3' := u1.ext _ _ h3 (fun _ z => by cases z)
      have h4' := dxa_mono (cut_ext u1.ext) _ _ h4
      have hlen := dxa_len h4
      obtain ⟨a1, a2⟩ := own_put (hA.lift u1) h1 h2 h3' (dxa_erase k h4')
      have hk2 : k < us.length := by omega
      exact ⟨l, us, (k : Int), k, us[k], rfl, by rw [dx_int k1], h3', by omega, by omega, (ixN_seq (by unfold ixN; rw [if_pos (by omega), if_pos (by omega)]; rfl)).1, List.getElem?_eq_getElem hk2, q σ _ a1 ((ownL_at h1).trans (ownL_at h1).symm) (ext_of (ext_up u1) a2)⟩
/-! ### loops -/
theorem js_for {tg iter : Expr} {g : TG} {js : List Nat} (E : Nat → Es) (W : Nat → Ow) (up : PyData → Es → Es) (hp : PassesOwn (model X.prog X.w) X.A X.env X.xe) (hc : X.calm = true) (src : JI X T H0 (W 0) (E 0) tg iter ds) (hg : PG X tg g) (tgs : ∀ d ∈ ds, TgS g js d (up d))
    (hw : ∀ i m ds, W i = some (m, ds) → m ∉ js) (hb : ∀ (i : Nat) (d : PyData), ds[i]? = some d → JSs X T H0 body (W i) (up d (E i)) (W (i + 1)) (E (i + 1))) (hs : ∀ x, foldedSetIterable iter X.env x = pure x := by intro _; rfl) :
    JS X T H0 (.For tg iter body [] pos) (W 0) (E 0) (W ds.length) (E ds.length) := by
  refine weakS (ps_for hp hc src hg (exSs (P := fun q : Nat × PyData => ds[q.1]? = some q.2) fun q hq => hb q.1 q.2 hq) hs) fun D σ H ⟨hA, q⟩ => ⟨hA, fun Jt H1 u1 ⟨G, Y, wk, hG, hY⟩ => ?_⟩
  refine for_it (g := g) (tb := fun D σ H => ∃ q : Nat × PyData, ds[q.1]? = some q.2 ∧ tS T H0 (W q.1) (up q.2 (E q.1)) (W (q.1 + 1)) (E (q.1 + 1)) D σ H) (D := D) wk (fun i σ' H' => At T H0 (W i) (E i) σ' H' ∧ ownL (W i) σ' = ownL (W 0) σ ∧ LamX.ExtN (BsO (ownL (W 0) σ) H1) H')
    ⟨hA.lift u1, rfl, bso_sub⟩ (fun i σ' H' _ p => hG H' p.2.2) (fun i x σ' Ha Hb hi p hy => ?_) fun σ' H' p => q σ' H' p.1 p.2.1 (ext_of (ext_up u1) p.2.2)
  obtain ⟨hA1, o1, x1⟩ := p
  have nl : ∀ l, ownL (W 0) σ = some l → Ha l ≠ none := fun l hl2 z => by
    obtain ⟨_, _, vs, _, _, _, h3, _⟩ := hA1.ownAt (o1.trans hl2)
    rw [z] at h3
    cases h3
  obtain ⟨u2, d, hd, dd⟩ := hY i Ha x Hb hi x1 nl hy
  refine (tgs d (List.mem_of_getElem? hd)).run (hw i) (hA1.lift u2) (by rw [bso_is, o1]; exact dd) fun σ2 hA2 o2 _ => ⟨(i, d), hd, hA2, fun σ3 H3 hA3 o3 x3 => ⟨hA3, o3.trans (o2.trans o1), ?_⟩⟩
  rw [o2, o1] at x3
  exact ext_of (ext_of x1 (ext_up u2)) x3
theorem js_while {t : Expr} (n : Nat) (E : Nat → Es) (hp : PassesOwn (model X.prog X.w) X.A X.env X.xe) (ht : ∀ i, i ≤ n → JT X T H0 none (E i) t (decide (i < n))) (hb : ∀ i, i < n → JSs X T H0 body none (E i) none (E (i + 1))) : JS X T H0 (.While t body [] pos) none (E 0) none (E n) := by
  have ht' : PT X t (fun σ H Q => ∃ i : Nat, i ≤ n ∧ tB T H0 none (E i) (decide (i < n)) σ H Q) := ⟨fun pins s σ H Q I ⟨i, p, q⟩ => (ht i p).run pins s σ H Q I q⟩
  refine weakS (ps_while hp ht' (exSs (P := fun i : Nat => i < n) hb)) fun D σ H ⟨hA, q⟩ => ?_
  refine ⟨fun m σ' H' => ∃ i, i ≤ n ∧ m = n - i ∧ At T H0 none (E i) σ' H' ∧ LamX.ExtN (BsO none H) H', ⟨n, 0, Nat.zero_le _, rfl, hA, bso_sub⟩, fun m σ' H' ⟨i, hi, em, hA1, x1⟩ => ⟨i, hi, hA1, fun H2 u2 => ?_⟩⟩
  by_cases hlt : i < n
  · rw [decide_eq_true hlt]
    exact iteT ⟨_, fun σ3 H3 z => z, i, hlt, hA1.lift u2, fun σ3 H3 hA3 o3 x3 => ⟨n - (i + 1), by omega, i + 1, hlt, rfl, hA3, ext_of (ext_of x1 (ext_up u2)) x3⟩⟩
  · rw [decide_eq_false hlt]
    have e : i = n := by omega
    subst e
    exact iteF (q σ' H2 (hA1.lift u2) rfl (ext_of x1 (ext_up u2)))
end
end G
set_option Elab.async false
set_option linter.all false
set_option maxRecDepth 100000
set_option maxHeartbeats 4000000
namespace G
open PySem PySem.Spec PyProof.Rows L2
def startE (N : List Str) (ds : List PyData) : Es := ds.map some ++ List.replicate (N.length - ds.length) none
theorem at_start {T : Tl} {H : Hp} {N : List Str} {vs : List V} {ds : List PyData} (t : LamX.Tabs T H) (h : DxAll H vs ds) : At T H none (startE N ds) (L2.start N vs) H := by
  refine ⟨Up.refl, t, ⟨?_, fun i d e => ?_⟩, fun _ _ z => nomatch z⟩
  · unfold L2.start startE
    rw [List.length_append, List.length_append, List.length_map, List.length_map, List.length_replicate, List.length_replicate, dxa_len h]
  · unfold startE at e
    by_cases hi : i < ds.length
    · rw [List.getElem?_append_left (by rw [List.length_map]; exact hi), List.getElem?_map] at e
      cases q : ds[i]? with
      | none =>
        rw [q] at e
        cases e
      | some d' =>
        rw [q] at e
        have e' : d' = d := Option.some.inj (Option.some.inj e)
        subst e'
        obtain ⟨v, h1, h2⟩ := dxa_get h q
        refine ⟨v, ?_, h2⟩
        unfold L2.start
        rw [List.getElem?_append_left (by rw [List.length_map, dxa_len h]; exact hi), List.getElem?_map, h1]
        rfl
    · rw [List.getElem?_append_right (by rw [List.length_map]; omega)] at e
      have z := List.mem_of_getElem? e
      rw [List.mem_replicate] at z
      cases z.2
section
variable {P : Program} {w : World} {K : PySem.W.Frag} {mg : Str → Option Value} {base : Heap} {T : Tl} {k : Nat} {x : Str} {st : Stmt} {f : Addr} {fd : FuncData} {N ps : List Str}
theorem fd_D {R : List PyData → PyData → Prop} (F : Fun K x x st f fd) (S : FnScope N ps (defScope st)) (hm : mg x = some (.ref f)) (hb : Binds K fd ps []) (hlen : ∀ ds d, R ds d → ds.length = ps.length)
    (body : ∀ (cdv : Value) (A : Around) (outer : List Env) (s : Shared) (H : Hp) (E : XK), Room k (A.deeper (envOfC x (defScope st) s.heap.objs.size f cdv)) → ∀ ds d, R ds d → JR (cxOf CX0 P w K mg base N x (defScope st) f cdv A outer s H E).nox T H (defBody st) none (startE N ds) (RD T H d)) :
    Fd P w K mg base (k + 1) x (spD T R) :=
  ⟨f, fd, ps, F.ok S (fun vs H Q E h => by
    obtain ⟨_, ds, d, h1, h2, _⟩ := h
    rw [dxa_len h1]
    exact hlen ds d h2) (fun cdv A outer s H vs Q E hr h => by
      obtain ⟨t, ds, d, h1, h2, q⟩ := h
      exact ⟨_, body cdv A outer s H E hr ds d h2, at_start t h1, fun v H' ⟨u, dd⟩ => q v H' u dd⟩), hm, F.kp, hb⟩
theorem fd_N {R : List PyData → List PyData → Prop} (F : Fun K x x st f fd) (S : FnScope N ps (defScope st)) (hm : mg x = some (.ref f)) (hb : Binds K fd ps []) (hlen : ∀ ds d, R ds d → ds.length = ps.length)
    (body : ∀ (cdv : Value) (A : Around) (outer : List Env) (s : Shared) (H : Hp) (E : XK), Room k (A.deeper (envOfC x (defScope st) s.heap.objs.size f cdv)) → ∀ ds rs, R ds rs → JR (cxOf CX0 P w K mg base N x (defScope st) f cdv A outer s H E).nox T H (defBody st) none (startE N ds) (RN T H rs)) :
    Fd P w K mg base (k + 1) x (spN T R) :=
  ⟨f, fd, ps, F.ok S (fun vs H Q E h => by
    obtain ⟨_, ds, d, h1, h2, _⟩ := h
    rw [dxa_len h1]
    exact hlen ds d h2) (fun cdv A outer s H vs Q E hr h => by
      obtain ⟨t, ds, d, h1, h2, q⟩ := h
      exact ⟨_, body cdv A outer s H E hr ds d h2, at_start t h1, fun v H' ⟨p, us, e, hv, u, hp, dd⟩ => by
        subst e
        exact q p H' us hv u hp dd⟩), hm, F.kp, hb⟩
theorem Fd.mono {j : Nat} {sp : Sp} (F : Fd P w K mg base j x sp) (h : j ≤ k) : Fd P w K mg base k x sp := by
  obtain ⟨f, fd, ps, G, a, b, c⟩ := F.ex
  exact ⟨f, fd, ps, G.mono h, a, b, c⟩
end
end G
set_option Elab.async false
set_option linter.all false
set_option maxRecDepth 100000
set_option maxHeartbeats 4000000
namespace G
open PySem PySem.Spec PyProof.Rows L2
/-! ### further rules: sum of a tuple, index, the written list read as data, two clauses -/
theorem walk_it {J : It} {n : Nat} {G : Hp → Prop} {Y : Nat → Hp → V → Hp → Prop} (w : Walk J n G Y) {Hs : Hp} {Qd : Hp → Prop} {body : (Hp → Prop) → V → Hp → Prop} (Pv : Nat → Hp → Prop) (h0 : Pv 0 Hs) (hG : ∀ i H, i ≤ n → Pv i H → G H)
    (hs : ∀ i x H H', i < n → Pv i H → Y i H x H' → body (Pv (i + 1)) x H') (hd : ∀ H, Pv n H → Qd H) :
    ∃ W : Nat → Nat → Hp → Prop, (∃ m, W 0 m Hs) ∧ ∀ i m H, W i m H → (J.stop i H ∧ Qd H) ∨ (J.go i H ∧ ∃ Nx : Hp → Prop, (∀ H', Nx H' → ∃ m', m' < m ∧ W (i + 1) m' H') ∧ ∀ x H', J.yld i H x H' → body Nx x H') := by
  refine ⟨fun i m H => m = n - i ∧ i ≤ n ∧ Pv i H, ⟨n, by simp, Nat.zero_le _, h0⟩, ?_⟩
  rintro i m H ⟨rfl, hi, p⟩
  have q := hG i H hi p
  by_cases hlt : i < n
  · exact .inr ⟨w.goes i H hlt q, Pv (i + 1), fun H' p' => ⟨n - (i + 1), by omega, rfl, hlt, p'⟩, fun x H' y => hs i x H H' hlt p (w.yields i H x H' hlt q y)⟩
  · have e : i = n := by omega
    subst e
    exact .inl ⟨w.stops H q, hd H p⟩
theorem wipe_idem (σ : L2.St) (vs : List Nat) : wipe (wipe σ vs) vs = wipe σ vs := by
  have idem : ∀ (us : List Nat), (∀ j ∈ us, j ∈ vs) → wipe (wipe σ us) vs = wipe σ vs := by
    intro us
    induction us with
    | nil => intro _; rfl
    | cons u us ih =>
      intro hu
      show wipe ((wipe σ us).set u none) vs = _
      rw [wipe_in (hu u List.mem_cons_self)]
      exact ih fun j hj2 => hu j (List.mem_cons_of_mem _ hj2)
  exact idem vs fun _ z => z
section
variable {X : Cx} {T : Tl} {H0 : Hp} {w : Ow} {es : Es} {a b c e : Expr} {pos p : Pos} {d : PyData} {ds rs : List PyData}
def rSumTu : List V → Hp → VK → Prop := fun vs H Q => ∃ (a : Addr) (ns : List Int), vs = [V.ref a] ∧ Rd H a (.tup (ns.map V.int)) ∧ Q (.int ns.sum) H
theorem cr_sumTu (hc : X.calm = true) : CallR X (.builtin "sum") rSumTu := by
  intro pins s σ H vs us Q I r h
  obtain ⟨a, ns, rfl, hs, q⟩ := h
  obtain ⟨hz, its, rv, ht⟩ := hs.ok I.hok
  rw [Vals.ref1 r]
  obtain ⟨xs, hx⟩ := rv.ints.allInts.items
  have hn : numsOf its.toArray.toList = ns := by rw [show its.toArray.toList = its from rfl, rv.ints.numsOf]
  rw [hx] at ht hn
  rw [nums_intItems] at hn
  refine PySem.W.ktm_sumG (I.ok.hd hc) ht fun h' tk t' hk => ?_
  rw [preSum_eq, List.take_of_length_le (by simp), hn]
  exact ⟨.int _, H, I.kept hk, ⟨_, rfl⟩, q⟩
theorem j_sumT {ns : List Int} (hc : X.calm = true) (hm : X.mg "sum" = none) (ha : J X T H0 w es a (.tuple (ns.map .int))) (hg : Gl X "sum" := by rfl) (he : starEach (a :: []) X.env = (false, eval a X.env) :: starEach [] X.env := by rfl) : J X T H0 w es (.Call (.Name "sum" p) [a] [] pos) (.int ns.sum) :=
  j_bi (cr_sumTu hc) hm (ja_cons ha ja_nil he) (fun σ H vs Q hA h q => by
    cases h with
    | cons h1 h2 =>
      cases h2
      obtain ⟨l, us, e, hl, hd⟩ := dx_tup h1
      subst e
      have e2 := dxa_ints hd
      subst e2
      exact ⟨l, ns, rfl, rdt_mono bs_sub hl, q _ H Up.refl (.int _)⟩) (by decide +kernel) hg (by decide) (by decide) he
/-- the written list read as data -/
theorem At.unown {i : Nat} {σ : L2.St} {H : Hp} (hA : At T H0 (some (i, ds)) es σ H) : At T H0 none (es.set i (some (.list ds))) σ H := by
  obtain ⟨l, us, h1, h2, h3, h4⟩ := hA.own i ds rfl
  refine ⟨hA.up, hA.tab, ?_, fun _ _ z => nomatch z⟩
  have hh : Has H (σ.set i (some (V.ref l))) (es.set i (some (.list ds))) := (hA.has.mono bs_sub).set i (.lst (.inl h3) (dxa_mono cut_sub _ _ h4))
  have es2 : σ.set i (some (V.ref l)) = σ := by
    apply List.ext_getElem?
    intro j
    by_cases hj : i = j
    · subst hj
      rw [List.getElem?_set_self (List.getElem?_eq_some_iff.mp h1).1, h1]
    · rw [List.getElem?_set_ne hj]
  rw [es2] at hh
  exact hh
theorem j_unown {i : Nat} (h : J X T H0 none (es.set i (some (.list ds))) e d) (f : flat d = true) : J X T H0 (some (i, ds)) es e d :=
  weakE h fun σ H Q ⟨hA, q⟩ => ⟨hA.unown, fun v H1 u1 d1 => q v H1 u1 ((hA.lift u1).strong (.inr f) d1)⟩
theorem jt_unown {i : Nat} {k : Bool} (h : JT X T H0 none (es.set i (some (.list ds))) e k) : JT X T H0 (some (i, ds)) es e k :=
  weakT h fun σ H Q ⟨hA, q⟩ => ⟨hA.unown, fun H1 u1 => q H1 u1⟩
/-- x.index(e) of a list of ints -/
theorem j_idx {apos : Pos} {ns : List Int} {n : Int} (hn : n ∈ ns) (ha : J X T H0 w es a (.list (ns.map .int))) (hb : J X T H0 w es b (.int n))
    (hbase : attributeBase a "index" X.env (eval a X.env) = eval a X.env := by rfl)
    (hfew : ((backTo p (starEach [b] X.env)).all (fun x => !x.1) && (backToKw p (keywordEach [] X.env)).all (fun x => x.1.isSome) && decide ([b].length + ([] : List Keyword).length + (if ([] : List Keyword).isEmpty then 0 else 1) < 30)) = true := by rfl)
    (hline : (apos.endLine == p.line) = true := by rfl) (hs : starEach [b] X.env = (false, eval b X.env) :: starEach [] X.env := by rfl) (hpl : (backTo p (starEach [] X.env)).any (·.1) = false := by rfl) :
    J X T H0 w es (.Call (.Attribute a "index" apos) [b] [] p) (.int (ns.idxOf n : Nat)) :=
  weakE (pe_bm PySem.F.plainAttrs_list PySem.F.slot_list_index PySem.F.type_list_index mt_index ha (ja_cons hb ja_nil hs) hbase hfew hline hs hpl) fun σ H Q ⟨hA, q⟩ => ⟨hA, fun u H1 u1 d1 => by
    obtain ⟨l, us, e, hl, hd⟩ := dx_lst d1
    subst e
    have e2 := dxa_ints hd
    subst e2
    have hl1 := rdl_mono bs_sub hl
    refine .inl ⟨rfl, _, .inl hl1⟩ |> fun z => ⟨z, hA.lift u1, fun vs H2 u2 d2 => ?_⟩
    cases d2 with
    | cons k1 k2 =>
      cases k2
      have ek := dx_int k1
      subst ek
      have hlt := List.idxOf_lt_length_of_mem hn
      refine ⟨l, ns.map V.int, .int n, ns.idxOf n, .int n, rfl, rfl, .inl (rdl_mono u2.ext hl1), rfl, flat_ints ns, ?_, ?_, fun m z' hm hz => ?_, q _ H2 (u1.trans u2) (.int _)⟩
      · rw [List.getElem?_map, List.getElem?_eq_getElem hlt, List.getElem_idxOf hlt]
        rfl
      · show (n == n) = true
        exact beq_self_eq_true n
      · rw [List.getElem?_map] at hz
        have hml : m < ns.length := Nat.lt_trans hm hlt
        rw [List.getElem?_eq_getElem hml] at hz
        have ez : V.int ns[m] = z' := Option.some.inj hz
        subst ez
        show (ns[m] == n) = false
        have := List.not_of_lt_findIdx (p := (· == n)) (xs := ns) hm
        simpa using this⟩
/-- range(n) as the second source -/
def tIr (T : Tl) (H0 : Hp) (es : Es) (n : Nat) : TI := fun σ H R => At T H0 none es σ H ∧ ∀ H1, Up T H H1 → R (Itr 0 n) H1
theorem ji_rangeR {tg : Expr} {n : Nat} (hm : X.mg "range" = none) (hn : n ≤ 100000) (ha : J X T H0 none es a (.int (n : Int))) (hg : Gl X "range" := by rfl) (he : starEach [a] X.env = (false, eval a X.env) :: starEach [] X.env := by rfl) : PI X tg (.Call (.Name "range" p) [a] [] pos) (tIr T H0 es n) :=
  weakI (pi_range1 hg hm (ja_cons ha ja_nil he) he) fun σ H R ⟨hA, q⟩ => ⟨hA, fun vs H1 u1 d1 => by
    cases d1 with
    | cons k1 k2 =>
      cases k2
      refine ⟨(n : Int), by rw [dx_int k1], by omega, by omega, ?_⟩
      have e : ((n : Int)).toNat = n := by omega
      rw [e]
      exact q H1 u1⟩
theorem tupN_up {T : Tl} {H H' : Hp} (u : Up T H H') : TupN H H' := ⟨fun a xs e => u.ext _ _ e (fun _ z => by cases z), fun a o xs e => u.ext _ _ e (fun _ z => by cases z)⟩
theorem TupN.trans {H H' H2 : Hp} (a : TupN H H') (b : TupN H' H2) : TupN H H2 := ⟨fun c xs e => b.1 _ _ (a.1 _ _ e), fun c o xs e => b.2 _ _ _ (a.2 _ _ _ e)⟩
theorem exI {X : Cx} {ι : Type} {P : ι → Prop} {tg e : Expr} {t : ι → TI} (h : ∀ i, P i → PI X tg e (t i)) : PI X tg e (fun σ H Q => ∃ i, P i ∧ t i σ H Q) := ⟨fun pins s σ H Q I ⟨i, p, q⟩ => (h i p).run pins s σ H Q I q⟩
/-- [elt for x in iter for y in range(n)], without tests -/
theorem lc2_rd {α : Type} (items : List α) (enc : α → PyData) (n : Nat) (f : α → Nat → PyData) {own : List (Str × Nat)} {vs1 : List Nat} {j j1 : Nat}
    (hj : j ∈ own.map (·.2)) (hj1 : j1 ∈ vs1) (fe : ∀ a ∈ items, flat (enc a) = true) (ff : ∀ a ∈ items, ∀ b, b < n → flat (f a b) = true)
    (hl : items.length * n ≤ 90000) (σ : L2.St) (H : Hp) (Q : VK) (hh : tN T H0 none es (items.flatMap fun a => (List.range n).map (f a)) σ H Q) :
    tLc2 (tI T H0 none es (items.map enc)) (gName j) (fun σ H Q => ∃ a, a ∈ items ∧ tB T H0 none ((wipeE es (own.map (·.2))).set j (some (enc a))) true σ H Q) (fun σ H Q => ∃ a, a ∈ items ∧ tIr T H0 ((wipeE es (own.map (·.2))).set j (some (enc a))) n σ H Q) (gName j1)
      (fun σ H Q => ∃ i : α × Nat, (i.1 ∈ items ∧ i.2 < n) ∧ tB T H0 none ((wipeE ((wipeE es (own.map (·.2))).set j (some (enc i.1))) vs1).set j1 (some (.int (i.2 : Nat)))) true σ H Q)
      (fun σ H Q => ∃ i : α × Nat, (i.1 ∈ items ∧ i.2 < n) ∧ tE T H0 none ((wipeE ((wipeE es (own.map (·.2))).set j (some (enc i.1))) vs1).set j1 (some (.int (i.2 : Nat)))) (f i.1 i.2) σ H Q) (own.map (·.2)) vs1 σ H Q := by
  obtain ⟨hA, q⟩ := hh
  show tI T H0 none es (items.map enc) σ H _
  refine ⟨hA, fun Jt H1 u1 ⟨G, Y, wk, hG, hY⟩ D hD => ?_⟩
  have hA1 := hA.lift u1
  have tot : ∀ i, ((items.take i).flatMap fun a => (List.range n).map (f a)).length = (items.take i).length * n := by
    intro i
    rw [List.length_flatMap]
    simp [List.map_const', List.sum_replicate_nat]
  have flt : ∀ i m, m ≤ n → ∀ a, a ∈ items → flat.flatAll (((items.take i).flatMap fun a => (List.range n).map (f a)) ++ (List.range m).map (f a)) = true := fun i m hm a ha => flatAll_mem.mpr fun d hd => by
    rcases List.mem_append.mp hd with hd | hd
    · obtain ⟨a', ha', hd⟩ := List.mem_flatMap.mp hd
      obtain ⟨b, hb, rfl⟩ := List.mem_map.mp hd
      exact ff a' (List.mem_of_mem_take ha') b (List.mem_range.mp hb)
    · obtain ⟨b, hb, rfl⟩ := List.mem_map.mp hd
      exact ff a ha b (Nat.lt_of_lt_of_le (List.mem_range.mp hb) hm)
  refine walk_it wk (fun i H' => Up T H1 H' ∧ ∃ acc, H' D = some (.lst acc) ∧ DxAll H' acc ((items.take i).flatMap fun a => (List.range n).map (f a))) ⟨Up.new hD, [], upd_same, .nil⟩ (fun i H' _ p => hG H' (bso_sub.trans p.1.ext)) (fun i x Ha Hb hi p hy => ?_) fun H' p => ?_
  · obtain ⟨u2, acc, hacc, dacc⟩ := p
    rw [List.length_map] at hi
    obtain ⟨u3, d, hd, dd⟩ := hY i Ha x Hb (by rw [List.length_map]; exact hi) (bso_sub.trans u2.ext) (fun _ z => nomatch z) hy
    obtain ⟨a, ha⟩ : ∃ a, items[i]? = some a := ⟨_, List.getElem?_eq_getElem hi⟩
    have ed : d = enc a := by
      rw [List.getElem?_map, ha] at hd
      exact (Option.some.inj hd).symm
    subst ed
    have ham : a ∈ items := List.mem_of_getElem? ha
    obtain ⟨hW, oW⟩ := ((hA1.lift u2).lift u3).wipe (vs := own.map (·.2)) (fun _ _ z => nomatch z)
    have atA : ∀ H', Up T H1 H' → TupN Hb H' → At T H0 none ((wipeE es (own.map (·.2))).set j (some (enc a))) ((wipe σ (own.map (·.2))).set j (some x)) H' := fun H' u t =>
      ((hA1.lift u).wipe (vs := own.map (·.2)) (fun _ _ z => nomatch z)).1.set (fun _ _ z => nomatch z) (dx_flat t _ _ (fe a ham) dd)
    have take_i : (items.take (i + 1)).flatMap (fun a => (List.range n).map (f a)) = ((items.take i).flatMap fun a => (List.range n).map (f a)) ++ (List.range n).map (f a) := by
      rw [List.take_add_one, ha, List.flatMap_append]
      simp
    have hi2 : (items.take i).length = i := List.length_take_of_le (Nat.le_of_lt hi)
    have bnd : i * n + n ≤ 90000 := by
      have h1 : (i + 1) * n ≤ items.length * n := Nat.mul_le_mul_right _ hi
      rw [Nat.succ_mul] at h1
      omega
    refine ⟨(wipe_in hj).trans (wipe_idem _ _), a, ham, atA Hb (u2.trans u3) ⟨fun _ _ e => e, fun _ _ _ e => e⟩, fun H3 u4 => ?_⟩
    refine iteT ?_
    refine ⟨a, ham, atA H3 ((u2.trans u3).trans u4) (tupN_up u4), fun H4 u5 => ?_⟩
    have u35 := (u3.trans u4).trans u5
    refine walk_it walk_range (fun m H' => Up T H1 H' ∧ TupN Hb H' ∧ ∃ acc, H' D = some (.lst acc) ∧ DxAll H' acc (((items.take i).flatMap fun a => (List.range n).map (f a)) ++ (List.range m).map (f a)))
      ⟨u2.trans u35, tupN_up (u4.trans u5), acc, u35.ext _ _ hacc (fun _ z => by cases z), by rw [List.range_zero, List.map_nil, List.append_nil]; exact dxa_mono u35.ext _ _ dacc⟩ (fun _ _ _ _ => True.intro) (fun m y Hc Hd hm p2 hy2 => ?_) fun H' p2 => ?_
    · obtain ⟨e1, e2⟩ := hy2
      subst e1 e2
      obtain ⟨v2, t2, acc2, hacc2, dacc2⟩ := p2
      have atB : ∀ H', Up T H1 H' → TupN Hb H' → At T H0 none ((wipeE ((wipeE es (own.map (·.2))).set j (some (enc a))) vs1).set j1 (some (.int (m : Nat)))) ((wipe ((wipe σ (own.map (·.2))).set j (some x)) vs1).set j1 (some (.int (0 + (m : Nat))))) H' := fun H' u t =>
        ((atA H' u t).wipe (vs := vs1) (fun _ _ z => nomatch z)).1.set (fun _ _ z => nomatch z) (by rw [Int.zero_add]; exact .int _)
      refine ⟨(wipe_in hj1).trans (wipe_idem _ _), (a, m), ⟨ham, hm⟩, atB Hd v2 t2, fun H5 u6 => ?_⟩
      refine iteT ?_
      refine ⟨(a, m), ⟨ham, hm⟩, atB H5 (v2.trans u6) (t2.trans (tupN_up u6)), fun z H6 u7 dz => ⟨acc2, (u6.trans u7).ext _ _ hacc2 (fun _ z => by cases z), ?_, ?_⟩⟩
      · rw [dxa_len dacc2, List.length_append, tot, List.length_map, List.length_range, hi2]
        exact line_lt (by omega)
      · have h6 := (u6.trans u7).ext _ _ hacc2 (fun _ z => by cases z)
        have tn : TupN H6 (upd H6 D (.lst (acc2 ++ [z]))) := tupN_upd h6 (fun _ z => by cases z) (fun _ _ z => by cases z)
        refine ⟨((v2.trans u6).trans u7).put (.none hD) h6 (fun _ z => by cases z) (fun _ z => by cases z), ((t2.trans (tupN_up u6)).trans (tupN_up u7)).trans tn, _, upd_same, ?_⟩
        rw [List.range_succ, List.map_append, ← List.append_assoc]
        exact dxa_app (dxa_flat tn _ _ (flt i m (Nat.le_of_lt hm) a ham) (dxa_mono (u6.trans u7).ext _ _ dacc2)) (.cons (dx_flat tn _ _ (ff a ham m hm) dz) .nil)
    · obtain ⟨v2, t2, acc2, hacc2, dacc2⟩ := p2
      exact ⟨v2, acc2, hacc2, by rw [take_i]; exact dacc2⟩
  · obtain ⟨u2, acc, hacc, dacc⟩ := p
    rw [List.length_map, List.take_length] at dacc
    refine q D H' acc (.of u1 hD) (u1.trans u2) hacc ?_
    refine dxa_flat (H := H') ⟨fun b xs e => ?_, fun b o xs e => ?_⟩ _ _ (flatAll_mem.mpr fun d hd => ?_) dacc
    · rw [cut_ne (fun z => by rw [z, hacc] at e; cases e)]
      exact e
    · rw [cut_ne (fun z => by rw [z, hacc] at e; cases e)]
      exact e
    · obtain ⟨a', ha', hd⟩ := List.mem_flatMap.mp hd
      obtain ⟨b, hb, rfl⟩ := List.mem_map.mp hd
      exact ff a' ha' b (List.mem_range.mp hb)
theorem jn_setLc2 {α : Type} (items : List α) (enc : α → PyData) (n : Nat) (f : α → Nat → PyData) {i j j1 : Nat} {y : Str} {py spos : Pos} {elt tg iter tg1 iter1 : Expr} {scope : Scope} {own : List (Str × Nat)} {vs1 : List Nat}
    (hc : X.calm = true) (hN : X.N.Nodup) (hy : X.N[i]? = some y) (hyl : X.env.scope.names.lookup y = some .local)
    (hsw : swapsWith (.ListComp elt [⟨tg, iter, [], 0⟩, ⟨tg1, iter1, [], 0⟩] scope pos) (some (.Name y py)) spos.line X.env = pure true) (src : JI X T H0 none es tg iter (items.map enc)) (ok : BlkOk X.N X.env.scope scope own) (hv : ∀ i ∈ vs1, i ∈ own.map (·.2))
    (hg : ∀ (s : Shared) (H : Hp) (C : Addr) (cl : List (Str × Addr)) (fp : List Addr), PG (X.blk s H scope (compEnvC scope cl C X.env) fp) tg (gName j))
    (src1 : ∀ a ∈ items, ∀ (s : Shared) (H : Hp) (C : Addr) (cl : List (Str × Addr)) (fp : List Addr), PI (X.blk s H scope (compEnvC scope cl C X.env) fp) tg1 iter1 (tIr T H0 ((wipeE es (own.map (·.2))).set j (some (enc a))) n))
    (hg1 : ∀ (s : Shared) (H : Hp) (C : Addr) (cl : List (Str × Addr)) (fp : List Addr), PG (X.blk s H scope (compEnvC scope cl C X.env) fp) tg1 (gName j1))
    (hj : j ∈ own.map (·.2)) (hj1 : j1 ∈ vs1) (fe : ∀ a ∈ items, flat (enc a) = true) (ff : ∀ a ∈ items, ∀ b, b < n → flat (f a b) = true) (hl : items.length * n ≤ 90000)
    (he : ∀ a ∈ items, ∀ m, m < n → ∀ (s : Shared) (H : Hp) (C : Addr) (cl : List (Str × Addr)) (fp : List Addr), J (X.blk s H scope (compEnvC scope cl C X.env) fp) T H0 none ((wipeE ((wipeE es (own.map (·.2))).set j (some (enc a))) vs1).set j1 (some (.int (m : Nat)))) elt (f a m))
    (hs : ∀ x, foldedSetIterable iter X.env x = pure x := by intro _; rfl) (hs1 : ∀ env x, foldedSetIterable iter1 env x = pure x := by intro _ _; rfl) :
    PS X (.Assign [.Name y py] (.ListComp elt [⟨tg, iter, [], 0⟩, ⟨tg1, iter1, [], 0⟩] scope pos) spos) (tAsg (tN T H0 none es (items.flatMap fun a => (List.range n).map (f a))) (gName i)) :=
  weakS (ps_setLc2 hc hN hy hyl hsw src ok hv hg (fun s H C cl fp => exTs (P := fun a : α => a ∈ items) fun a ha => jts_nil) (fun s H C cl fp => exI (P := fun a : α => a ∈ items) fun a ha => src1 a ha s H C cl fp) hg1
    (fun s H C cl fp => exTs (P := fun q : α × Nat => q.1 ∈ items ∧ q.2 < n) fun q hq => jts_nil) (fun s H C cl fp => exE (P := fun q : α × Nat => q.1 ∈ items ∧ q.2 < n) fun q hq => he q.1 hq.1 q.2 hq.2 s H C cl fp) hs hs1)
    fun D σ H h => lc2_rd items enc n f hj hj1 fe ff hl σ H _ h
/-! ### small helps -/
theorem fold_more {α β : Type} {g : β → α → β} {b : β} {l : List α} {i : Nat} {x : α} (h : l[i]? = some x) : (l.take (i + 1)).foldl g b = g ((l.take i).foldl g b) x := by
  rw [List.take_add_one, h, List.foldl_append]
  rfl
end
/-- a tuple of ints -/
def tup (l : List Int) : PyData := .tuple (l.map .int)
theorem tup_flat (l : List Int) : flat (tup l) = true := by
  unfold tup flat
  rw [flatAll_mem]
  intro d hd
  obtain ⟨i, _, rfl⟩ := List.mem_map.mp hd
  rfl
/-- a pair of ints -/
def fr (q : Int × Int) : PyData := .tuple [.int q.1, .int q.2]
theorem fr_tup (q : Int × Int) : fr q = tup [q.1, q.2] := rfl
theorem at_ints {l : List Int} {c : Int} (h0 : 0 ≤ c) (h1 : c < l.length) : atI (l.map PyData.int) c = some (.int (l.getD c.toNat 0)) := by
  have e : ixN (l.map PyData.int).length c = some c.toNat := by
    unfold ixN
    rw [List.length_map, if_pos h0, if_pos h1]
  unfold atI
  rw [e, Option.bind_some, List.getElem?_map, List.getElem?_eq_getElem (by omega), List.getD_eq_getElem?_getD, List.getElem?_eq_getElem (by omega)]
  rfl
end G
set_option Elab.async false
set_option linter.all false
set_option maxRecDepth 100000
set_option maxHeartbeats 4000000
namespace G
open PySem PySem.Spec PyProof.Rows L2
/-! ### mirrors, in plain Lean -/
/-- the lots, as they are found -/
def lotsM : Nat → List (List Int)
  | 0 => [[]]
  | n + 1 => lotsM n ++ (lotsM n).map (· ++ [(n : Int)])
def sumM (votes lot : List Int) : Int := (lot.map fun c => votes.getD c.toNat 0).sum
def facM (lot : List Int) (q : (Int × Int) × Nat) : Int := if lot.contains (q.2 : Int) = true then q.1.1 else q.1.2 - q.1.1
def wStep (lot : List Int) (f : Int) (q : (Int × Int) × Nat) : Int := f * facM lot q
def weightM (ups : List (Int × Int)) (lot : List Int) : Int := ups.zipIdx.foldl (wStep lot) 1
def uStep (f : Int) (q : Int × Int) : Int := f * q.2
def underM (b : Int) (ups : List (Int × Int)) : Int := ups.foldl uStep b
def upM (many : Nat) (up : Int × Int) (least : Int) : Int := (((lotsM many).filter fun lot => decide (least ≤ (lot.length : Nat))).map fun lot => weightM (List.replicate many up) lot).sum
def votesM : Nat → List (List Int)
  | 0 => [[]]
  | n + 1 => (votesM n).flatMap fun v => (List.range 4).map fun (o : Nat) => v ++ [(o : Int)]
def allVotesM (n : Nat) : List (List Int) := (votesM n).filter fun v => decide (0 < v.sum)
def maxM : List Int → Int
  | [] => 0
  | [a] => a
  | a :: b :: l => if maxM (b :: l) ≤ a then a else maxM (b :: l)
theorem maxM_mem : ∀ l : List Int, l ≠ [] → maxM l ∈ l
  | [], h => absurd rfl h
  | [a], _ => by simp [maxM]
  | a :: b :: l, _ => by
    have ih := maxM_mem (b :: l) (by simp)
    unfold maxM
    split
    · exact List.mem_cons_self
    · exact List.mem_cons_of_mem _ ih
theorem maxM_le : ∀ (l : List Int) (y : Int), y ∈ l → y ≤ maxM l
  | [], y, h => by cases h
  | [a], y, h => by simp at h; subst h; simp [maxM]
  | a :: b :: l, y, h => by
    have ih := maxM_le (b :: l)
    unfold maxM
    rcases List.mem_cons.mp h with e | h
    · subst e
      split <;> omega
    · have := ih y h
      split <;> omega
def dropMax (l : List Int) : List Int := l.eraseIdx (l.idxOf (maxM l))
def leftM (votes lot : List Int) : Nat → List Int
  | 0 => lot.map fun c => votes.getD c.toNat 0
  | k + 1 => dropMax (leftM votes lot k)
def sureM (votes lot : List Int) (unruly : Nat) : Int := (leftM votes lot (min unruly lot.length)).sum
def enoughM (votes : List Int) (need : Int) (unruly : Nat) (lot : List Int) : Bool := decide (votes.sum - need < sureM votes lot unruly)
def lowM (a b : Nat) : Int × Int := (((a / Nat.gcd a b : Nat) : Int), ((b / Nat.gcd a b : Nat) : Int))
def oneIf (b : Bool) : Int := if b then 1 else 0
def wrStep (some : List Int) (need : Int) (unruly : Nat) (ups : List (Int × Int)) (a : Int × Int) (lot : List Int) : Int × Int :=
  (a.1 + weightM ups lot * oneIf (decide (need ≤ sumM some lot)), a.2 + weightM ups lot * oneIf (enoughM some need unruly lot))
def wrM (some : List Int) (need : Int) (unruly : Nat) (ups : List (Int × Int)) : Int × Int := (lotsM some.length).foldl (wrStep some need unruly ups) (0, 0)
def mixM (share : Int × Int) (r w : Int) : Int := share.1 * r + (share.2 - share.1) * w
def worthM (some : List Int) (need : Int) (unruly : Nat) (ups : List (Int × Int)) (share : Int × Int) : Int := mixM share (wrM some need unruly ups).2 (wrM some need unruly ups).1
def ctStep (many unruly : Nat) (up share : Int × Int) (a : Int × List (Int × Int)) (i : Nat) : Int × List (Int × Int) :=
  let r : Int := 1 + (i : Nat)
  let w : Int := (many : Int) + (unruly : Int) + 1 - r
  if 1 ≤ w ∧ w ≤ many then
    let x := mixM share (upM many up r) (upM many up w)
    (if x > a.1 then x else a.1, if x = a.1 then a.2 ++ [(r, w)] else if a.1 < x then [(r, w)] else a.2)
  else a
def countsM (many unruly : Nat) (up share : Int × Int) : List (Int × Int) := ((List.range many).foldl (ctStep many unruly up share) (-1, [])).2
/-- what the best votes are: the votes, how many are needed, the chance -/
abbrev Best := Option (List Int × Int × (Int × Int))
def nStep (unruly : Nat) (ups : List (Int × Int)) (share : Int × Int) (under : Int) (v : List Int) (a : Int × Best) (i : Nat) : Int × Best :=
  let need : Int := 1 + (i : Nat)
  if enoughM v need unruly ((List.range v.length).map fun (i : Nat) => (i : Int)) = true then
    let x := worthM v need unruly ups share
    if a.1 < x then (x, some (v, need, lowM x.toNat under.toNat)) else a
  else a
def vStep (unruly : Nat) (ups : List (Int × Int)) (share : Int × Int) (under : Int) (a : Int × Best) (v : List Int) : Int × Best :=
  (List.range v.sum.toNat).foldl (nStep unruly ups share under v) a
def votesDueM (ups : List (Int × Int)) (unruly : Nat) (share : Int × Int) : Best := ((allVotesM ups.length).foldl (vStep unruly ups share (underM share.2 ups)) (-1, none)).2
/-! ### sizes -/
theorem lots_len : ∀ n : Nat, (lotsM n).length = 2 ^ n
  | 0 => rfl
  | n + 1 => by unfold lotsM; rw [List.length_append, List.length_map, lots_len n]; omega
theorem votes_len : ∀ n : Nat, (votesM n).length = 4 ^ n
  | 0 => rfl
  | n + 1 => by
    unfold votesM
    rw [List.length_flatMap]
    simp only [List.length_map, List.length_range, List.map_const', List.sum_replicate_nat, votes_len n]
    omega
theorem lots_in : ∀ (n : Nat) (lot : List Int), lot ∈ lotsM n → (∀ c ∈ lot, 0 ≤ c ∧ c < n) ∧ lot.length ≤ n
  | 0, lot, h => by
    simp [lotsM] at h
    subst h
    simp
  | n + 1, lot, h => by
    unfold lotsM at h
    rcases List.mem_append.mp h with h | h
    · obtain ⟨a, b⟩ := lots_in n lot h
      exact ⟨fun c hc => by have := a c hc; omega, by omega⟩
    · obtain ⟨l, hl, rfl⟩ := List.mem_map.mp h
      obtain ⟨a, b⟩ := lots_in n l hl
      refine ⟨fun c hc => ?_, by simp; omega⟩
      rcases List.mem_append.mp hc with hc | hc
      · have := a c hc; omega
      · simp at hc
        subst hc
        omega
theorem votes_in : ∀ (n : Nat) (v : List Int), v ∈ votesM n → v.length = n ∧ (∀ c ∈ v, 0 ≤ c ∧ c ≤ 3)
  | 0, v, h => by
    simp [votesM] at h
    subst h
    simp
  | n + 1, v, h => by
    unfold votesM at h
    obtain ⟨u, hu, h⟩ := List.mem_flatMap.mp h
    obtain ⟨o, ho, rfl⟩ := List.mem_map.mp h
    obtain ⟨a, b⟩ := votes_in n u hu
    refine ⟨by simp [a], fun c hc => ?_⟩
    rcases List.mem_append.mp hc with hc | hc
    · exact b c hc
    · simp at hc ho
      subst hc
      omega
/-! ### slots forgotten -/
inductive Le : Es → Es → Prop
  | nil : Le [] []
  | keep {x : Option PyData} {a b : Es} (h : Le a b) : Le (x :: a) (x :: b)
  | drop {x : Option PyData} {a b : Es} (h : Le a b) : Le (none :: a) (x :: b)
theorem Le.len {a b : Es} (h : Le a b) : a.length = b.length := by
  induction h with
  | nil => rfl
  | keep _ ih => rw [List.length_cons, List.length_cons, ih]
  | drop _ ih => rw [List.length_cons, List.length_cons, ih]
theorem Le.get {a b : Es} (h : Le a b) : ∀ {i : Nat} {d : PyData}, a[i]? = some (some d) → b[i]? = some (some d) := by
  induction h with
  | nil => intro i d e; simp at e
  | keep _ ih =>
    intro i d e
    cases i with
    | zero => simpa using e
    | succ i => simp at e ⊢; exact ih e
  | drop _ ih =>
    intro i d e
    cases i with
    | zero => simp at e
    | succ i => simp at e ⊢; exact ih e
theorem At.le {T : Tl} {H0 H : Hp} {w : Ow} {es es2 : Es} {σ : L2.St} (a : At T H0 w es σ H) (h : Le es2 es) : At T H0 w es2 σ H :=
  ⟨a.up, a.tab, ⟨a.has.len.trans h.len.symm, fun i d e => a.has.dat i d (h.get e)⟩, a.own⟩
section
variable {X : Cx} {T : Tl} {H0 : Hp} {w w' : Ow} {es es1 es2 : Es} {st : List Stmt} {ret : V → Hp → Prop}
theorem js_le (h : JSs X T H0 st w es w' es1) (l : Le es2 es1) : JSs X T H0 st w es w' es2 := weakSs h fun D σ H ⟨hA, q⟩ => ⟨hA, fun σ' H' hA' o x => q σ' H' (hA'.le l) o x⟩
theorem js_le0 (h : JSs X T H0 st w es1 w' es2) (l : Le es1 es) : JSs X T H0 st w es w' es2 := weakSs h fun D σ H ⟨hA, q⟩ => ⟨hA.le l, q⟩
theorem jr_le (h : JR X T H0 st w es1 ret) (l : Le es1 es) : JR X T H0 st w es ret := weakSs h fun D σ H ⟨hA, q⟩ => ⟨hA.le l, q⟩
/-! ### comprehensions over one name -/
variable {α : Type} {elt iter c : Expr} {scope : Scope} {pos p : Pos} {rs : List PyData}
theorem jn_lc1 (items : List α) (enc : α → PyData) (f : α → PyData) (j : Nat) {x : Str} (hr : items.map f = rs) (hc : X.calm = true) (hN : X.N.Nodup) (src : JI X T H0 w es (.Name x p) iter (items.map enc)) (ok : BlkOk X.N X.env.scope scope [(x, j)])
    (hg : ∀ (s : Shared) (H : Hp) (C : Addr) (cl : List (Str × Addr)) (fp : List Addr), PG (X.blk s H scope (compEnvC scope cl C X.env) fp) (.Name x p) (gName j))
    (he : ∀ a ∈ items, ∀ (s : Shared) (H : Hp) (C : Addr) (cl : List (Str × Addr)) (fp : List Addr), J (X.blk s H scope (compEnvC scope cl C X.env) fp) T H0 w ((es.set j none).set j (some (enc a))) elt (f a))
    (hf : ∀ a ∈ items, flat (f a) = true) (hl : items.length ≤ 90000) (hw : ∀ i ds, w = some (i, ds) → i ≠ j := by first | exact fun _ _ z => nomatch z | (intro _ _ z; cases z; decide))
    (hs : ∀ x, foldedSetIterable iter X.env x = pure x := by intro _; rfl) :
    JN X T H0 w es (.ListComp elt [⟨.Name x p, iter, [], 0⟩] scope pos) rs := by
  have h := jn_lc (X := X) (T := T) (H0 := H0) (w := w) (es := es) (pos := pos) items enc (fun _ => true) f (fun a es => es.set j (some (enc a))) (tg := .Name x p) (own := [(x, j)]) (g := gName j) (js := [j]) (elt := elt) (iter := iter) (ifs := []) hc hN src ok hg
    (fun a _ => tg_name) (fun i hi => by simpa using hi) (fun i ds e => by simpa using hw i ds e) (fun a ha s H C cl fp => jts_nil) (fun a ha _ s H C cl fp => he a ha s H C cl fp) (fun a ha _ => hf a ha) hl hs
  have e : (items.filter fun _ => true).map f = rs := by
    rw [← hr]
    congr 1
    exact List.filter_eq_self.mpr fun _ _ => rfl
  rw [e] at h
  exact h
theorem jn_lcF (items : List α) (enc : α → PyData) (pr : α → Bool) (f : α → PyData) (j : Nat) {x : Str} (hr : (items.filter pr).map f = rs) (hc : X.calm = true) (hN : X.N.Nodup) (src : JI X T H0 w es (.Name x p) iter (items.map enc)) (ok : BlkOk X.N X.env.scope scope [(x, j)])
    (hg : ∀ (s : Shared) (H : Hp) (C : Addr) (cl : List (Str × Addr)) (fp : List Addr), PG (X.blk s H scope (compEnvC scope cl C X.env) fp) (.Name x p) (gName j))
    (ht : ∀ a ∈ items, ∀ (s : Shared) (H : Hp) (C : Addr) (cl : List (Str × Addr)) (fp : List Addr), JT (X.blk s H scope (compEnvC scope cl C X.env) fp) T H0 w ((es.set j none).set j (some (enc a))) c (pr a))
    (he : ∀ a ∈ items, pr a = true → ∀ (s : Shared) (H : Hp) (C : Addr) (cl : List (Str × Addr)) (fp : List Addr), J (X.blk s H scope (compEnvC scope cl C X.env) fp) T H0 w ((es.set j none).set j (some (enc a))) elt (f a))
    (hf : ∀ a ∈ items, pr a = true → flat (f a) = true) (hl : items.length ≤ 90000) (hw : ∀ i ds, w = some (i, ds) → i ≠ j := by first | exact fun _ _ z => nomatch z | (intro _ _ z; cases z; decide))
    (hs : ∀ x, foldedSetIterable iter X.env x = pure x := by intro _; rfl) :
    JN X T H0 w es (.ListComp elt [⟨.Name x p, iter, [c], 0⟩] scope pos) rs := by
  have h := jn_lc (X := X) (T := T) (H0 := H0) (w := w) (es := es) (pos := pos) items enc pr f (fun a es => es.set j (some (enc a))) (tg := .Name x p) (own := [(x, j)]) (g := gName j) (js := [j]) (elt := elt) (iter := iter) (ifs := [c]) hc hN src ok hg
    (fun a _ => tg_name) (fun i hi => by simpa using hi) (fun i ds e => by simpa using hw i ds e) (fun a ha s H C cl fp => jts_one (ht a ha s H C cl fp)) (fun a ha hp s H C cl fp => he a ha hp s H C cl fp) hf hl hs
  rw [hr] at h
  exact h
theorem js_setLc1 (items : List α) (enc : α → PyData) (f : α → PyData) (i j : Nat) {x y : Str} {py spos : Pos} (hr : items.map f = rs) (hc : X.calm = true) (hN : X.N.Nodup) (hsw : swapsWith (.ListComp elt [⟨.Name x p, iter, [], 0⟩] scope pos) (some (.Name y py)) spos.line X.env = pure true) (src : JI X T H0 w es (.Name x p) iter (items.map enc)) (ok : BlkOk X.N X.env.scope scope [(x, j)])
    (hg : ∀ (s : Shared) (H : Hp) (C : Addr) (cl : List (Str × Addr)) (fp : List Addr), PG (X.blk s H scope (compEnvC scope cl C X.env) fp) (.Name x p) (gName j))
    (he : ∀ a ∈ items, ∀ (s : Shared) (H : Hp) (C : Addr) (cl : List (Str × Addr)) (fp : List Addr), J (X.blk s H scope (compEnvC scope cl C X.env) fp) T H0 w ((es.set j none).set j (some (enc a))) elt (f a))
    (hf : ∀ a ∈ items, flat (f a) = true) (hl : items.length ≤ 90000) (hw : ∀ i ds, w = some (i, ds) → i ≠ j := by first | exact fun _ _ z => nomatch z | (intro _ _ z; cases z; decide))
    (hs : ∀ x, foldedSetIterable iter X.env x = pure x := by intro _; rfl) (hy : X.N[i]? = some y := by rfl) (hyl : X.env.scope.names.lookup y = some .local := by rfl) :
    PS X (.Assign [.Name y py] (.ListComp elt [⟨.Name x p, iter, [], 0⟩] scope pos) spos) (tAsg (tN T H0 w es rs) (gName i)) := by
  have h := jn_setLc (X := X) (T := T) (H0 := H0) (w := w) (es := es) (pos := pos) items enc (fun _ => true) f (fun a es => es.set j (some (enc a))) (tg := .Name x p) (own := [(x, j)]) (g := gName j) (js := [j]) (elt := elt) (iter := iter) (ifs := []) hc hN hy hyl hsw src ok hg
    (fun a _ => tg_name) (fun i hi => by simpa using hi) (fun i ds e => by simpa using hw i ds e) (fun a ha s H C cl fp => jts_nil) (fun a ha _ s H C cl fp => he a ha s H C cl fp) (fun a ha _ => hf a ha) hl hs
  have e : (items.filter fun _ => true).map f = rs := by
    rw [← hr]
    congr 1
    exact List.filter_eq_self.mpr fun _ _ => rfl
  rw [e] at h
  exact h
end
end G
set_option Elab.async false
set_option linter.all false
set_option maxRecDepth 100000
set_option maxHeartbeats 4000000
namespace G
open PySem PySem.Spec PyProof.Rows L2
def topS (i : Nat) : Stmt := PySem.Challenge.pw_plainstore_k18_whole_best_counts_and_vot.main.body.getD i (.Pass ⟨0, 0, 0, 0⟩)
abbrev sWhole : Stmt := topS 18
abbrev sNumber : Stmt := topS 19
abbrev sLine : Stmt := topS 20
abbrev sGcd : Stmt := topS 23
abbrev sLowest : Stmt := topS 24
/-- the built-ins are the built-ins -/
structure Bz (mg : Str → Option Value) : Prop where
  isinstance : mg "isinstance" = none
  int : mg "int" = none
  bool : mg "bool" = none
  list : mg "list" = none
  tuple : mg "tuple" = none
  all : mg "all" = none
  abs : mg "abs" = none
  len : mg "len" = none
  sum : mg "sum" = none
  sorted : mg "sorted" = none
  range : mg "range" = none
  enumerate : mg "enumerate" = none
  max : mg "max" = none
  min : mg "min" = none
  repr : mg "repr" = none
def isW : PyData → Bool
  | .int _ => true
  | _ => false
def isLn : PyData → Bool
  | .list _ => true
  | .tuple _ => true
  | _ => false
def isNum (d : PyData) (lo hi : Int) : Bool := match d with
  | .int i => decide (lo ≤ i) && decide (i ≤ hi)
  | _ => false
def RWhole (ds : List PyData) (d : PyData) : Prop := ∃ v, ds = [v] ∧ (∀ kv, v ≠ .dict kv) ∧ d = .bool (isW v)
def RNumber (ds : List PyData) (d : PyData) : Prop := ∃ v lo hi, ds = [v, .int lo, .int hi] ∧ (∀ kv, v ≠ .dict kv) ∧ d = .bool (isNum v lo hi)
def RLine (ds : List PyData) (d : PyData) : Prop := ∃ v, ds = [v] ∧ (∀ kv, v ≠ .dict kv) ∧ d = .bool (isLn v)
theorem kb_int_int : kitB "int" "int" = some true := by decide +kernel
theorem kb_int_bool : kitB "int" "bool" = some false := by decide +kernel
theorem kb_int_list : kitB "int" "list" = some false := by decide +kernel
theorem kb_int_tuple : kitB "int" "tuple" = some false := by decide +kernel
theorem kb_bool_int : kitB "bool" "int" = some true := by decide +kernel
theorem kb_bool_bool : kitB "bool" "bool" = some true := by decide +kernel
theorem kb_bool_list : kitB "bool" "list" = some false := by decide +kernel
theorem kb_bool_tuple : kitB "bool" "tuple" = some false := by decide +kernel
theorem kb_NoneType_int : kitB "NoneType" "int" = some false := by decide +kernel
theorem kb_NoneType_bool : kitB "NoneType" "bool" = some false := by decide +kernel
theorem kb_NoneType_list : kitB "NoneType" "list" = some false := by decide +kernel
theorem kb_NoneType_tuple : kitB "NoneType" "tuple" = some false := by decide +kernel
theorem kb_str_int : kitB "str" "int" = some false := by decide +kernel
theorem kb_str_bool : kitB "str" "bool" = some false := by decide +kernel
theorem kb_str_list : kitB "str" "list" = some false := by decide +kernel
theorem kb_str_tuple : kitB "str" "tuple" = some false := by decide +kernel
theorem kb_list_int : kitB "list" "int" = some false := by decide +kernel
theorem kb_list_bool : kitB "list" "bool" = some false := by decide +kernel
theorem kb_list_list : kitB "list" "list" = some true := by decide +kernel
theorem kb_list_tuple : kitB "list" "tuple" = some false := by decide +kernel
theorem kb_tuple_int : kitB "tuple" "int" = some false := by decide +kernel
theorem kb_tuple_bool : kitB "tuple" "bool" = some false := by decide +kernel
theorem kb_tuple_list : kitB "tuple" "list" = some false := by decide +kernel
theorem kb_tuple_tuple : kitB "tuple" "tuple" = some true := by decide +kernel
section
variable {P : Program} {w : World} {K : PySem.W.Frag} {mg : Str → Option Value} {base : Heap} {T : Tl}
theorem scWhole : FnScope ["value"] ["value"] (defScope sWhole) := ⟨rfl, rfl, rfl, by decide +kernel, rfl, by decide +kernel, by decide +kernel⟩
theorem ok_whole {f : Addr} {fd : FuncData} (F : Fun K "is_whole" "is_whole" sWhole f fd) (hm : mg "is_whole" = some (.ref f)) (B : Bz mg) : Fd P w K mg base 1 "is_whole" (spD T RWhole) := by
  refine fd_D F scWhole hm (F.binds fun _ _ _ _ _ _ us hl => match us, hl with | [_], _ => rfl) (fun ds d h => by obtain ⟨v, rfl, _⟩ := h; rfl) fun cdv A outer s H E hr ds d h => ?_
  obtain ⟨v, rfl, nd, rfl⟩ := h
  cases v with
  | dict kv => exact absurd rfl (nd kv)
  | int i => exact jr_ret (j_and (j_isi (c2 := "int") (k2 := true) B.isinstance B.int (jv 0 rfl) kb_int_int) fun _ => j_one (j_not (j_isi (c2 := "bool") (k2 := false) B.isinstance B.bool (jv 0 rfl) kb_int_bool))) rfl
  | bool i => exact jr_ret (j_and (j_isi (c2 := "int") (k2 := true) B.isinstance B.int (jv 0 rfl) kb_bool_int) fun _ => j_one (j_not (j_isi (c2 := "bool") (k2 := true) B.isinstance B.bool (jv 0 rfl) kb_bool_bool))) rfl
  | none => exact jr_ret (j_and (y := false) (j_isi (c2 := "int") (k2 := false) B.isinstance B.int (jv 0 rfl) kb_NoneType_int) fun z => nomatch z) rfl
  | str i => exact jr_ret (j_and (y := false) (j_isi (c2 := "int") (k2 := false) B.isinstance B.int (jv 0 rfl) kb_str_int) fun z => nomatch z) rfl
  | list i => exact jr_ret (j_and (y := false) (j_isi (c2 := "int") (k2 := false) B.isinstance B.int (jv 0 rfl) kb_list_int) fun z => nomatch z) rfl
  | tuple i => exact jr_ret (j_and (y := false) (j_isi (c2 := "int") (k2 := false) B.isinstance B.int (jv 0 rfl) kb_tuple_int) fun z => nomatch z) rfl
theorem scNumber : FnScope ["value", "low", "high"] ["value", "low", "high"] (defScope sNumber) := ⟨rfl, rfl, rfl, by decide +kernel, rfl, by decide +kernel, by decide +kernel⟩
theorem ok_number {f : Addr} {fd : FuncData} (F : Fun K "is_number" "is_number" sNumber f fd) (hm : mg "is_number" = some (.ref f)) (B : Bz mg) (W : Fd P w K mg base 1 "is_whole" (spD T RWhole)) : Fd P w K mg base 2 "is_number" (spD T RNumber) := by
  refine fd_D F scNumber hm (F.binds fun _ _ _ _ _ _ us hl => match us, hl with | [_, _, _], _ => rfl) (fun ds d h => by obtain ⟨v, lo, hi, rfl, _⟩ := h; rfl) fun cdv A outer s H E hr ds d h => ?_
  obtain ⟨v, lo, hi, rfl, nd, rfl⟩ := h
  refine jr_ret (j_and (x := isW v) (y := isNum v lo hi) (j_call W hr (ja_cons (jv 0 rfl) ja_nil) ⟨v, rfl, nd, rfl⟩) fun hx => ?_) ?_
  · cases v with
    | int i => exact j_one (j_chainLe (jv 1 rfl) (jv 0 rfl) (jv 2 rfl) (pe_chain op_le op_le (jv 1 rfl) (jv 0 rfl) (jv 2 rfl)))
    | _ => cases hx
  · cases v <;> rfl
theorem scLine : FnScope ["value"] ["value"] (defScope sLine) := ⟨rfl, rfl, rfl, by decide +kernel, rfl, by decide +kernel, by decide +kernel⟩
theorem ok_line {f : Addr} {fd : FuncData} (F : Fun K "is_line" "is_line" sLine f fd) (hm : mg "is_line" = some (.ref f)) (B : Bz mg) : Fd P w K mg base 1 "is_line" (spD T RLine) := by
  refine fd_D F scLine hm (F.binds fun _ _ _ _ _ _ us hl => match us, hl with | [_], _ => rfl) (fun ds d h => by obtain ⟨v, rfl, _⟩ := h; rfl) fun cdv A outer s H E hr ds d h => ?_
  obtain ⟨v, rfl, nd, rfl⟩ := h
  cases v with
  | dict kv => exact absurd rfl (nd kv)
  | int i => exact jr_ret (j_isi2 (c2 := "list") (k2 := false) (c3 := "tuple") (k3 := false) B.isinstance B.list B.tuple (jv 0 rfl) kb_int_list kb_int_tuple) rfl
  | bool i => exact jr_ret (j_isi2 (c2 := "list") (k2 := false) (c3 := "tuple") (k3 := false) B.isinstance B.list B.tuple (jv 0 rfl) kb_bool_list kb_bool_tuple) rfl
  | none => exact jr_ret (j_isi2 (c2 := "list") (k2 := false) (c3 := "tuple") (k3 := false) B.isinstance B.list B.tuple (jv 0 rfl) kb_NoneType_list kb_NoneType_tuple) rfl
  | str i => exact jr_ret (j_isi2 (c2 := "list") (k2 := false) (c3 := "tuple") (k3 := false) B.isinstance B.list B.tuple (jv 0 rfl) kb_str_list kb_str_tuple) rfl
  | list i => exact jr_ret (j_isi2 (c2 := "list") (k2 := true) (c3 := "tuple") (k3 := false) B.isinstance B.list B.tuple (jv 0 rfl) kb_list_list kb_list_tuple) rfl
  | tuple i => exact jr_ret (j_isi2 (c2 := "list") (k2 := false) (c3 := "tuple") (k3 := true) B.isinstance B.list B.tuple (jv 0 rfl) kb_tuple_list kb_tuple_tuple) rfl
/-! ### the greatest common divisor -/
/-- one turn; the state behind i turns -/
def gst (a b : Int) : Nat → Int × Int
  | 0 => (a, b)
  | i + 1 => ((gst a b i).2, (gst a b i).1 % (gst a b i).2)
def RGcd (ds : List PyData) (d : PyData) : Prop := ∃ a b : Nat, ds = [.int (a : Int), .int (b : Int)] ∧ 0 < a + b ∧ d = .int (Nat.gcd a b : Nat)
/-- how many turns -/
def gturns : Nat → Nat → Nat
  | a, 0 => 0
  | a, b + 1 => gturns (b + 1) (a % (b + 1)) + 1
termination_by _ b => b
decreasing_by exact Nat.mod_lt _ (Nat.succ_pos _)
theorem gst_step : ∀ (i : Nat) (a b : Int), gst a b (i + 1) = gst b (a % b) i
  | 0, a, b => rfl
  | i + 1, a, b => by
    show ((gst a b (i + 1)).2, (gst a b (i + 1)).1 % (gst a b (i + 1)).2) = ((gst b (a % b) i).2, (gst b (a % b) i).1 % (gst b (a % b) i).2)
    rw [gst_step i a b]
theorem gst_pos : ∀ (n : Nat) (a b : Nat), gturns a b = n → (∀ i, i < n → 0 < (gst a b i).2) ∧ gst a b n = (((Nat.gcd a b : Nat) : Int), (0 : Int))
  | 0, a, b, h => by
    cases b with
    | zero => exact ⟨fun i hi => absurd hi (Nat.not_lt_zero i), by rw [Nat.gcd_zero_right]; rfl⟩
    | succ b =>
      rw [gturns] at h
      omega
  | n + 1, a, b, h => by
    cases b with
    | zero =>
      rw [gturns] at h
      omega
    | succ b =>
      rw [gturns] at h
      obtain ⟨h1, h2⟩ := gst_pos n (b + 1) (a % (b + 1)) (by omega)
      have em : ((a : Int) % ((b + 1 : Nat) : Int)) = ((a % (b + 1) : Nat) : Int) := by omega
      refine ⟨fun i hi => ?_, ?_⟩
      · cases i with
        | zero => show (0 : Int) < ((b + 1 : Nat) : Int); omega
        | succ i =>
          rw [gst_step, em]
          exact h1 i (by omega)
      · rw [gst_step, em, h2, Nat.gcd_comm (b + 1), ← Nat.gcd_rec, Nat.gcd_comm]
theorem scGcd : FnScope ["one", "other"] ["one", "other"] (defScope sGcd) := ⟨rfl, rfl, rfl, by decide +kernel, rfl, by decide +kernel, by decide +kernel⟩
theorem ok_gcd {f : Addr} {fd : FuncData} (F : Fun K "greatest_divisor" "greatest_divisor" sGcd f fd) (hm : mg "greatest_divisor" = some (.ref f)) (B : Bz mg) : Fd P w K mg base 1 "greatest_divisor" (spD T RGcd) := by
  refine fd_D F scGcd hm (F.binds fun _ _ _ _ _ _ us hl => match us, hl with | [_, _], _ => rfl) (fun ds d h => by obtain ⟨a, b, rfl, _⟩ := h; rfl) fun cdv A outer s H E hr ds d h => ?_
  obtain ⟨a, b, rfl, hab, rfl⟩ := h
  obtain ⟨h1, h2⟩ := gst_pos (gturns a b) a b rfl
  refine jr_cons (js_while (gturns a b) (fun i => [some (.int (gst a b i).1), some (.int (gst a b i).2)]) PassesOwn.never (fun i hi => ?_) (fun i hi => ?_)) (jr_ret (jv 0 rfl) ?_)
  · have e : decide (i < gturns a b) = decide (0 < (gst a b i).2) := by
      by_cases k : i < gturns a b
      · rw [decide_eq_true k, decide_eq_true (h1 i k)]
      · have z : i = gturns a b := by omega
        rw [decide_eq_false k, z, h2]
        rfl
    rw [e]
    exact jt_gt (jv 1 rfl) j_int
  · exact js_one (js_par (i := 0) (j := 1) (ps_par rfl scGcd.nd rfl rfl (by decide) rfl rfl (ja_cons (jv 1 rfl) (ja_cons (j_mod (h1 i hi) (jv 0 rfl) (jv 1 rfl)) ja_nil)) rfl))
  · rw [h2]
end
end G
set_option Elab.async false
set_option linter.all false
set_option maxRecDepth 100000
set_option maxHeartbeats 4000000
namespace G
open PySem PySem.Spec PyProof.Rows L2
section
variable {P : Program} {w : World} {K : PySem.W.Frag} {mg : Str → Option Value} {base : Heap} {T : Tl} {f : Addr} {fd : FuncData}
/-! ### sums over a lot -/
def RSum (ds : List PyData) (d : PyData) : Prop := ∃ (votes lot : List Int) (ld : PyData), ds = [tup votes, ld] ∧ (ld = tup lot ∨ ld = .list (lot.map .int)) ∧ (∀ c ∈ lot, 0 ≤ c ∧ c < votes.length) ∧ lot.length ≤ 1000 ∧ d = .int (sumM votes lot)
theorem sum_enc (votes lot : List Int) : lot.map (fun c => PyData.int (votes.getD c.toNat 0)) = (lot.map fun c => votes.getD c.toNat 0).map .int := by rw [List.map_map]; rfl
theorem scVin : FnScope ["votes", "lot", "copy"] ["votes", "lot"] (defScope (topS 31)) := ⟨rfl, rfl, rfl, by decide +kernel, rfl, by decide +kernel, by decide +kernel⟩
theorem ok_votes_in (F : Fun K "votes_in" "votes_in" (topS 31) f fd) (hm : mg "votes_in" = some (.ref f)) (B : Bz mg) : Fd P w K mg base 1 "votes_in" (spD T RSum) := by
  refine fd_D F scVin hm (F.binds fun _ _ _ _ _ _ us hl => match us, hl with | [_, _], _ => rfl) (fun ds d h => by obtain ⟨v, l, ld, rfl, _⟩ := h; rfl) fun cdv A outer s H E hr ds d h => ?_
  obtain ⟨votes, lot, ld, rfl, hld, hin, hlen, rfl⟩ := h
  have elt : ∀ a ∈ lot, atI (votes.map PyData.int) a = some (.int (votes.getD a.toNat 0)) := fun a ha => at_ints (hin a ha).1 (hin a ha).2
  rcases hld with rfl | rfl
  · exact jr_ret (j_sum rfl B.sum (jn (jn_lc1 lot .int _ 2 (sum_enc votes lot) rfl scVin.nd (ji_tup (jv 1 rfl)) (blkOk_by (by kernel_rfl)) (fun s H C cl fp => pg_name (i := 2) scVin.nd rfl (Or.inl rfl))
      (fun a ha s H C cl fp => j_ixT (jv 0 rfl) (jv 2 rfl) (elt a ha)) (fun a ha => rfl) (by omega)))) rfl
  · exact jr_ret (j_sum rfl B.sum (jn (jn_lc1 lot .int _ 2 (sum_enc votes lot) rfl scVin.nd (ji_list (jv 1 rfl)) (blkOk_by (by kernel_rfl)) (fun s H C cl fp => pg_name (i := 2) scVin.nd rfl (Or.inl rfl))
      (fun a ha s H C cl fp => j_ixT (jv 0 rfl) (jv 2 rfl) (elt a ha)) (fun a ha => rfl) (by omega)))) rfl
theorem scLsum : FnScope ["_law_votes_here", "_law_lot", "_law_copy"] ["_law_votes_here", "_law_lot"] (defScope (topS 47)) := ⟨rfl, rfl, rfl, by decide +kernel, rfl, by decide +kernel, by decide +kernel⟩
theorem ok_lsum (F : Fun K "_law_sum" "_law_sum" (topS 47) f fd) (hm : mg "_law_sum" = some (.ref f)) (B : Bz mg) : Fd P w K mg base 1 "_law_sum" (spD T RSum) := by
  refine fd_D F scLsum hm (F.binds fun _ _ _ _ _ _ us hl => match us, hl with | [_, _], _ => rfl) (fun ds d h => by obtain ⟨v, l, ld, rfl, _⟩ := h; rfl) fun cdv A outer s H E hr ds d h => ?_
  obtain ⟨votes, lot, ld, rfl, hld, hin, hlen, rfl⟩ := h
  have elt : ∀ a ∈ lot, atI (votes.map PyData.int) a = some (.int (votes.getD a.toNat 0)) := fun a ha => at_ints (hin a ha).1 (hin a ha).2
  rcases hld with rfl | rfl
  · exact jr_ret (j_sum rfl B.sum (jn (jn_lc1 lot .int _ 2 (sum_enc votes lot) rfl scLsum.nd (ji_tup (jv 1 rfl)) (blkOk_by (by kernel_rfl)) (fun s H C cl fp => pg_name (i := 2) scLsum.nd rfl (Or.inl rfl))
      (fun a ha s H C cl fp => j_ixT (jv 0 rfl) (jv 2 rfl) (elt a ha)) (fun a ha => rfl) (by omega)))) rfl
  · exact jr_ret (j_sum rfl B.sum (jn (jn_lc1 lot .int _ 2 (sum_enc votes lot) rfl scLsum.nd (ji_list (jv 1 rfl)) (blkOk_by (by kernel_rfl)) (fun s H C cl fp => pg_name (i := 2) scLsum.nd rfl (Or.inl rfl))
      (fun a ha s H C cl fp => j_ixT (jv 0 rfl) (jv 2 rfl) (elt a ha)) (fun a ha => rfl) (by omega)))) rfl
/-! ### lowered fractions -/
def RLow (ds : List PyData) (d : PyData) : Prop := ∃ a b : Nat, ds = [.int (a : Int), .int (b : Int)] ∧ 0 < b ∧ b < 1000000 ∧ d = fr (lowM a b)
theorem scLowest : FnScope ["over", "under", "common"] ["over", "under"] (defScope (topS 24)) := ⟨rfl, rfl, rfl, by decide +kernel, rfl, by decide +kernel, by decide +kernel⟩
theorem ok_lowest (F : Fun K "in_lowest_terms" "in_lowest_terms" (topS 24) f fd) (hm : mg "in_lowest_terms" = some (.ref f)) (B : Bz mg) (Gc : Fd P w K mg base 1 "greatest_divisor" (spD T RGcd)) : Fd P w K mg base 2 "in_lowest_terms" (spD T RLow) := by
  refine fd_D F scLowest hm (F.binds fun _ _ _ _ _ _ us hl => match us, hl with | [_, _], _ => rfl) (fun ds d h => by obtain ⟨a, b, rfl, _⟩ := h; rfl) fun cdv A outer s H E hr ds d h => ?_
  obtain ⟨a, b, rfl, hb, hz, rfl⟩ := h
  have g0 : 0 < Nat.gcd a b := Nat.gcd_pos_of_pos_right a hb
  have g1 : Nat.gcd a b ≤ b := Nat.le_of_dvd hb (Nat.gcd_dvd_right a b)
  have ea : (if (a : Int) < 0 then -(a : Int) else (a : Int)) = (a : Int) := if_neg (by omega)
  refine jr_cons (js_set 2 scLowest.nd (j_call Gc hr (ja_cons (j_abs B.abs (jv 0 rfl)) (ja_cons (jv 1 rfl) ja_nil)) ⟨a, b, by rw [ea], by omega, rfl⟩)) ?_
  exact jr_ret (j_tup (ja_cons (j_fdiv ⟨by omega, by omega⟩ (jv 0 rfl) (jv 2 rfl)) (ja_cons (j_fdiv ⟨by omega, by omega⟩ (jv 1 rfl) (jv 2 rfl)) ja_nil))) (by unfold fr lowM; rw [Int.natCast_ediv, Int.natCast_ediv])
theorem scLowered : FnScope ["_law_over", "_law_under", "_law_one_here", "_law_other"] ["_law_over", "_law_under"] (defScope (topS 50)) := ⟨rfl, rfl, rfl, by decide +kernel, rfl, by decide +kernel, by decide +kernel⟩
theorem ok_lowered (F : Fun K "_law_lowered" "_law_lowered" (topS 50) f fd) (hm : mg "_law_lowered" = some (.ref f)) (B : Bz mg) : Fd P w K mg base 1 "_law_lowered" (spD T RLow) := by
  refine fd_D F scLowered hm (F.binds fun _ _ _ _ _ _ us hl => match us, hl with | [_, _], _ => rfl) (fun ds d h => by obtain ⟨a, b, rfl, _⟩ := h; rfl) fun cdv A outer s H E hr ds d h => ?_
  obtain ⟨a, b, rfl, hb, hz, rfl⟩ := h
  have g0 : 0 < Nat.gcd a b := Nat.gcd_pos_of_pos_right a hb
  have g1 : Nat.gcd a b ≤ b := Nat.le_of_dvd hb (Nat.gcd_dvd_right a b)
  obtain ⟨h1, h2⟩ := gst_pos (gturns a b) a b rfl
  refine jr_cons (js_par (i := 2) (j := 3) (ps_par rfl scLowered.nd rfl rfl (by decide) rfl rfl (ja_cons (jv 0 rfl) (ja_cons (jv 1 rfl) ja_nil)) rfl)) ?_
  refine jr_cons (js_while (gturns a b) (fun i => [some (.int (a : Int)), some (.int (b : Int)), some (.int (gst a b i).1), some (.int (gst a b i).2)]) PassesOwn.never (fun i hi => ?_) (fun i hi => ?_)) ?_
  · have e : decide (i < gturns a b) = decide (0 < (gst a b i).2) := by
      by_cases k : i < gturns a b
      · rw [decide_eq_true k, decide_eq_true (h1 i k)]
      · have z : i = gturns a b := by omega
        rw [decide_eq_false k, z, h2]
        rfl
    rw [e]
    exact jt_gt (jv 3 rfl) j_int
  · exact js_one (js_par (i := 2) (j := 3) (ps_par rfl scLowered.nd rfl rfl (by decide) rfl rfl (ja_cons (jv 3 rfl) (ja_cons (j_mod (h1 i hi) (jv 2 rfl) (jv 3 rfl)) ja_nil)) rfl))
  · rw [h2]
    exact jr_ret (j_tup (ja_cons (j_fdiv ⟨by show (0 : Int) < _; omega, by show _ < (1073741824 : Int); omega⟩ (jv 0 rfl) (jv 2 rfl)) (ja_cons (j_fdiv ⟨by show (0 : Int) < _; omega, by show _ < (1073741824 : Int); omega⟩ (jv 1 rfl) (jv 2 rfl)) ja_nil))) (by unfold fr lowM; rw [Int.natCast_ediv, Int.natCast_ediv])
end
end G
set_option Elab.async false
set_option linter.all false
set_option maxRecDepth 100000
set_option maxHeartbeats 4000000
namespace G
open PySem PySem.Spec PyProof.Rows L2
theorem j_as {X : Cx} {T : Tl} {H0 : Hp} {w : Ow} {es : Es} {e : Expr} {d d' : PyData} (h : J X T H0 w es e d) (q : d = d') : J X T H0 w es e d' := q ▸ h
theorem jt_as {X : Cx} {T : Tl} {H0 : Hp} {w : Ow} {es : Es} {e : Expr} {d d' : Bool} (h : JT X T H0 w es e d) (q : d = d') : JT X T H0 w es e d' := q ▸ h
def SmallP (q : Int × Int) : Prop := (0 ≤ q.1 ∧ q.1 ≤ 1000) ∧ 0 ≤ q.2 ∧ q.2 ≤ 1000
theorem cmulR {i j : Int} (h : -1000000 < j ∧ j < 1000000) : CMul i j := by unfold CMul; omega
theorem cmulL {i j : Int} (h : -1000000 < i ∧ i < 1000000) : CMul i j := by unfold CMul; omega
section
variable {P : Program} {w : World} {K : PySem.W.Frag} {mg : Str → Option Value} {base : Heap} {T : Tl} {f : Addr} {fd : FuncData}
/-! ### all lots -/
def RLots (ds : List PyData) (d : PyData) : Prop := ∃ n : Nat, ds = [.int (n : Int)] ∧ n ≤ 10 ∧ d = .list ((lotsM n).map tup)
theorem lots_le {n : Nat} (h : n ≤ 10) : (lotsM n).length ≤ 1024 := by
  rw [lots_len]
  exact Nat.pow_le_pow_right (by decide) h
theorem scLlots : FnScope ["_law_many", "_law_found", "_law_copy", "_law_lot"] ["_law_many"] (defScope (topS 45)) := ⟨rfl, rfl, rfl, by decide +kernel, rfl, by decide +kernel, by decide +kernel⟩
theorem ok_llots (F : Fun K "_law_all_lots" "_law_all_lots" (topS 45) f fd) (hm : mg "_law_all_lots" = some (.ref f)) (B : Bz mg) : Fd P w K mg base 1 "_law_all_lots" (spD T RLots) := by
  refine fd_D F scLlots hm (F.binds fun _ _ _ _ _ _ us hl => match us, hl with | [_], _ => rfl) (fun ds d h => by obtain ⟨n, rfl, _⟩ := h; rfl) fun cdv A outer s H E hr ds d h => ?_
  obtain ⟨n, rfl, hn, rfl⟩ := h
  refine jr_cons (js_set 1 scLlots.nd (jn (jn_lst (ja_cons (j_tup ja_nil) ja_nil)))) ?_
  refine jr_cons (js_for (ds := rng 0 n) (js := [2]) (g := gName 2) (fun i => [some (.int (n : Int)), some (.list ((lotsM i).map tup)), none, none]) (fun _ => none) (fun d es => es.set 2 (some d)) PassesOwn.never rfl (ji_range1 B.range (by omega) (jv 0 rfl)) (pg_name (i := 2) scLlots.nd rfl (Or.inr rfl)) (fun d _ => tg_name) (fun _ _ _ z => nomatch z) (fun i d hd => ?_)) ?_
  · have hi : i < n := by
      have := (List.getElem?_eq_some_iff.mp hd).1
      rwa [rng_len] at this
    rw [rng_get hi] at hd
    cases hd
    have hlen := lots_le (n := i) (by omega)
    refine js_le (js_one (js_set 1 scLlots.nd (j_as (jn (jn_cat (jv 1 rfl) (jn (jn_lc1 (lotsM i) tup (fun lot => .tuple (lot.map .int ++ [.int (0 + (i : Nat))])) 3 rfl rfl scLlots.nd (ji_list (jv 1 rfl)) (blkOk_by (by kernel_rfl)) (fun s H C cl fp => pg_name (i := 3) scLlots.nd rfl (Or.inl rfl))
      (fun a ha s H C cl fp => j_catT (jv 3 rfl) (j_tup (ja_cons (jv 2 rfl) ja_nil)) ?_) (fun a ha => ?_) (by omega))) (by rw [List.length_map, List.length_map]; omega))) ?_))) (Le.keep (Le.keep (Le.drop (Le.keep Le.nil))))
    · have := (lots_in i a ha).2
      rw [List.length_map]
      show a.length + 1 ≤ _
      omega
    · show flat.flatAll _ = true
      rw [flatAll_mem]
      intro d hd
      rcases List.mem_append.mp hd with hd | hd
      · obtain ⟨z, _, rfl⟩ := List.mem_map.mp hd
        rfl
      · simp at hd
        subst hd
        rfl
    · show PyData.list _ = .list ((lotsM i ++ (lotsM i).map (· ++ [(i : Int)])).map tup)
      rw [List.map_append, List.map_map]
      congr 2
      refine List.map_congr_left fun lot _ => ?_
      show _ = tup (lot ++ [(i : Int)])
      unfold tup
      rw [List.map_append, Int.zero_add]
      rfl
  · rw [rng_len]
    exact jr_ret (jv 1 rfl) rfl
theorem erase_map {α β : Type} (g : α → β) : ∀ (l : List α) (i : Nat), (l.map g).eraseIdx i = (l.eraseIdx i).map g
  | [], _ => rfl
  | a :: l, 0 => rfl
  | a :: l, i + 1 => by
    show g a :: (l.map g).eraseIdx i = g a :: (l.eraseIdx i).map g
    rw [erase_map g l i]
/-! ### what is left without the largest -/
theorem dropMax_len {l : List Int} (h : l ≠ []) : (dropMax l).length = l.length - 1 := by
  unfold dropMax
  rw [List.length_eraseIdx, if_pos (List.idxOf_lt_length_of_mem (maxM_mem l h))]
theorem leftM_len (votes lot : List Int) : ∀ k, k ≤ lot.length → (leftM votes lot k).length = lot.length - k
  | 0, _ => by unfold leftM; rw [List.length_map]; rfl
  | k + 1, h => by
    have ih := leftM_len votes lot k (by omega)
    unfold leftM
    rw [dropMax_len (fun z => by rw [z] at ih; simp at ih; omega), ih]
    omega
def RSure (ds : List PyData) (d : PyData) : Prop := ∃ (votes lot : List Int) (u : Nat), ds = [tup votes, tup lot, .int (u : Int)] ∧ (∀ c ∈ lot, 0 ≤ c ∧ c < votes.length) ∧ lot.length ≤ 1000 ∧ d = .int (sureM votes lot u)
theorem scSure : FnScope ["_law_votes_here", "_law_lot", "_law_unruly_here", "_law_left", "_law_turn", "_law_copy", "_law_one_here"] ["_law_votes_here", "_law_lot", "_law_unruly_here"] (defScope (topS 48)) := ⟨rfl, rfl, rfl, by decide +kernel, rfl, by decide +kernel, by decide +kernel⟩
theorem ok_sure (F : Fun K "_law_sure" "_law_sure" (topS 48) f fd) (hm : mg "_law_sure" = some (.ref f)) (B : Bz mg) : Fd P w K mg base 1 "_law_sure" (spD T RSure) := by
  refine fd_D F scSure hm (F.binds fun _ _ _ _ _ _ us hl => match us, hl with | [_, _, _], _ => rfl) (fun ds d h => by obtain ⟨v, l, u, rfl, _⟩ := h; rfl) fun cdv A outer s H E hr ds d h => ?_
  obtain ⟨votes, lot, u, rfl, hin, hlen, rfl⟩ := h
  have elt : ∀ a ∈ lot, atI (votes.map PyData.int) a = some (.int (votes.getD a.toNat 0)) := fun a ha => at_ints (hin a ha).1 (hin a ha).2
  refine jr_create 3 (js_setLc1 lot .int _ 3 5 (sum_enc votes lot) rfl scSure.nd rfl (ji_tup (jv 1 rfl)) (blkOk_by (by kernel_rfl)) (fun s H C cl fp => pg_name (i := 5) scSure.nd rfl (Or.inl rfl)) (fun a ha s H C cl fp => j_ixT (jv 0 rfl) (jv 5 rfl) (elt a ha)) (fun a ha => rfl) (by omega)) (by show 3 < 7; decide) ?_
  refine jr_cons (js_for (ds := rng 0 (min u lot.length)) (js := [4]) (g := gName 4) (fun i => [some (tup votes), some (tup lot), some (.int (u : Int)), none, none, none, none]) (fun i => some (3, (leftM votes lot i).map .int)) (fun d es => es.set 4 (some d)) PassesOwn.never rfl
    (ji_range1 B.range (by omega) (j_as (j_min2 rfl B.min (jv 2 rfl) (j_unown (j_lenL B.len (jv 3 rfl)) rfl)) ?_)) (pg_name (i := 4) scSure.nd rfl (Or.inl rfl)) (fun d _ => tg_name) (fun i m ds z => by cases z; decide) (fun i d hd => ?_)) ?_
  · congr 1
    rw [List.length_map, leftM_len votes lot 0 (Nat.zero_le _)]
    split <;> omega
  · have hi : i < min u lot.length := by
      have := (List.getElem?_eq_some_iff.mp hd).1
      rwa [rng_len] at this
    have hl := leftM_len votes lot i (by omega)
    have hne : leftM votes lot i ≠ [] := fun z => by rw [z] at hl; simp at hl; omega
    have hmem := maxM_mem _ hne
    refine js_le (js_to (js_one (js_popAt 3 rfl (j_unown (j_idx hmem (jv 3 rfl) (j_maxL rfl B.max hmem (maxM_le _) (jn (jn_lc1 (leftM votes lot i) .int .int 6 rfl rfl scSure.nd (ji_list (jv 3 rfl)) (blkOk_by (by kernel_rfl)) (fun s H C cl fp => pg_name (i := 6) scSure.nd rfl (Or.inl rfl))
      (fun a ha s H C cl fp => j_intI B.int (jv 6 rfl)) (fun a ha => rfl) (by omega))))) rfl) ?_ (by rw [List.length_map]; omega))) ?_ rfl) (Le.keep (Le.keep (Le.keep (Le.drop (Le.drop (Le.keep (Le.keep Le.nil)))))))
    · rw [List.length_map]
      exact List.idxOf_lt_length_of_mem hmem
    · show some (3, ((leftM votes lot i).map PyData.int).eraseIdx _) = some (3, (dropMax (leftM votes lot i)).map .int)
      unfold dropMax
      rw [erase_map]
  · rw [rng_len]
    exact jr_rel (jr_ret (j_sum rfl B.sum (jv 3 rfl)) rfl)
def REnough (ds : List PyData) (d : PyData) : Prop := ∃ (votes lot : List Int) (need : Int) (u : Nat), ds = [tup votes, .int need, .int (u : Int), tup lot] ∧ (∀ c ∈ lot, 0 ≤ c ∧ c < votes.length) ∧ lot.length ≤ 1000 ∧ d = .bool (enoughM votes need u lot)
theorem scEnough : FnScope ["_law_votes_here", "_law_need_here", "_law_unruly_here", "_law_lot"] ["_law_votes_here", "_law_need_here", "_law_unruly_here", "_law_lot"] (defScope (topS 49)) := ⟨rfl, rfl, rfl, by decide +kernel, rfl, by decide +kernel, by decide +kernel⟩
theorem ok_enough (F : Fun K "_law_is_enough" "_law_is_enough" (topS 49) f fd) (hm : mg "_law_is_enough" = some (.ref f)) (B : Bz mg) (S : Fd P w K mg base 1 "_law_sure" (spD T RSure)) : Fd P w K mg base 2 "_law_is_enough" (spD T REnough) := by
  refine fd_D F scEnough hm (F.binds fun _ _ _ _ _ _ us hl => match us, hl with | [_, _, _, _], _ => rfl) (fun ds d h => by obtain ⟨v, l, n, u, rfl, _⟩ := h; rfl) fun cdv A outer s H E hr ds d h => ?_
  obtain ⟨votes, lot, need, u, rfl, hin, hlen, rfl⟩ := h
  exact jr_ret (j_gt (j_call S hr (ja_cons (jv 0 rfl) (ja_cons (jv 3 rfl) (ja_cons (jv 2 rfl) ja_nil))) ⟨votes, lot, u, rfl, hin, hlen, rfl⟩) (j_sub (j_sumT rfl B.sum (jv 0 rfl)) (jv 1 rfl))) rfl
/-! ### weights -/
def RWeight (ds : List PyData) (d : PyData) : Prop := ∃ (ups : List (Int × Int)) (lot : List Int), ds = [.list (ups.map fr), tup lot] ∧ (∀ q ∈ ups, SmallP q) ∧ ups.length ≤ 1000 ∧ d = .int (weightM ups lot)
theorem scWeight : FnScope ["_law_ups_here", "_law_lot", "_law_found", "_law_copy", "_law_up_here"] ["_law_ups_here", "_law_lot"] (defScope (topS 52)) := ⟨rfl, rfl, rfl, by decide +kernel, rfl, by decide +kernel, by decide +kernel⟩
theorem facM_small {lot : List Int} {q : (Int × Int) × Nat} (h : SmallP q.1) : -1000000 < facM lot q ∧ facM lot q < 1000000 := by
  obtain ⟨⟨a, b⟩, c, d⟩ := h
  unfold facM
  split <;> omega
theorem ok_weight (F : Fun K "_law_weight" "_law_weight" (topS 52) f fd) (hm : mg "_law_weight" = some (.ref f)) (B : Bz mg) : Fd P w K mg base 1 "_law_weight" (spD T RWeight) := by
  refine fd_D F scWeight hm (F.binds fun _ _ _ _ _ _ us hl => match us, hl with | [_, _], _ => rfl) (fun ds d h => by obtain ⟨v, l, rfl, _⟩ := h; rfl) fun cdv A outer s H E hr ds d h => ?_
  obtain ⟨ups, lot, rfl, hs, hlen, rfl⟩ := h
  refine jr_cons (js_set 2 scWeight.nd j_int) ?_
  refine jr_cons (js_for (ds := enumD (ups.map fr)) (js := [3, 4]) (fun i => [some (.list (ups.map fr)), some (tup lot), some (.int ((ups.zipIdx.take i).foldl (wStep lot) 1)), none, none]) (fun _ => none) (fun d es => match d with | .tuple [a, b] => (es.set 3 (some a)).set 4 (some b) | _ => es) PassesOwn.never rfl
    (ji_enum B.enumerate (jv 0 rfl)) (pg_tup rfl (pgs_cons (pg_name (i := 3) scWeight.nd rfl (Or.inl rfl)) (pgs_cons (pg_name (i := 4) scWeight.nd rfl (Or.inl rfl)) pgs_nil))) (fun d hd => ?_) (fun _ _ _ z => nomatch z) (fun i d hd => ?_)) ?_
  · unfold enumD at hd
    obtain ⟨q, _, rfl⟩ := List.mem_map.mp hd
    exact tg_two
  · have hi : i < ups.length := by
      have := (List.getElem?_eq_some_iff.mp hd).1
      rwa [enumD_len, List.length_map] at this
    obtain ⟨q, hq⟩ : ∃ q, ups[i]? = some q := ⟨_, List.getElem?_eq_getElem hi⟩
    have hqm : (ups.map fr)[i]? = some (fr q) := by rw [List.getElem?_map, hq]; rfl
    rw [enumD_get hqm] at hd
    cases hd
    have hz : ups.zipIdx[i]? = some (q, i) := by rw [List.getElem?_zipIdx, hq]; simp
    have hsm := hs q (List.mem_of_getElem? hq)
    rw [fold_more (g := wStep lot) hz]
    refine js_le (js_one (js_set 2 scWeight.nd (j_mul (cmulR (facM_small (q := (q, i)) hsm)) (jv 2 rfl) (j_ifExp (x := lot.contains (i : Int)) (jt_inT (jv 3 rfl) (jv 1 rfl)) (fun z => ?_) (fun z => ?_))))) (Le.keep (Le.keep (Le.keep (Le.drop (Le.drop Le.nil)))))
    · unfold facM
      rw [if_pos z]
      exact j_ixT (jv 4 rfl) j_int rfl
    · unfold facM
      rw [if_neg (by rw [z]; decide)]
      exact j_sub (j_ixT (jv 4 rfl) j_int rfl) (j_ixT (jv 4 rfl) j_int rfl)
  · rw [enumD_len, List.length_map]
    refine jr_ret (jv 2 rfl) ?_
    rw [List.take_of_length_le (by rw [List.length_zipIdx]; exact Nat.le_refl _)]
    rfl
end
end G
set_option Elab.async false
set_option linter.all false
set_option maxRecDepth 100000
set_option maxHeartbeats 4000000
namespace G
open PySem PySem.Spec PyProof.Rows L2
section
variable {P : Program} {w : World} {K : PySem.W.Frag} {mg : Str → Option Value} {base : Heap} {T : Tl} {f : Addr} {fd : FuncData}
theorem rep_enc (n : Nat) (q : Int × Int) : (List.replicate n [fr q]).flatten = (List.replicate n q).map fr := by
  induction n with
  | zero => rfl
  | succ n ih => rw [List.replicate_succ, List.replicate_succ, List.flatten_cons, ih]; rfl
theorem list_enc {α : Type} (l : List α) (p : α → Bool) (g : α → Int) : (l.filter p).map (fun a => PyData.int (g a)) = ((l.filter p).map g).map .int := by rw [List.map_map]; rfl
def RUp (ds : List PyData) (d : PyData) : Prop := ∃ (n : Nat) (up : Int × Int) (l : Int), ds = [.int (n : Int), fr up, .int l] ∧ n ≤ 10 ∧ SmallP up ∧ d = .int (upM n up l)
theorem scUp : FnScope ["_law_many", "_law_up_here", "_law_least", "_law_lot"] ["_law_many", "_law_up_here", "_law_least"] (defScope (topS 53)) := ⟨rfl, rfl, rfl, by decide +kernel, rfl, by decide +kernel, by decide +kernel⟩
theorem ok_up (F : Fun K "_law_up" "_law_up" (topS 53) f fd) (hm : mg "_law_up" = some (.ref f)) (B : Bz mg) (W : Fd P w K mg base 1 "_law_weight" (spD T RWeight)) (L : Fd P w K mg base 1 "_law_all_lots" (spD T RLots)) : Fd P w K mg base 2 "_law_up" (spD T RUp) := by
  refine fd_D F scUp hm (F.binds fun _ _ _ _ _ _ us hl => match us, hl with | [_, _, _], _ => rfl) (fun ds d h => by obtain ⟨n, u, l, rfl, _⟩ := h; rfl) fun cdv A outer s H E hr ds d h => ?_
  obtain ⟨n, up, l, rfl, hn, hs, rfl⟩ := h
  refine jr_ret (j_sum rfl B.sum (jn (jn_lcF (lotsM n) tup (fun lot => decide (l ≤ (lot.length : Nat))) (fun lot => .int (weightM (List.replicate n up) lot)) 3 (list_enc _ _ _) rfl scUp.nd (ji_list (j_call L hr (ja_cons (jv 0 rfl) ja_nil) ⟨n, rfl, hn, rfl⟩))
    (blkOk_by (by kernel_rfl)) (fun s H C cl fp => pg_name (i := 3) scUp.nd rfl (Or.inl rfl)) (fun a ha s H C cl fp => ?_) (fun a ha _ s H C cl fp => ?_) (fun a ha _ => rfl) ?_))) rfl
  · refine jt_as (jt_ge (j_lenT B.len (jv 3 rfl)) (jv 2 rfl)) ?_
    rw [List.length_map]
  · refine j_call W hr (ja_cons (jn (jn_rep (jn_lst (ja_cons (jv 1 rfl) ja_nil)) (jv 0 rfl) (by show 1 * n ≤ _; omega) (by omega))) (ja_cons (jv 3 rfl) ja_nil)) ⟨List.replicate n up, a, by rw [rep_enc], fun q hq => ?_, by rw [List.length_replicate]; omega, rfl⟩
    rw [List.eq_of_mem_replicate hq]
    exact hs
  · have := lots_le hn
    omega
def RCounts (ds : List PyData) (d : PyData) : Prop := ∃ (n u : Nat) (up share : Int × Int), ds = [.int (n : Int), .int (u : Int), fr up, fr share] ∧ n ≤ 10 ∧ u ≤ 10 ∧ SmallP up ∧ SmallP share ∧ d = .list ((countsM n u up share).map fr)
theorem scCounts : FnScope ["_law_many", "_law_unruly_here", "_law_up_here", "_law_share_here", "_law_best", "_law_found", "_law_r", "_law_w", "_law_worth_here"] ["_law_many", "_law_unruly_here", "_law_up_here", "_law_share_here"] (defScope (topS 54)) := ⟨rfl, rfl, rfl, by decide +kernel, rfl, by decide +kernel, by decide +kernel⟩
theorem mix_cmul {share : Int × Int} (h : SmallP share) (r : Int) : CMul share.1 r ∧ CMul (share.2 - share.1) r := by
  obtain ⟨⟨a, b⟩, c, d⟩ := h
  exact ⟨cmulL (by omega), cmulL (by omega)⟩
theorem ct_len (n u : Nat) (up share : Int × Int) : ∀ i : Nat, ((List.range i).foldl (ctStep n u up share) (-1, [])).2.length ≤ i
  | 0 => Nat.le_refl _
  | i + 1 => by
    have ih := ct_len n u up share i
    rw [List.range_succ, List.foldl_append]
    show (ctStep n u up share _ i).2.length ≤ i + 1
    generalize (List.range i).foldl (ctStep n u up share) (-1, []) = st at ih ⊢
    unfold ctStep
    dsimp only
    split
    · dsimp only
      split
      · rw [List.length_append]; simp; omega
      · split
        · simp
        · omega
    · omega
theorem ok_counts (F : Fun K "_law_counts" "_law_counts" (topS 54) f fd) (hm : mg "_law_counts" = some (.ref f)) (B : Bz mg) (U : Fd P w K mg base 2 "_law_up" (spD T RUp)) : Fd P w K mg base 3 "_law_counts" (spD T RCounts) := by
  refine fd_D F scCounts hm (F.binds fun _ _ _ _ _ _ us hl => match us, hl with | [_, _, _, _], _ => rfl) (fun ds d h => by obtain ⟨n, u, a, b, rfl, _⟩ := h; rfl) fun cdv A outer s H E hr ds d h => ?_
  obtain ⟨n, u, up, share, rfl, hn, hu, hs1, hs2, rfl⟩ := h
  refine jr_cons (js_par (i := 4) (j := 5) (ps_par rfl scCounts.nd rfl rfl (by decide) rfl rfl (ja_cons (j_neg j_int) (ja_cons (jn (jn_lst ja_nil)) ja_nil)) rfl)) ?_
  refine jr_cons (js_for (ds := rng 1 n) (js := [6]) (g := gName 6) (fun i => [some (.int (n : Int)), some (.int (u : Int)), some (fr up), some (fr share), some (.int ((List.range i).foldl (ctStep n u up share) (-1, [])).1), some (.list (((List.range i).foldl (ctStep n u up share) (-1, [])).2.map fr)), none, none, none]) (fun _ => none)
    (fun d es => es.set 6 (some d)) PassesOwn.never rfl (ji_range2 (i := 1) (j := (n : Int) + 1) B.range (by omega) (by omega) (by omega) j_int (j_add (jv 0 rfl) j_int)) (pg_name (i := 6) scCounts.nd rfl (Or.inl rfl)) (fun d _ => tg_name) (fun _ _ _ z => nomatch z) (fun i d hd => ?_)) ?_
  · have hi : i < n := by
      have := (List.getElem?_eq_some_iff.mp hd).1
      rwa [rng_len] at this
    rw [rng_get hi] at hd
    cases hd
    have hz := ct_len n u up share i
    rw [List.range_succ, List.foldl_append]
    show JSs _ _ _ _ _ _ _ [_, _, _, _, some (.int (ctStep n u up share ((List.range i).foldl (ctStep n u up share) (-1, [])) i).1), some (.list ((ctStep n u up share ((List.range i).foldl (ctStep n u up share) (-1, [])) i).2.map fr)), _, _, _]
    generalize (List.range i).foldl (ctStep n u up share) (-1, []) = st at hz ⊢
    obtain ⟨best, found⟩ := st
    unfold ctStep
    dsimp only at hz ⊢
    refine js_cons (js_set 7 scCounts.nd (j_sub (j_add (j_add (jv 0 rfl) (jv 1 rfl)) j_int) (jv 6 rfl))) ?_
    by_cases c : 1 ≤ (n : Int) + (u : Int) + 1 - (1 + (i : Nat)) ∧ (n : Int) + (u : Int) + 1 - (1 + (i : Nat)) ≤ n
    · rw [if_pos c]
      refine js_one (js_if (k := decide (1 ≤ (n : Int) + (u : Int) + 1 - (1 + (i : Nat))) && decide ((n : Int) + (u : Int) + 1 - (1 + (i : Nat)) ≤ n)) (jt_chainLe j_int (jv 7 rfl) (jv 0 rfl) (pt_chain op_le op_le j_int (jv 7 rfl) (jv 0 rfl))) (fun _ => ?_) (fun z => by rw [decide_eq_true c.1, decide_eq_true c.2] at z; cases z))
      refine js_cons (js_set 8 scCounts.nd (j_add (j_mul (mix_cmul hs2 _).1 (j_ixT (jv 3 rfl) j_int rfl) (j_call U hr (ja_cons (jv 0 rfl) (ja_cons (jv 2 rfl) (ja_cons (jv 6 rfl) ja_nil))) ⟨n, up, _, rfl, hn, hs1, rfl⟩))
        (j_mul (mix_cmul hs2 _).2 (j_sub (j_ixT (jv 3 rfl) j_int rfl) (j_ixT (jv 3 rfl) j_int rfl)) (j_call U hr (ja_cons (jv 0 rfl) (ja_cons (jv 2 rfl) (ja_cons (jv 7 rfl) ja_nil))) ⟨n, up, _, rfl, hn, hs1, rfl⟩)))) ?_
      refine js_cons (js_set 5 scCounts.nd (d := .list ((if mixM share (upM n up (1 + (i : Nat))) (upM n up ((n : Int) + (u : Int) + 1 - (1 + (i : Nat)))) = best then found ++ [((1 + (i : Nat) : Int), (n : Int) + (u : Int) + 1 - (1 + (i : Nat)))] else if best < mixM share (upM n up (1 + (i : Nat))) (upM n up ((n : Int) + (u : Int) + 1 - (1 + (i : Nat)))) then [((1 + (i : Nat) : Int), (n : Int) + (u : Int) + 1 - (1 + (i : Nat)))] else found).map fr))
        (j_ifExp (jt_eq (jv 8 rfl) (jv 4 rfl)) (fun z => ?_) (fun z => j_ifExp (jt_gt (jv 8 rfl) (jv 4 rfl)) (fun z2 => ?_) (fun z2 => ?_)))) ?_
      · have e : mixM share (upM n up (1 + (i : Nat))) (upM n up ((n : Int) + (u : Int) + 1 - (1 + (i : Nat)))) = best := eq_of_beq z
        rw [if_pos e]
        exact j_as (jn (jn_cat (jv 5 rfl) (jn (jn_lst (ja_cons (j_tup (ja_cons (jv 6 rfl) (ja_cons (jv 7 rfl) ja_nil))) ja_nil))) (by rw [List.length_map]; show found.length + 1 ≤ _; omega))) (by rw [List.map_append]; rfl)
      · have e : ¬ mixM share (upM n up (1 + (i : Nat))) (upM n up ((n : Int) + (u : Int) + 1 - (1 + (i : Nat)))) = best := ne_of_beq_false z
        have e2 : best < mixM share (upM n up (1 + (i : Nat))) (upM n up ((n : Int) + (u : Int) + 1 - (1 + (i : Nat)))) := of_decide_eq_true z2
        rw [if_neg e, if_pos e2]
        exact jn (jn_lst (ja_cons (j_tup (ja_cons (jv 6 rfl) (ja_cons (jv 7 rfl) ja_nil))) ja_nil))
      · have e : ¬ mixM share (upM n up (1 + (i : Nat))) (upM n up ((n : Int) + (u : Int) + 1 - (1 + (i : Nat)))) = best := ne_of_beq_false z
        have e2 : ¬ best < mixM share (upM n up (1 + (i : Nat))) (upM n up ((n : Int) + (u : Int) + 1 - (1 + (i : Nat)))) := of_decide_eq_false z2
        rw [if_neg e, if_neg e2]
        exact jv 5 rfl
      · exact js_le (js_one (js_set 4 scCounts.nd (j_max2 rfl B.max (j_intI B.int (jv 4 rfl)) (j_intI B.int (jv 8 rfl))))) (Le.keep (Le.keep (Le.keep (Le.keep (Le.keep (Le.keep (Le.drop (Le.drop (Le.drop Le.nil)))))))))
    · rw [if_neg c]
      refine js_le (js_one (js_if (k := decide (1 ≤ (n : Int) + (u : Int) + 1 - (1 + (i : Nat))) && decide ((n : Int) + (u : Int) + 1 - (1 + (i : Nat)) ≤ n)) (jt_chainLe j_int (jv 7 rfl) (jv 0 rfl) (pt_chain op_le op_le j_int (jv 7 rfl) (jv 0 rfl))) (fun z => ?_) (fun _ => ⟨rfl, rfl⟩)))
        (Le.keep (Le.keep (Le.keep (Le.keep (Le.keep (Le.keep (Le.drop (Le.drop (Le.drop Le.nil)))))))))
      obtain ⟨z1, z2⟩ := Bool.and_eq_true_iff.mp z
      exact absurd ⟨of_decide_eq_true z1, of_decide_eq_true z2⟩ c
  · rw [rng_len]
    exact jr_ret (jv 5 rfl) rfl
end
end G
set_option Elab.async false
set_option linter.all false
set_option maxRecDepth 100000
set_option maxHeartbeats 4000000
namespace G
open PySem PySem.Spec PyProof.Rows L2
def bestD : Best → PyData
  | none => .none
  | some (v, n, q) => .tuple [tup v, .int n, fr q]
theorem sum_in : ∀ v : List Int, (∀ c ∈ v, 0 ≤ c ∧ c ≤ 3) → 0 ≤ v.sum ∧ v.sum ≤ 3 * (v.length : Int)
  | [], _ => by simp
  | a :: v, h => by
    have ih := sum_in v fun c hc => h c (List.mem_cons_of_mem _ hc)
    have ha := h a List.mem_cons_self
    rw [List.sum_cons, List.length_cons]
    omega
section
variable {P : Program} {w : World} {K : PySem.W.Frag} {mg : Str → Option Value} {base : Heap} {T : Tl} {f : Addr} {fd : FuncData}
def longerM (vs : List (List Int)) : List (List Int) := vs.flatMap fun v => (List.range 4).map fun (o : Nat) => v ++ [(o : Int)]
theorem longer_len (vs : List (List Int)) : (longerM vs).length = vs.length * 4 := by
  unfold longerM
  rw [List.length_flatMap]
  simp only [List.length_map, List.length_range, List.map_const', List.sum_replicate_nat]
def RLonger (ds : List PyData) (d : PyData) : Prop := ∃ vs : List (List Int), ds = [.list (vs.map tup)] ∧ vs.length ≤ 1000 ∧ (∀ v ∈ vs, v.length ≤ 1000) ∧ d = .list ((longerM vs).map tup)
theorem scLonger : FnScope ["_law_some_votes", "_law_later", "_law_some", "_law_one_here"] ["_law_some_votes"] (defScope (topS 55)) := ⟨rfl, rfl, rfl, by decide +kernel, rfl, by decide +kernel, by decide +kernel⟩
theorem ok_longer (F : Fun K "_law_longer" "_law_longer" (topS 55) f fd) (hm : mg "_law_longer" = some (.ref f)) (B : Bz mg) : Fd P w K mg base 1 "_law_longer" (spD T RLonger) := by
  refine fd_D F scLonger hm (F.binds fun _ _ _ _ _ _ us hl => match us, hl with | [_], _ => rfl) (fun ds d h => by obtain ⟨v, rfl, _⟩ := h; rfl) fun cdv A outer s H E hr ds d h => ?_
  obtain ⟨vs, rfl, hn, hz, rfl⟩ := h
  refine jr_create 1 (ps_set scLonger.nd rfl (Or.inl rfl) (jn_lst ja_nil)) (by show 1 < 4; decide) ?_
  refine jr_cons (js_for (ds := vs.map tup) (js := [2]) (g := gName 2) (fun i => [some (.list (vs.map tup)), none, none, none]) (fun i => some (1, (longerM (vs.take i)).map tup)) (fun d es => es.set 2 (some d)) PassesOwn.never rfl (ji_list (jv 0 rfl)) (pg_name (i := 2) scLonger.nd rfl (Or.inr rfl)) (fun d _ => tg_name) (fun i m ds z => by cases z; decide) (fun i d hd => ?_)) ?_
  · have hi : i < vs.length := by
      have := (List.getElem?_eq_some_iff.mp hd).1
      rwa [List.length_map] at this
    obtain ⟨v, hv⟩ : ∃ v, vs[i]? = some v := ⟨_, List.getElem?_eq_getElem hi⟩
    rw [List.getElem?_map, hv] at hd
    cases hd
    have hvl := hz v (List.mem_of_getElem? hv)
    refine js_le (js_to (js_one (js_extend 1 rfl (jn_lc1 (List.range 4) (fun i => .int (0 + (i : Nat))) (fun o => tup (v ++ [(o : Int)])) 3 rfl rfl scLonger.nd (ji_range1 (n := 4) B.range (by decide) j_int) (blkOk_by (by kernel_rfl)) (fun s H C cl fp => pg_name (i := 3) scLonger.nd rfl (Or.inl rfl))
      (fun a ha s H C cl fp => j_as (j_catT (jv 2 rfl) (j_tup (ja_cons (jv 3 rfl) ja_nil)) (by rw [List.length_map]; show v.length + 1 ≤ _; omega)) ?_) (fun a ha => tup_flat _) (by decide) (by intro _ _ z; cases z; decide)) ?_)) ?_ rfl) (Le.keep (Le.keep (Le.drop (Le.keep Le.nil))))
    · unfold tup
      rw [List.map_append, Int.zero_add]
      rfl
    · rw [List.length_map, longer_len, List.length_map, List.length_range, List.length_take]
      omega
    · have e : longerM (vs.take (i + 1)) = longerM (vs.take i) ++ (List.range 4).map fun (o : Nat) => v ++ [(o : Int)] := by
        unfold longerM
        rw [List.take_add_one, hv, List.flatMap_append]
        simp
      rw [e, List.map_append, List.map_map]
      rfl
  · rw [List.length_map, List.take_length]
    exact jr_rel (jr_ret (jv 1 rfl) rfl)
def RVotes (ds : List PyData) (d : PyData) : Prop := ∃ n : Nat, ds = [.int (n : Int)] ∧ n ≤ 4 ∧ d = .list ((allVotesM n).map tup)
theorem votes_le {n : Nat} (h : n ≤ 4) : (votesM n).length ≤ 256 := by
  rw [votes_len]
  exact Nat.pow_le_pow_right (by decide) h
theorem scAvotes : FnScope ["_law_many", "_law_found", "_law_copy", "_law_some"] ["_law_many"] (defScope (topS 56)) := ⟨rfl, rfl, rfl, by decide +kernel, rfl, by decide +kernel, by decide +kernel⟩
theorem ok_avotes (F : Fun K "_law_all_votes" "_law_all_votes" (topS 56) f fd) (hm : mg "_law_all_votes" = some (.ref f)) (B : Bz mg) (L : Fd P w K mg base 1 "_law_longer" (spD T RLonger)) : Fd P w K mg base 2 "_law_all_votes" (spD T RVotes) := by
  refine fd_D F scAvotes hm (F.binds fun _ _ _ _ _ _ us hl => match us, hl with | [_], _ => rfl) (fun ds d h => by obtain ⟨v, rfl, _⟩ := h; rfl) fun cdv A outer s H E hr ds d h => ?_
  obtain ⟨n, rfl, hn, rfl⟩ := h
  refine jr_cons (js_set 1 scAvotes.nd (jn (jn_lst (ja_cons (j_tup ja_nil) ja_nil)))) ?_
  refine jr_cons (js_for (ds := rng 0 n) (js := [2]) (g := gName 2) (fun i => [some (.int (n : Int)), some (.list ((votesM i).map tup)), none, none]) (fun _ => none) (fun d es => es.set 2 (some d)) PassesOwn.never rfl (ji_range1 B.range (by omega) (jv 0 rfl)) (pg_name (i := 2) scAvotes.nd rfl (Or.inl rfl)) (fun d _ => tg_name) (fun _ _ _ z => nomatch z) (fun i d hd => ?_)) ?_
  · have hi : i < n := by
      have := (List.getElem?_eq_some_iff.mp hd).1
      rwa [rng_len] at this
    have := votes_le (n := i) (by omega)
    exact js_le (js_one (js_set 1 scAvotes.nd (j_call L hr (ja_cons (jv 1 rfl) ja_nil) ⟨votesM i, rfl, by omega, fun v hv => by have := (votes_in i v hv).1; omega, rfl⟩))) (Le.keep (Le.keep (Le.drop (Le.keep Le.nil))))
  · rw [rng_len]
    have := votes_le hn
    exact jr_ret (jn (jn_lcF (votesM n) tup (fun v => decide (0 < v.sum)) tup 3 rfl rfl scAvotes.nd (ji_list (jv 1 rfl)) (blkOk_by (by kernel_rfl)) (fun s H C cl fp => pg_name (i := 3) scAvotes.nd rfl (Or.inl rfl)) (fun a ha s H C cl fp => jt_gt (j_sumT rfl B.sum (jv 3 rfl)) j_int) (fun a ha _ s H C cl fp => jv 3 rfl) (fun a _ _ => tup_flat a) (by omega))) rfl
def RWorth (ds : List PyData) (d : PyData) : Prop := ∃ (v : List Int) (need : Int) (u : Nat) (ups : List (Int × Int)) (share : Int × Int), ds = [tup v, .int need, .int (u : Int), .list (ups.map fr), fr share] ∧ v.length ≤ 10 ∧ (∀ q ∈ ups, SmallP q) ∧ ups.length ≤ 1000 ∧ SmallP share ∧ d = .int (worthM v need u ups share)
theorem scWorth : FnScope ["_law_some", "_law_need_here", "_law_unruly_here", "_law_ups_here", "_law_share_here", "_law_writable", "_law_readable", "_law_lot", "_law_weight_here"] ["_law_some", "_law_need_here", "_law_unruly_here", "_law_ups_here", "_law_share_here"] (defScope (topS 57)) := ⟨rfl, rfl, rfl, by decide +kernel, rfl, by decide +kernel, by decide +kernel⟩
theorem oneIf_small (b : Bool) : -1000000 < oneIf b ∧ oneIf b < 1000000 := by cases b <;> decide
theorem ok_worth (F : Fun K "_law_worth" "_law_worth" (topS 57) f fd) (hm : mg "_law_worth" = some (.ref f)) (B : Bz mg) (L : Fd P w K mg base 1 "_law_all_lots" (spD T RLots)) (W : Fd P w K mg base 1 "_law_weight" (spD T RWeight)) (S : Fd P w K mg base 1 "_law_sum" (spD T RSum)) (N : Fd P w K mg base 2 "_law_is_enough" (spD T REnough)) :
    Fd P w K mg base 3 "_law_worth" (spD T RWorth) := by
  refine fd_D F scWorth hm (F.binds fun _ _ _ _ _ _ us hl => match us, hl with | [_, _, _, _, _], _ => rfl) (fun ds d h => by obtain ⟨_, _, _, _, _, rfl, _⟩ := h; rfl) fun cdv A outer s H E hr ds d h => ?_
  obtain ⟨v, need, u, ups, share, rfl, hv, hs, hl, hs2, rfl⟩ := h
  refine jr_cons (js_asg (ps_asg (j_tup (ja_cons j_int (ja_cons j_int ja_nil))) (pg_tup rfl (pgs_cons (pg_name (i := 5) scWorth.nd rfl (Or.inl rfl)) (pgs_cons (pg_name (i := 6) scWorth.nd rfl (Or.inl rfl)) pgs_nil)))) tg_two (fun _ _ z => nomatch z)) ?_
  refine jr_cons (js_for (ds := (lotsM v.length).map tup) (js := [7]) (g := gName 7) (fun i => [some (tup v), some (.int need), some (.int (u : Int)), some (.list (ups.map fr)), some (fr share), some (.int (((lotsM v.length).take i).foldl (wrStep v need u ups) (0, 0)).1), some (.int (((lotsM v.length).take i).foldl (wrStep v need u ups) (0, 0)).2), none, none]) (fun _ => none)
    (fun d es => es.set 7 (some d)) PassesOwn.never rfl (ji_list (j_call (L.mono (by decide)) hr (ja_cons (j_lenT B.len (jv 0 rfl)) ja_nil) ⟨v.length, by rw [List.length_map], hv, rfl⟩)) (pg_name (i := 7) scWorth.nd rfl (Or.inl rfl)) (fun d _ => tg_name) (fun _ _ _ z => nomatch z) (fun i d hd => ?_)) ?_
  · have hi : i < (lotsM v.length).length := by
      have := (List.getElem?_eq_some_iff.mp hd).1
      rwa [List.length_map] at this
    obtain ⟨lot, hlo⟩ : ∃ lot, (lotsM v.length)[i]? = some lot := ⟨_, List.getElem?_eq_getElem hi⟩
    rw [List.getElem?_map, hlo] at hd
    cases hd
    obtain ⟨hin, hln⟩ := lots_in _ lot (List.mem_of_getElem? hlo)
    rw [fold_more (g := wrStep v need u ups) hlo]
    generalize ((lotsM v.length).take i).foldl (wrStep v need u ups) (0, 0) = st
    refine js_cons (js_set 8 scWorth.nd (j_call (W.mono (by decide)) hr (ja_cons (jv 3 rfl) (ja_cons (jv 7 rfl) ja_nil)) ⟨ups, lot, rfl, hs, hl, rfl⟩)) ?_
    refine js_cons (js_set 5 scWorth.nd (j_add (jv 5 rfl) (j_mul (cmulR (oneIf_small _)) (jv 8 rfl) (j_intB B.int (j_ge (j_call (S.mono (by decide)) hr (ja_cons (jv 0 rfl) (ja_cons (jv 7 rfl) ja_nil)) ⟨v, lot, _, rfl, .inl rfl, hin, by omega, rfl⟩) (jv 1 rfl)))))) ?_
    exact js_le (js_one (js_set 6 scWorth.nd (j_add (jv 6 rfl) (j_mul (cmulR (oneIf_small _)) (jv 8 rfl) (j_intB B.int (j_call N hr (ja_cons (jv 0 rfl) (ja_cons (jv 1 rfl) (ja_cons (jv 2 rfl) (ja_cons (jv 7 rfl) ja_nil)))) ⟨v, lot, need, u, rfl, hin, by omega, rfl⟩))))))
      (Le.keep (Le.keep (Le.keep (Le.keep (Le.keep (Le.keep (Le.keep (Le.drop (Le.drop Le.nil)))))))))
  · rw [List.length_map, List.take_length]
    exact jr_ret (j_add (j_mul (mix_cmul hs2 _).1 (j_ixT (jv 4 rfl) j_int rfl) (jv 6 rfl)) (j_mul (mix_cmul hs2 _).2 (j_sub (j_ixT (jv 4 rfl) j_int rfl) (j_ixT (jv 4 rfl) j_int rfl)) (jv 5 rfl))) rfl
def RDue (ds : List PyData) (d : PyData) : Prop := ∃ (ups : List (Int × Int)) (u : Nat) (share : Int × Int), ds = [.list (ups.map fr), .int (u : Int), fr share] ∧ ups.length ≤ 4 ∧ (∀ q ∈ ups, SmallP q) ∧ SmallP share ∧ 0 < underM share.2 ups ∧ underM share.2 ups < 1000000 ∧ d = bestD (votesDueM ups u share)
theorem scDue : FnScope ["_law_ups_here", "_law_unruly_here", "_law_share_here", "_law_best", "_law_found", "_law_under", "_law_up_here", "_law_some", "_law_need_here", "_law_worth_here"] ["_law_ups_here", "_law_unruly_here", "_law_share_here"] (defScope (topS 58)) := ⟨rfl, rfl, rfl, by decide +kernel, rfl, by decide +kernel, by decide +kernel⟩
theorem nStep_ge {u : Nat} {ups : List (Int × Int)} {share : Int × Int} {under : Int} {v : List Int} {i : Nat} {a : Int × Best} (h : -1 ≤ a.1) : -1 ≤ (nStep u ups share under v a i).1 := by
  unfold nStep
  dsimp only
  split
  · split
    · dsimp only
      omega
    · exact h
  · exact h
theorem nFold_ge {u : Nat} {ups : List (Int × Int)} {share : Int × Int} {under : Int} {v : List Int} : ∀ (l : List Nat) {a : Int × Best}, -1 ≤ a.1 → -1 ≤ (l.foldl (nStep u ups share under v) a).1
  | [], _, h => h
  | _ :: l, _, h => nFold_ge l (nStep_ge h)
theorem vFold_ge {u : Nat} {ups : List (Int × Int)} {share : Int × Int} {under : Int} : ∀ (l : List (List Int)) {a : Int × Best}, -1 ≤ a.1 → -1 ≤ (l.foldl (vStep u ups share under) a).1
  | [], _, h => h
  | _ :: l, _, h => vFold_ge l (nFold_ge _ h)
theorem ok_due (F : Fun K "_law_votes_due" "_law_votes_due" (topS 58) f fd) (hm : mg "_law_votes_due" = some (.ref f)) (B : Bz mg) (V : Fd P w K mg base 2 "_law_all_votes" (spD T RVotes)) (N : Fd P w K mg base 2 "_law_is_enough" (spD T REnough)) (W : Fd P w K mg base 3 "_law_worth" (spD T RWorth)) (L : Fd P w K mg base 1 "_law_lowered" (spD T RLow)) :
    Fd P w K mg base 4 "_law_votes_due" (spD T RDue) := by
  refine fd_D F scDue hm (F.binds fun _ _ _ _ _ _ us hl => match us, hl with | [_, _, _], _ => rfl) (fun ds d h => by obtain ⟨_, _, _, rfl, _⟩ := h; rfl) fun cdv A outer s H E hr ds d h => ?_
  obtain ⟨ups, u, share, rfl, hl, hs, hs2, hu1, hu2, rfl⟩ := h
  refine jr_cons (js_par3 (i := 3) (j := 4) (m := 5) (ps_par3 rfl scDue.nd rfl rfl rfl (by decide) (by decide) (by decide) rfl rfl rfl (ja_cons (j_neg j_int) (ja_cons j_non (ja_cons (j_ixT (jv 2 rfl) j_int rfl) ja_nil))) rfl)) ?_
  refine jr_cons (js_for (ds := ups.map fr) (js := [6]) (g := gName 6) (fun i => [some (.list (ups.map fr)), some (.int (u : Int)), some (fr share), some (.int (-1)), some .none, some (.int (underM share.2 (ups.take i))), none, none, none, none]) (fun _ => none)
    (fun d es => es.set 6 (some d)) PassesOwn.never rfl (ji_list (jv 0 rfl)) (pg_name (i := 6) scDue.nd rfl (Or.inl rfl)) (fun d _ => tg_name) (fun _ _ _ z => nomatch z) (fun i d hd => ?_)) ?_
  · have hi : i < ups.length := by
      have := (List.getElem?_eq_some_iff.mp hd).1
      rwa [List.length_map] at this
    obtain ⟨q, hq⟩ : ∃ q, ups[i]? = some q := ⟨_, List.getElem?_eq_getElem hi⟩
    rw [List.getElem?_map, hq] at hd
    cases hd
    obtain ⟨_, hsq1, hsq2⟩ := hs q (List.mem_of_getElem? hq)
    have e : underM share.2 (ups.take (i + 1)) = underM share.2 (ups.take i) * q.2 := fold_more (g := uStep) hq
    rw [e]
    exact js_le (js_one (js_set 5 scDue.nd (j_mul (cmulR (by omega)) (jv 5 rfl) (j_ixT (jv 6 rfl) j_int rfl)))) (Le.keep (Le.keep (Le.keep (Le.keep (Le.keep (Le.keep (Le.drop (Le.keep (Le.keep (Le.keep Le.nil))))))))))
  · rw [List.length_map, List.take_length]
    generalize hun : underM share.2 ups = under at hu1 hu2
    have evd : votesDueM ups u share = ((allVotesM ups.length).foldl (vStep u ups share under) (-1, none)).2 := by unfold votesDueM; rw [hun]
    rw [evd]
    refine jr_cons (js_for (ds := (allVotesM ups.length).map tup) (js := [7]) (g := gName 7) (fun i => [some (.list (ups.map fr)), some (.int (u : Int)), some (fr share), some (.int (((allVotesM ups.length).take i).foldl (vStep u ups share under) (-1, none)).1), some (bestD (((allVotesM ups.length).take i).foldl (vStep u ups share under) (-1, none)).2), some (.int under), none, none, none, none]) (fun _ => none)
      (fun d es => es.set 7 (some d)) PassesOwn.never rfl (ji_list (j_call (V.mono (by decide)) hr (ja_cons (j_lenL B.len (jv 0 rfl)) ja_nil) ⟨ups.length, by rw [List.length_map], hl, rfl⟩)) (pg_name (i := 7) scDue.nd rfl (Or.inl rfl)) (fun d _ => tg_name) (fun _ _ _ z => nomatch z) (fun i d hd => ?_)) ?_
    · have hi : i < (allVotesM ups.length).length := by
        have := (List.getElem?_eq_some_iff.mp hd).1
        rwa [List.length_map] at this
      obtain ⟨v, hv⟩ : ∃ v, (allVotesM ups.length)[i]? = some v := ⟨_, List.getElem?_eq_getElem hi⟩
      rw [List.getElem?_map, hv] at hd
      cases hd
      obtain ⟨hvl, hvin⟩ := votes_in _ v (List.mem_filter.mp (List.mem_of_getElem? hv)).1
      have hsum := sum_in v hvin
      rw [fold_more (g := vStep u ups share under) hv]
      have hge := vFold_ge (u := u) (ups := ups) (share := share) (under := under) ((allVotesM ups.length).take i) (a := (-1, none)) (Int.le_refl _)
      generalize ((allVotesM ups.length).take i).foldl (vStep u ups share under) (-1, none) = st at hge ⊢
      have en : (v.sum + 1 - 1).toNat = v.sum.toNat := by omega
      refine js_le (js_to (js_one (js_for (ds := rng 1 v.sum.toNat) (js := [8]) (g := gName 8) (fun k => [some (.list (ups.map fr)), some (.int (u : Int)), some (fr share), some (.int ((List.range k).foldl (nStep u ups share under v) st).1), some (bestD ((List.range k).foldl (nStep u ups share under v) st).2), some (.int under), none, some (tup v), none, none]) (fun _ => none)
        (fun d es => es.set 8 (some d)) PassesOwn.never rfl (ji_range2 (i := 1) (j := v.sum + 1) B.range (by omega) (by omega) en j_int (j_add (j_sumT rfl B.sum (jv 7 rfl)) j_int)) (pg_name (i := 8) scDue.nd rfl (Or.inl rfl)) (fun d _ => tg_name) (fun _ _ _ z => nomatch z) (fun k d hd => ?_))) rfl rfl) ?_
      · have hk : k < v.sum.toNat := by
          have := (List.getElem?_eq_some_iff.mp hd).1
          rwa [rng_len] at this
        rw [rng_get hk] at hd
        cases hd
        rw [List.range_succ, List.foldl_append]
        have hge2 := nFold_ge (u := u) (ups := ups) (share := share) (under := under) (v := v) (List.range k) hge
        show JSs _ _ _ _ _ _ _ [_, _, _, some (.int (nStep u ups share under v ((List.range k).foldl (nStep u ups share under v) st) k).1), some (bestD (nStep u ups share under v ((List.range k).foldl (nStep u ups share under v) st) k).2), _, _, _, _, _]
        generalize (List.range k).foldl (nStep u ups share under v) st = st2 at hge2 ⊢
        obtain ⟨best, found⟩ := st2
        unfold nStep
        dsimp only at hge2 ⊢
        have hrange : ∀ c ∈ (List.range v.length).map (fun (i : Nat) => (i : Int)), 0 ≤ c ∧ c < v.length := fun c hc => by
          obtain ⟨m, hm, rfl⟩ := List.mem_map.mp hc
          have := List.mem_range.mp hm
          omega
        refine js_le (js_one (js_if (w1 := none) (es1 := [some (.list (ups.map fr)), some (.int (u : Int)), some (fr share), some (.int (if enoughM v (1 + (k : Nat)) u ((List.range v.length).map fun (i : Nat) => (i : Int)) = true then if best < worthM v (1 + (k : Nat)) u ups share then (worthM v (1 + (k : Nat)) u ups share, some (v, (1 + (k : Nat) : Int), lowM (worthM v (1 + (k : Nat)) u ups share).toNat under.toNat)) else (best, found) else (best, found) : Int × Best).1),
            some (bestD (if enoughM v (1 + (k : Nat)) u ((List.range v.length).map fun (i : Nat) => (i : Int)) = true then if best < worthM v (1 + (k : Nat)) u ups share then (worthM v (1 + (k : Nat)) u ups share, some (v, (1 + (k : Nat) : Int), lowM (worthM v (1 + (k : Nat)) u ups share).toNat under.toNat)) else (best, found) else (best, found) : Int × Best).2), some (.int under), none, some (tup v), some (.int (1 + (k : Nat))), none])
          (jt_val (j_call (N.mono (by decide)) hr (ja_cons (jv 7 rfl) (ja_cons (jv 8 rfl) (ja_cons (jv 1 rfl) (ja_cons (j_tupRg (n := v.length) rfl B.tuple B.range (by omega) (j_as (j_lenT B.len (jv 7 rfl)) (by rw [List.length_map]))) ja_nil)))) ⟨v, (List.range v.length).map (fun (i : Nat) => (i : Int)), _, u, by unfold tup; rw [List.map_map]; rfl, hrange, by rw [List.length_map, List.length_range]; omega, rfl⟩)) (fun z => ?_) (fun z => ?_)))
          (Le.keep (Le.keep (Le.keep (Le.keep (Le.keep (Le.keep (Le.keep (Le.keep (Le.drop (Le.keep Le.nil))))))))))
        · rw [if_pos z]
          refine js_cons (js_set 9 scDue.nd (j_call (W.mono (by decide)) hr (ja_cons (jv 7 rfl) (ja_cons (jv 8 rfl) (ja_cons (jv 1 rfl) (ja_cons (jv 0 rfl) (ja_cons (jv 2 rfl) ja_nil))))) ⟨v, _, u, ups, share, rfl, by omega, hs, by omega, hs2, rfl⟩)) ?_
          by_cases c : best < worthM v (1 + (k : Nat)) u ups share
          · rw [if_pos c]
            have e1 : worthM v (1 + (k : Nat)) u ups share = ((worthM v (1 + (k : Nat)) u ups share).toNat : Int) := by omega
            have e2 : under = (under.toNat : Int) := by omega
            exact js_le (js_one (js_if (jt_gt (jv 9 rfl) (jv 3 rfl)) (fun _ => js_one (js_par (i := 3) (j := 4) (ps_par rfl scDue.nd rfl rfl (by decide) rfl rfl (ja_cons (jv 9 rfl) (ja_cons (j_tup (ja_cons (jv 7 rfl) (ja_cons (jv 8 rfl) (ja_cons (j_call (L.mono (by decide)) hr (ja_cons (jv 9 rfl) (ja_cons (jv 5 rfl) ja_nil)) ⟨(worthM v (1 + (k : Nat)) u ups share).toNat, under.toNat, by rw [← e1, ← e2], by omega, by omega, rfl⟩) ja_nil)))) ja_nil)) rfl)))
              (fun z => by rw [decide_eq_true c] at z; cases z))) (Le.keep (Le.keep (Le.keep (Le.keep (Le.keep (Le.keep (Le.keep (Le.keep (Le.keep (Le.drop Le.nil))))))))))
          · rw [if_neg c]
            exact js_le (js_one (js_if (jt_gt (jv 9 rfl) (jv 3 rfl)) (fun z => absurd (of_decide_eq_true z) c) (fun _ => ⟨rfl, rfl⟩))) (Le.keep (Le.keep (Le.keep (Le.keep (Le.keep (Le.keep (Le.keep (Le.keep (Le.keep (Le.drop Le.nil))))))))))
        · have z' : ¬ enoughM v (1 + (k : Nat)) u ((List.range v.length).map fun (i : Nat) => (i : Int)) = true := by rw [z]; decide
          rw [if_neg z']
          exact ⟨rfl, rfl⟩
      · rw [rng_len]
        exact Le.keep (Le.keep (Le.keep (Le.keep (Le.keep (Le.keep (Le.keep (Le.drop (Le.keep (Le.keep Le.nil)))))))))
    · rw [List.length_map, List.take_length]
      exact jr_ret (jv 4 rfl) rfl
end
end G
set_option Elab.async false
set_option linter.all false
set_option maxRecDepth 100000
set_option maxHeartbeats 4000000
namespace G
open PySem PySem.Spec PyProof.Rows L2
/-- the numbers that the texts name -/
structure Cz (mg : Str → Option Value) : Prop where
  part : ∃ u, mg "MOST_PART" = some u ∧ RelV (.int 20) u
  copies : ∃ u, mg "MOST_COPIES" = some u ∧ RelV (.int 5) u
  voters : ∃ u, mg "MOST_VOTERS" = some u ∧ RelV (.int 4) u
  tried : ∃ u, mg "MOST_TRIED" = some u ∧ RelV (.int 3) u
inductive Fr : PyData → Prop
  | non : Fr .none
  | lst (l : List PyData) : Fr (.list l)
  | ii (a b : Int) : Fr (.tuple [.int a, .int b])
  | bi (f : Bool) (b : Int) : Fr (.tuple [.bool f, .int b])
def anyB : PyData → Bool
  | .tuple [.int a, .int b] => decide (0 < b) && (((Nat.gcd a.natAbs b.toNat : Nat) : Int) == 1)
  | _ => false
def fracB : PyData → Bool
  | .tuple [.int a, .int b] => anyB (.tuple [.int a, .int b]) && ((decide (0 ≤ a) && decide (a ≤ 20)) && decide (b ≤ 20))
  | _ => false
def chB : PyData → Bool
  | .tuple [.int a, .int b] => fracB (.tuple [.int a, .int b]) && decide (a ≤ b)
  | _ => false
def RFr (g : PyData → Bool) (ds : List PyData) (d : PyData) : Prop := ∃ v, ds = [v] ∧ Fr v ∧ d = .bool (g v)
theorem jt_bo {X : Cx} {T : Tl} {H0 : Hp} {w : Ow} {es : Es} {e : Expr} {b : Bool} (h : JW X T H0 w es e b) : JT X T H0 w es e b := h.pt
section
variable {P : Program} {w : World} {K : PySem.W.Frag} {mg : Str → Option Value} {base : Heap} {T : Tl} {f : Addr} {fd : FuncData}
theorem scAny : FnScope ["value", "part"] ["value"] (defScope (topS 25)) := ⟨rfl, rfl, rfl, by decide +kernel, rfl, by decide +kernel, by decide +kernel⟩
theorem ok_any (F : Fun K "is_any_fraction" "is_any_fraction" (topS 25) f fd) (hm : mg "is_any_fraction" = some (.ref f)) (B : Bz mg) (W : Fd P w K mg base 1 "is_whole" (spD T RWhole)) (Gc : Fd P w K mg base 1 "greatest_divisor" (spD T RGcd)) :
    Fd P w K mg base 2 "is_any_fraction" (spD T (RFr anyB)) := by
  refine fd_D F scAny hm (F.binds fun _ _ _ _ _ _ us hl => match us, hl with | [_], _ => rfl) (fun ds d h => by obtain ⟨v, rfl, _⟩ := h; rfl) fun cdv A outer s H E hr ds d h => ?_
  obtain ⟨v, rfl, hv, rfl⟩ := h
  cases hv with
  | non => exact jr_if (k := true) (jt_bo (jw_or (x := true) (y := true) (jt_not (x := false) (jt_val (j_isi (c2 := "tuple") (k2 := false) B.isinstance B.tuple (jv 0 rfl) kb_NoneType_tuple))) (fun z => nomatch z))) (fun _ => jr_ret j_bool rfl) (fun z => nomatch z)
  | lst l => exact jr_if (k := true) (jt_bo (jw_or (x := true) (y := true) (jt_not (x := false) (jt_val (j_isi (c2 := "tuple") (k2 := false) B.isinstance B.tuple (jv 0 rfl) kb_list_tuple))) (fun z => nomatch z))) (fun _ => jr_ret j_bool rfl) (fun z => nomatch z)
  | ii a b =>
    refine jr_if (k := false) ?_ (fun z => nomatch z) fun _ => ?_
    · refine jt_bo (jw_or (x := false) (y := false) (jt_not (x := true) ?_) fun _ => jw_or (x := false) (y := false) ?_ fun _ => jw_or1 (jt_not (x := true) ?_))
      · exact jt_val (j_isi (c2 := "tuple") (k2 := true) B.isinstance B.tuple (jv 0 rfl) kb_tuple_tuple)
      · exact jt_as (jt_ne (j_lenT B.len (jv 0 rfl)) j_int) rfl
      · refine jt_val (j_as (j_all (bs := [true, true]) rfl B.all (jn (jn_lc1 [PyData.int a, .int b] _root_.id (fun d => .bool (isW d)) 1 rfl rfl scAny.nd (ji_tup (jv 0 rfl)) (blkOk_by (by kernel_rfl)) (fun s H C cl fp => pg_name (i := 1) scAny.nd rfl (Or.inl rfl)) (fun d hd s H C cl fp => j_call W hr (ja_cons (jv 1 rfl) ja_nil) ⟨d, rfl, ?_, rfl⟩) (fun d _ => rfl) (by show 2 ≤ _; decide)))) rfl)
        intro kv z
        subst z
        simp at hd
    · refine jr_ret (j_and (j_gt (j_ixT (jv 0 rfl) j_int rfl) j_int) fun hb => ?_) rfl
      have hb' : 0 < b := of_decide_eq_true hb
      exact j_one (j_eq (j_call Gc hr (ja_cons (j_abs B.abs (j_ixT (jv 0 rfl) j_int rfl)) (ja_cons (j_ixT (jv 0 rfl) j_int rfl) ja_nil)) ⟨a.natAbs, b.toNat, by
        have e1 : (if a < 0 then -a else a) = (a.natAbs : Int) := by omega
        have e2 : b = (b.toNat : Int) := by omega
        rw [e1, ← e2], by omega, rfl⟩) j_int)
  | bi g b =>
    refine jr_if (k := true) ?_ (fun _ => jr_ret j_bool rfl) fun z => nomatch z
    refine jt_bo (jw_or (x := false) (y := true) (jt_not (x := true) ?_) fun _ => jw_or (x := false) (y := true) ?_ fun _ => jw_or1 (jt_not (x := false) ?_))
    · exact jt_val (j_isi (c2 := "tuple") (k2 := true) B.isinstance B.tuple (jv 0 rfl) kb_tuple_tuple)
    · exact jt_as (jt_ne (j_lenT B.len (jv 0 rfl)) j_int) rfl
    · refine jt_val (j_as (j_all (bs := [false, true]) rfl B.all (jn (jn_lc1 [PyData.bool g, .int b] _root_.id (fun d => .bool (isW d)) 1 rfl rfl scAny.nd (ji_tup (jv 0 rfl)) (blkOk_by (by kernel_rfl)) (fun s H C cl fp => pg_name (i := 1) scAny.nd rfl (Or.inl rfl)) (fun d hd s H C cl fp => j_call W hr (ja_cons (jv 1 rfl) ja_nil) ⟨d, rfl, ?_, rfl⟩) (fun d _ => rfl) (by show 2 ≤ _; decide)))) rfl)
      intro kv z
      subst z
      simp at hd
theorem scFrac : FnScope ["value"] ["value"] (defScope (topS 26)) := ⟨rfl, rfl, rfl, by decide +kernel, rfl, by decide +kernel, by decide +kernel⟩
theorem ok_frac (F : Fun K "is_fraction" "is_fraction" (topS 26) f fd) (hm : mg "is_fraction" = some (.ref f)) (B : Bz mg) (C : Cz mg) (Y : Fd P w K mg base 2 "is_any_fraction" (spD T (RFr anyB))) (N : Fd P w K mg base 2 "is_number" (spD T RNumber)) :
    Fd P w K mg base 3 "is_fraction" (spD T (RFr fracB)) := by
  refine fd_D F scFrac hm (F.binds fun _ _ _ _ _ _ us hl => match us, hl with | [_], _ => rfl) (fun ds d h => by obtain ⟨v, rfl, _⟩ := h; rfl) fun cdv A outer s H E hr ds d h => ?_
  obtain ⟨v, rfl, hv, rfl⟩ := h
  obtain ⟨u, hu, ru⟩ := C.part
  cases hv with
  | non => exact jr_ret (j_and (y := false) (j_call Y hr (ja_cons (jv 0 rfl) ja_nil) ⟨_, rfl, .non, rfl⟩) (fun z => nomatch z)) rfl
  | lst l => exact jr_ret (j_and (y := false) (j_call Y hr (ja_cons (jv 0 rfl) ja_nil) ⟨_, rfl, .lst l, rfl⟩) (fun z => nomatch z)) rfl
  | bi g b => exact jr_ret (j_and (y := false) (j_call Y hr (ja_cons (jv 0 rfl) ja_nil) ⟨_, rfl, .bi g b, rfl⟩) (fun z => nomatch z)) rfl
  | ii a b =>
    exact jr_ret (j_and (j_call Y hr (ja_cons (jv 0 rfl) ja_nil) ⟨_, rfl, .ii a b, rfl⟩) fun _ => j_and (j_call N hr (ja_cons (j_ixT (jv 0 rfl) j_int rfl) (ja_cons j_int (ja_cons (j_glob rfl hu ru) ja_nil))) ⟨.int a, 0, 20, rfl, fun _ z => (nomatch z), rfl⟩) fun _ => j_one (j_le (j_ixT (jv 0 rfl) j_int rfl) (j_glob rfl hu ru))) rfl
theorem scChance : FnScope ["value"] ["value"] (defScope (topS 27)) := ⟨rfl, rfl, rfl, by decide +kernel, rfl, by decide +kernel, by decide +kernel⟩
theorem ok_chance (F : Fun K "is_chance" "is_chance" (topS 27) f fd) (hm : mg "is_chance" = some (.ref f)) (Y : Fd P w K mg base 3 "is_fraction" (spD T (RFr fracB))) : Fd P w K mg base 4 "is_chance" (spD T (RFr chB)) := by
  refine fd_D F scChance hm (F.binds fun _ _ _ _ _ _ us hl => match us, hl with | [_], _ => rfl) (fun ds d h => by obtain ⟨v, rfl, _⟩ := h; rfl) fun cdv A outer s H E hr ds d h => ?_
  obtain ⟨v, rfl, hv, rfl⟩ := h
  cases hv with
  | non => exact jr_ret (j_and (y := false) (j_call Y hr (ja_cons (jv 0 rfl) ja_nil) ⟨_, rfl, .non, rfl⟩) (fun z => nomatch z)) rfl
  | lst l => exact jr_ret (j_and (y := false) (j_call Y hr (ja_cons (jv 0 rfl) ja_nil) ⟨_, rfl, .lst l, rfl⟩) (fun z => nomatch z)) rfl
  | bi g b => exact jr_ret (j_and (y := false) (j_call Y hr (ja_cons (jv 0 rfl) ja_nil) ⟨_, rfl, .bi g b, rfl⟩) (fun z => nomatch z)) rfl
  | ii a b => exact jr_ret (j_and (j_call Y hr (ja_cons (jv 0 rfl) ja_nil) ⟨_, rfl, .ii a b, rfl⟩) fun _ => j_one (j_le (j_ixT (jv 0 rfl) j_int rfl) (j_ixT (jv 0 rfl) j_int rfl))) rfl
/-! ### a list of chances -/
def RChs (ds : List PyData) (d : PyData) : Prop := ∃ vs : List PyData, ds = [.list vs, .int (vs.length : Nat)] ∧ (∀ v ∈ vs, Fr v) ∧ vs.length ≤ 1000 ∧ d = .bool (vs.all chB)
theorem scChs : FnScope ["value", "count", "one"] ["value", "count"] (defScope (topS 34)) := ⟨rfl, rfl, rfl, by decide +kernel, rfl, by decide +kernel, by decide +kernel⟩
theorem ok_chs (F : Fun K "are_chances" "are_chances" (topS 34) f fd) (hm : mg "are_chances" = some (.ref f)) (B : Bz mg) (L : Fd P w K mg base 1 "is_line" (spD T RLine)) (Y : Fd P w K mg base 4 "is_chance" (spD T (RFr chB))) : Fd P w K mg base 5 "are_chances" (spD T RChs) := by
  refine fd_D F scChs hm (F.binds fun _ _ _ _ _ _ us hl => match us, hl with | [_, _], _ => rfl) (fun ds d h => by obtain ⟨v, rfl, _⟩ := h; rfl) fun cdv A outer s H E hr ds d h => ?_
  obtain ⟨vs, rfl, hv, hn, rfl⟩ := h
  refine jr_ret (j_and (x := true) (y := vs.all chB) (j_call (L.mono (by decide)) hr (ja_cons (jv 0 rfl) ja_nil) ⟨.list vs, rfl, fun _ z => (nomatch z), rfl⟩) fun _ => j_and (x := true) (y := vs.all chB) (j_as (j_eq (j_lenL B.len (jv 0 rfl)) (jv 1 rfl)) ?_) fun _ => j_one (j_as (j_all (bs := vs.map chB) rfl B.all
    (jn (jn_lc1 vs _root_.id (fun d => .bool (chB d)) 2 ?_ rfl scChs.nd (ji_list (j_as (jv 0 rfl) ?_)) (blkOk_by (by kernel_rfl)) (fun s H C cl fp => pg_name (i := 2) scChs.nd rfl (Or.inl rfl)) (fun d hd s H C cl fp => j_call Y hr (ja_cons (jv 2 rfl) ja_nil) ⟨d, rfl, hv d hd, rfl⟩) (fun d _ => rfl) (by omega)))) ?_)) rfl
  · rw [beq_self_eq_true]
  · rw [List.map_map]
    rfl
  · rw [List.map_id]
  · rw [List.all_map]
    rfl
/-! ### the votes that are tried -/
theorem scTried : FnScope ["count", "found", "copy", "votes", "one"] ["count"] (defScope (topS 38)) := ⟨rfl, rfl, rfl, by decide +kernel, rfl, by decide +kernel, by decide +kernel⟩
theorem ok_tried (F : Fun K "tried_votes" "tried_votes" (topS 38) f fd) (hm : mg "tried_votes" = some (.ref f)) (B : Bz mg) (C : Cz mg) : Fd P w K mg base 1 "tried_votes" (spD T RVotes) := by
  refine fd_D F scTried hm (F.binds fun _ _ _ _ _ _ us hl => match us, hl with | [_], _ => rfl) (fun ds d h => by obtain ⟨v, rfl, _⟩ := h; rfl) fun cdv A outer s H E hr ds d h => ?_
  obtain ⟨n, rfl, hn, rfl⟩ := h
  obtain ⟨u, hu, ru⟩ := C.tried
  refine jr_cons (js_set 1 scTried.nd (jn (jn_lst (ja_cons (j_tup ja_nil) ja_nil)))) ?_
  refine jr_cons (js_for (ds := rng 0 n) (js := [2]) (g := gName 2) (fun i => [some (.int (n : Int)), some (.list ((votesM i).map tup)), none, none, none]) (fun _ => none) (fun d es => es.set 2 (some d)) PassesOwn.never rfl (ji_range1 B.range (by omega) (jv 0 rfl)) (pg_name (i := 2) scTried.nd rfl (Or.inl rfl)) (fun d _ => tg_name) (fun _ _ _ z => nomatch z) (fun i d hd => ?_)) ?_
  · have hi : i < n := by
      have := (List.getElem?_eq_some_iff.mp hd).1
      rwa [rng_len] at this
    have hz := votes_le (n := i) (by omega)
    refine js_le (js_to (js_one (js_asgN 1 (jn_setLc2 (votesM i) tup 4 (fun v o => .tuple (v.map .int ++ [.int (o : Nat)])) (j := 3) (j1 := 4) (own := [("votes", 3), ("one", 4)]) (vs1 := [4]) rfl scTried.nd rfl rfl rfl (ji_list (jv 1 rfl)) (blkOk_by (by kernel_rfl)) (by simp) (fun s H C cl fp => pg_name (i := 3) scTried.nd rfl (Or.inl rfl))
      (fun a ha s H C cl fp => ji_rangeR B.range (by decide) (j_as (j_add (j_glob rfl hu ru) j_int) rfl)) (fun s H C cl fp => pg_name (i := 4) scTried.nd rfl (Or.inl rfl)) (by simp) (by simp) (fun a _ => tup_flat a) (fun a ha b hb => ?_) (by omega) (fun a ha m hm s H C cl fp => j_tup (ja_starT (jv 3 rfl) (ja_cons (jv 4 rfl) ja_nil)) ?_)))) rfl rfl) ?_
    · show flat.flatAll _ = true
      rw [flatAll_mem]
      intro d hd
      rcases List.mem_append.mp hd with hd | hd
      · obtain ⟨z, _, rfl⟩ := List.mem_map.mp hd
        rfl
      · simp at hd
        subst hd
        rfl
    · have := (votes_in i a ha).1
      rw [List.length_append, List.length_map]
      show a.length + 1 ≤ _
      omega
    · have e : (votesM i).flatMap (fun a => (List.range 4).map fun o => PyData.tuple (a.map .int ++ [.int (o : Nat)])) = (votesM (i + 1)).map tup := by
        show _ = ((votesM i).flatMap fun v => (List.range 4).map fun (o : Nat) => v ++ [(o : Int)]).map tup
        rw [List.map_flatMap]
        congr 1
        funext v
        rw [List.map_map]
        refine List.map_congr_left fun o _ => ?_
        show _ = tup (v ++ [(o : Int)])
        unfold tup
        rw [List.map_append]
        rfl
      rw [e]
      exact Le.keep (Le.keep (Le.drop (Le.keep (Le.keep Le.nil))))
  · rw [rng_len]
    have := votes_le hn
    exact jr_ret (jn (jn_lcF (votesM n) tup (fun v => decide (0 < v.sum)) tup 3 rfl rfl scTried.nd (ji_list (jv 1 rfl)) (blkOk_by (by kernel_rfl)) (fun s H C cl fp => pg_name (i := 3) scTried.nd rfl (Or.inl rfl)) (fun a ha s H C cl fp => jt_gt (j_sumT rfl B.sum (jv 3 rfl)) j_int) (fun a ha _ s H C cl fp => jv 3 rfl) (fun a _ _ => tup_flat a) (by omega))) rfl
end
end G
set_option Elab.async false
set_option linter.all false
set_option maxRecDepth 100000
set_option maxHeartbeats 4000000
namespace G
open PySem PySem.Spec PyProof.Rows L2 PySem.W
/-! ### sorted of a list or a tuple, by a key -/
section
variable {prog : Program} {w : World} {A : Around} {E : Value → Shared → Prop} {s : Shared}
/-- the items of a list or a tuple gathered: the heap grows by one list -/
theorem gather {src : Addr} {T : String} {ob : Obj} {xs : Array Value} {ep : Nat} {Q : List Value → Shared → Prop} (hT : T = "list" ∨ T = "tuple") (h1 : s.heap.get? src = some ob) (h2 : ob.cls = .type T) (h3 : ob.data = .seq xs ep) (hz : xs.size ≤ sizeLine)
    (fin : Q xs.toList { s with heap := (s.heap.push { cls := .type "list", data := .seq #[] }).update s.heap.objs.size (Obj.mapSeq (· ++ xs)) }) : wpAny (model prog w) A (collect (.ref src)) Q E s := by
  have new0 : (s.heap.push { cls := .type "list", data := .seq #[] }).get? s.heap.objs.size = some ({ cls := .type "list", data := .seq #[] 0 } : Obj) := Heap.get?_push_size _ rfl
  have new1 := Heap.get?_update_self (Obj.mapSeq (· ++ xs)) new0 rfl
  have last : ∀ {E2 : Value → Shared → Prop}, wpAny (model prog w) A (do
        let z ← load s.heap.objs.size
        match z.data with
        | Data.seq ys _ => pure ys.toList
        | _ => unsupported "internal:collect") Q E2 { s with heap := (s.heap.push { cls := .type "list", data := .seq #[] }).update s.heap.objs.size (Obj.mapSeq (· ++ xs)) } := by
    intro E2
    refine wpAny_bind (wpAny_load new1 (wpAny_pure ?_))
    rw [show ((#[] : Array Value) ++ xs).toList = xs.toList by simp]
    exact fin
  unfold collect
  refine wpAny_bind (wpAny_runValue (codeAny_builtin F.entry_proto_collect ?_))
  rw [Around.under_plainId F.plain_proto_collect _]
  show wpAny _ A.in1 (do let nl ← newList []; again (.builtin "list.__iadd__" ⟨[nl, .ref src], []⟩)) _ _ s
  refine wpAny_bind (wpAny_newObj_type (wpAny_pure ⟨plainId_quiet F.plain_list_iadd _, codeAny_builtin F.entry_list_iadd ?_⟩))
  rw [Around.under_plainId F.plain_list_iadd _]
  refine wpAny_mono (wpAny_extend_seq (hsz := hz) (A := A) (S := s.heap.objs.size) (it := src) (res := .ref s.heap.objs.size) (c₀ := 0) (R := fun r z => r = .ok (.ret (.ref s.heap.objs.size)) ∧ z = { s with heap := (s.heap.push { cls := .type "list", data := .seq #[] }).update s.heap.objs.size (Obj.mapSeq (· ++ xs)) })
    hT new0 (Heap.get?_push_of_some _ h1) h2 h3 ⟨rfl, rfl⟩) (fun r z hz2 => ?_) fun r z hz2 => absurd hz2.1 (by simp)
  cases r with
  | done fl =>
    obtain ⟨e1, e2⟩ := hz2
    subst e2
    cases e1
    exact last
  | again cd =>
    refine ⟨hz2.1, codeAny_mono hz2.2 fun r2 z2 hr => ?_⟩
    obtain ⟨e1, e2⟩ := hr
    subst e1 e2
    exact last
theorem sorted_seq {l : Addr} {T : String} {o : Obj} {vs : List Value} {n : Nat} {kw : List (Str × Value)} {Q : Value → Shared → Prop} (hT : T = "list" ∨ T = "tuple") (ho : s.heap.get? l = some o) (hc : o.cls = .type T) (hd : o.data = .seq vs.toArray n)
    (hL : vs.length ≤ sizeLine) (ha1 : argsOk "sorted" ⟨[.ref l], kw⟩) (ha2 : ∀ x, argsOk "list.sort" ⟨[.ref x], kw⟩)
    (body : ∀ (h1 : Heap) (E' : Value → Shared → Prop), (∀ b o, s.heap.get? b = some o → h1.get? b = some o) → s.heap.objs.size ≤ h1.objs.size → wpAny (model prog w) A.in1.in1 (Builtin.«list.sort» ⟨[.ref h1.objs.size], kw⟩) (fun f s' => f = .done (.ret .none) ∧ Q (.ref h1.objs.size) s') E' { s with heap := h1.push (seqObj "list" vs.toArray 0) }) :
    wpAny (model prog w) A (call (.builtin "sorted") [.ref l] kw) Q E s := by
  refine call_function_entry_kw kind_sorted plain_sorted entry_sorted ha1 ?_
  unfold Builtin.«sorted»
  refine wpAny_bind (m := checkCount "sorted" 1 1 _) (wpAny_pure ?_)
  refine wpAny_bind (gather hT ho hc hd (by rw [List.size_toArray]; exact hL) ?_)
  have k1 : ∀ b o, s.heap.get? b = some o → ((s.heap.push { cls := .type "list", data := .seq #[] }).update s.heap.objs.size (Obj.mapSeq (· ++ vs.toArray))).get? b = some o := fun b o q =>
    (Heap.get?_update_other _ _ (Nat.ne_of_gt (Heap.lt_size q))).trans (Heap.get?_push_of_some _ q)
  have k2 : s.heap.objs.size ≤ ((s.heap.push { cls := .type "list", data := .seq #[] }).update s.heap.objs.size (Obj.mapSeq (· ++ vs.toArray))).objs.size := by
    rw [Heap.size_update, Heap.size_push]
    exact Nat.le_succ _
  generalize (s.heap.push { cls := .type "list", data := .seq #[] }).update s.heap.objs.size (Obj.mapSeq (· ++ vs.toArray)) = h1 at k1 k2 ⊢
  refine wpAny_bind (wpAny_newList ?_ hL)
  show wpAny _ _ _ _ _ { s with heap := h1.push (seqObj "list" vs.toArray 0) }
  refine wpAny_bind (wpAny_holding (wpAny_call_entry_kw slot_list_sort ⟨_, Heap.get?_push_size _ rfl, rfl⟩ entry_list_sort ?body (ha2 _)))
  case body =>
    show wpAny (model prog w) A.in1.in1 (Builtin.«list.sort» ⟨[.ref h1.objs.size], kw⟩) _ _ _
    refine wpAny_mono (body h1 _ k1 k2) (fun f s' hf => ?_) fun _ _ e => e
    obtain ⟨rfl, hq⟩ := hf
    exact ⟨_, rfl, wpAny_pure ⟨_, rfl, hq⟩⟩
theorem sorted_key_seq {β : Type} {R : Value → β → Prop} {bs : List β} {l f : Addr} {T : String} {o : Obj} {vs : List Value} {n : Nat} {Q : Value → Shared → Prop} (k : β → PyData) (hT : T = "list" ∨ T = "tuple") (ho : s.heap.get? l = some o) (hc : o.cls = .type T) (hd : o.data = .seq vs.toArray n)
    (e : EachIs R vs bs) (hal : AllAlike (bs.map k)) (hk : Sortable (bs.map k)) (hL : bs.length ≤ sizeLine) (hu : ∀ x, x ∈ bs → A.units + 2 + (k x).depth < cLine)
    (turn : ∀ (v : Value) (x : β), R v x → x ∈ bs → ∀ (h : Heap) (tk : Nat), (∀ b o, s.heap.get? b = some o → h.get? b = some o) →
      wpAny (model prog w) A.in1.in1 (call (.ref f) [v]) (KeyPure (k x) { s with heap := h, toks := tk }) (fun _ _ => False) { s with heap := h, toks := tk })
    (h : ∀ a out c h' tk, s.heap.objs.size ≤ a → (∀ b o, s.heap.get? b = some o → h'.get? b = some o) → h'.get? a = some (seqObj "list" (List.toArray out) c) → EachIs R out (bs.mergeSort (dataLe false k)) →
      Q (.ref a) { s with heap := h', toks := tk }) :
    wpAny (model prog w) A (call (.builtin "sorted") [.ref l] [(Str.ofString "key", .ref f)]) Q E s := by
  refine sorted_seq hT ho hc hd (by rw [e.length]; exact hL) (ksk_s1 _ _) (fun _ => ksk_l1 _ _) fun h1 E' k1 hs1 => ?_
  rw [ksk_t1]
  have up : ∀ {g : Heap}, KeepsBut h1.objs.size (h1.push (seqObj "list" vs.toArray 0)) g → ∀ b o, s.heap.get? b = some o → g.get? b = some o := fun {g} kp b o q =>
    kp b o (Nat.ne_of_lt (Nat.lt_of_lt_of_le (Heap.lt_size q) hs1)) (Heap.get?_push_of_some _ (k1 b o q))
  refine keyH_tree (kz := bs.map k) (s := { s with heap := h1.push (seqObj "list" vs.toArray 0) }) (Heap.get?_push_size _ rfl) (by rw [List.length_map]; exact e.length.symm) (by rw [e.length]; exact hL) hal hk (bound_map (A := A.in1.in1) hu)
    (keyH_turns (s := { s with heap := h1.push (seqObj "list" vs.toArray 0) }) e fun v x hR hx h tk kp => turn v x hR hx h tk (up kp)) fun h' tk out c kp hD ko => ⟨rfl, ?_⟩
  exact h _ out c h' tk hs1 (up kp) hD (keyedOut_each k ko e)
end
end G
set_option Elab.async false
set_option linter.all false
set_option maxRecDepth 100000
set_option maxHeartbeats 4000000
namespace G
open PySem PySem.Spec PyProof.Rows L2
/-! ### a def whose code object is known -/
structure FunC (K : PySem.W.Frag) (x : Str) (st : Stmt) (f : Addr) (fd : FuncData) (c : Addr) : Prop where
  ex : ∃ (oc : Value) (od : Option Addr) (kV doc pm : Value) (an : Option Addr) (ct : Value) (osl : Array (Option Value)),
    fd = PySem.W.fnOf x x (defArgs st) (defBody st) (defScope st) .none kV doc pm an (.ref c) ct ∧ K.lookup f = some ⟨oc, od, .func fd, osl⟩ ∧ PySem.W.codeIn K (.ref c) x = true
  kp : PySem.W.keepIn K (.ref f) = true
theorem FunC.fn {K : PySem.W.Frag} {x : Str} {st : Stmt} {f : Addr} {fd : FuncData} {c : Addr} (F : FunC K x st f fd c) : Fun K x x st f fd := by
  obtain ⟨oc, od, kV, doc, pm, an, ct, osl, e, lk, hcd⟩ := F.ex
  exact ⟨⟨oc, od, kV, doc, pm, an, .ref c, ct, osl, e, lk, hcd⟩, F.kp⟩
section
variable {P : Program} {w : World} {K : PySem.W.Frag} {mg : Str → Option Value} {base : Heap} {T : Tl} {k : Nat} {x : Str} {st : Stmt} {f c : Addr} {fd : FuncData} {N ps : List Str}
theorem FunC.ok {sp : Sp} (F : FunC K x st f fd c) (S : FnScope N ps (defScope st)) (len : ∀ vs H Q E, sp vs H Q E → vs.length = ps.length)
    (hbody : ∀ (A : Around) (outer : List Env) (s : Shared) (H : Hp) (vs : List V) (Q : VK) (E : XK), Room k (A.deeper (envOfC x (defScope st) s.heap.objs.size f (.ref c))) → sp vs H Q E →
      ∃ t, PSs (cxOf CX0 P w K mg base N x (defScope st) f (.ref c) A outer s H E).nox (defBody st) t ∧ t { nx := fun _ H' => Q .non H', rt := Q } (L2.start N vs) H) : FnOk P w K mg base CX0 (k + 1) f fd ps sp := by
  obtain ⟨oc, od, kV, doc, pm, an, ct, osl, rfl, lk, hcd⟩ := F.ex
  refine fn_of lk hcd S len fun A outer s H vs Q E hr h => ?_
  obtain ⟨t, ht, hq⟩ := hbody A outer s H vs Q E hr h
  exact ⟨t, ht.nox, hq⟩
theorem fdC_D {R : List PyData → PyData → Prop} (F : FunC K x st f fd c) (S : FnScope N ps (defScope st)) (hm : mg x = some (.ref f)) (hb : Binds K fd ps []) (hlen : ∀ ds d, R ds d → ds.length = ps.length)
    (body : ∀ (A : Around) (outer : List Env) (s : Shared) (H : Hp) (E : XK), Room k (A.deeper (envOfC x (defScope st) s.heap.objs.size f (.ref c))) → ∀ ds d, R ds d → JR (cxOf CX0 P w K mg base N x (defScope st) f (.ref c) A outer s H E).nox T H (defBody st) none (startE N ds) (RD T H d)) :
    Fd P w K mg base (k + 1) x (spD T R) :=
  ⟨f, fd, ps, F.ok S (fun vs H Q E h => by
    obtain ⟨_, ds, d, h1, h2, _⟩ := h
    rw [dxa_len h1]
    exact hlen ds d h2) (fun A outer s H vs Q E hr h => by
      obtain ⟨t, ds, d, h1, h2, q⟩ := h
      exact ⟨_, body A outer s H E hr ds d h2, at_start t h1, fun v H' ⟨u, dd⟩ => q v H' u dd⟩), hm, F.kp, hb⟩
theorem fdC_N {R : List PyData → List PyData → Prop} (F : FunC K x st f fd c) (S : FnScope N ps (defScope st)) (hm : mg x = some (.ref f)) (hb : Binds K fd ps []) (hlen : ∀ ds d, R ds d → ds.length = ps.length)
    (body : ∀ (A : Around) (outer : List Env) (s : Shared) (H : Hp) (E : XK), Room k (A.deeper (envOfC x (defScope st) s.heap.objs.size f (.ref c))) → ∀ ds rs, R ds rs → JR (cxOf CX0 P w K mg base N x (defScope st) f (.ref c) A outer s H E).nox T H (defBody st) none (startE N ds) (RN T H rs)) :
    Fd P w K mg base (k + 1) x (spN T R) :=
  ⟨f, fd, ps, F.ok S (fun vs H Q E h => by
    obtain ⟨_, ds, d, h1, h2, _⟩ := h
    rw [dxa_len h1]
    exact hlen ds d h2) (fun A outer s H vs Q E hr h => by
      obtain ⟨t, ds, d, h1, h2, q⟩ := h
      exact ⟨_, body A outer s H E hr ds d h2, at_start t h1, fun v H' ⟨p, us, e, hv, u, hp, dd⟩ => by
        subst e
        exact q p H' us hv u hp dd⟩), hm, F.kp, hb⟩
end
/-! ### a lambda of one parameter, called on its own -/
/-- one parameter, captured names, globals -/
structure Lam1 (sc scope : Scope) (a : Str) : Prop where
  kind : scope.kind = .function
  co : scope.isCoroutine = false
  gen : scope.isGenerator = false
  par : scope.names.lookup a = some .local
  cell : ∀ y ∈ scope.names, y.2 ≠ .cell
  free : ∀ y ∈ scope.names, y.2 = .free → sc.names.lookup y.1 = some .cell ∨ sc.names.lookup y.1 = some .free
def lam1B (sc scope : Scope) (a : Str) : Bool :=
  decide (scope.kind = .function) && !scope.isCoroutine && !scope.isGenerator && decide (scope.names.lookup a = some .local) && scope.names.all fun y => !decide (y.2 = .cell) && (!decide (y.2 = .free) || decide (sc.names.lookup y.1 = some .cell) || decide (sc.names.lookup y.1 = some .free))
theorem lam1_by {sc scope : Scope} {a : Str} (h : lam1B sc scope a = true) : Lam1 sc scope a := by
  unfold lam1B at h
  simp only [Bool.and_eq_true, Bool.or_eq_true, Bool.not_eq_true', decide_eq_true_eq, decide_eq_false_iff_not, List.all_eq_true] at h
  obtain ⟨⟨⟨⟨h1, h2⟩, h3⟩, h5⟩, h4⟩ := h
  refine ⟨h1, h2, h3, h5, fun y hy => (h4 y hy).1, fun y hy e => ?_⟩
  rcases (h4 y hy).2 with (z | z) | z
  · exact absurd e z
  · exact .inl z
  · exact .inr z
theorem Lam1.has {X : Cx} {scope : Scope} {a : Str} (L : Lam1 X.env.scope scope a) (ok : X.Ok) : ∀ y ∈ scope.names, y.2 = .free → ∃ c, X.env.cells.lookup y.1 = some c := fun y hy e => by
  rcases L.free y hy e with k | k
  · exact ok.has _ (.inl k)
  · exact ok.has _ (.inr k)
section
variable {X : Cx} {pins : List (Addr × Obj)} {σ : L2.St} {H : Hp} {s : Shared}
/-- a captured name's cell holds the slot's value -/
theorem lam_cell {scope : Scope} {a y : Str} {i : Nat} {v : V} (I : Inv X pins σ H s) (L : Lam1 X.env.scope scope a) (hy : scope.names.lookup y = some .free) (hN : X.N[i]? = some y) (hs : σ[i]? = some (some v)) :
    ∃ (c : Addr) (u : Value), (cloFrom X.env.cells scope.names []).lookup y = some c ∧ s.heap.IsCell c (some u) ∧ RelV v u := by
  have hym : (y, NameKind.free) ∈ scope.names := PySem.mem_of_lookup hy
  have hfree := L.has I.ok
  obtain ⟨c2, h2⟩ := mem_lookup (cloFrom_has (cells := X.env.cells) (acc := []) hym)
  have cm : ∀ {y c}, (cloFrom X.env.cells scope.names []).lookup y = some c → X.env.cells.lookup y = some c := fun {y c} e => by
    rcases cloFrom_mem (PySem.mem_of_lookup e) with hm | ⟨h1, h2⟩
    · cases hm
    · obtain ⟨c1, hc⟩ := hfree _ h1 rfl
      have hc : X.env.cells.lookup y = some c1 := hc
      have e2 : c = c1 := by
        rw [h2, hc] <;> rfl
      rw [e2]
      exact hc
  obtain ⟨m, hn, hl⟩ := I.loc
  have hvis : Vis X.env.scope y := (L.free _ hym rfl).elim (fun k => .inr (.inl k)) (fun k => .inr (.inr k))
  obtain ⟨w', r, q⟩ := hl i y v hN hs hvis
  have c1 := cm h2
  rcases q with ⟨k', _⟩ | ⟨_, c3, e', z⟩
  · have k' : X.env.scope.names.lookup y = some .local := k'
    rcases L.free _ hym rfl with k2 | k2 <;> rw [show X.env.scope.names.lookup y = _ from k2] at k' <;> cases k'
  · rw [c1] at e'
    cases e'
    exact ⟨_, w', h2, z, r⟩
/-- f(v): the body evaluated in a new frame, all that was there is kept -/
theorem lam_call1 {A : Around} {scope : Scope} {a : Str} {params : Arguments} {body : Expr} {f c' : Addr} {pm ctv : Value} {qual : Str} {clos : List (Str × Addr)} {v : Value} {k : PyData} {P : Program} {w : World} (hd : A.depth < recursionLimit) (hlim : s.heap.NoLimit)
    (L : scope.kind = .function ∧ scope.isCoroutine = false ∧ scope.isGenerator = false ∧ scope.names.lookup a = some .local ∧ ∀ y ∈ scope.names, y.2 ≠ .cell)
    (hf : s.heap.get? f = some (PySem.W.kla_obj "<lambda>" qual params body scope clos pm c' ctv)) (hcr : s.heap.CodeRec (.ref c') qual)
    (hbind : ∀ u : Value, bindArgs (PySem.W.kla_fn "<lambda>" qual params body scope clos pm (.ref c') ctv) ⟨[u], []⟩ = pure [(a, u)])
    (hbody : ∀ (L' : Addr) (h₁ : Heap) (tk : Nat), h₁.Ns L' (fun y => [(a, v)].reverse.lookup y) → (∀ b o, s.heap.get? b = some o → h₁.get? b = some o) →
      wpAny (model P w) (A.deeper (PySem.W.envX qual scope L' f (.ref c') clos)) (eval body (PySem.W.envX qual scope L' f (.ref c') clos)) (PySem.W.KeyPure k { s with heap := h₁, toks := tk }) (fun _ _ => False) { s with heap := h₁, toks := tk }) :
    wpAny (model P w) A (call (.ref f) [v]) (PySem.W.KeyPure k s) (fun _ _ => False) s := by
  obtain ⟨l1, l2, l3, l4, l5⟩ := L
  refine wpAny_call (PySem.W.kla_callFunE hd hf rfl l2 l3 rfl hcr ?_)
  rw [hbind v]
  refine wpAny_pure (wpAny_newFunctionEnv l5 (fun y hy => ?_) (fun h₁ hns hsb => ⟨hlim.fresh _ hsb, ?_⟩) l1)
  · rw [List.mem_singleton] at hy
    rw [hy]
    exact l4
  · show codeAny _ _ (.expr body (PySem.W.envX qual scope s.heap.objs.size f (.ref c') clos)) _ _
    have kp : ∀ b o, s.heap.get? b = some o → h₁.get? b = some o := fun b o e => hsb.extBut b o (Nat.ne_of_lt (Heap.lt_size e)) (Heap.get?_push_of_some _ e)
    refine PySem.W.kla_codeExpr (wpAny_mono (hbody _ h₁ _ hns kp) (fun u s2 hq => ?_) fun _ _ z => z.elim)
    obtain ⟨h', tk', e, k1, k2⟩ := hq
    exact ⟨h', tk', e, fun b o q => k1 b o (kp b o q), k2⟩
end
end G
set_option Elab.async false
set_option linter.all false
set_option maxRecDepth 100000
set_option maxHeartbeats 4000000
namespace G
open PySem PySem.Spec PyProof.Rows L2
section
variable {P : Program} {w : World} {A : Around} {s : Shared} {env : Env} {p1 p2 p3 p4 p5 p6 : Pos} {kk : Nat}
/-- (-votes[copy], copy) -/
theorem lam_votes {c : Addr} {t : Addr} {its : List Value} {ns : List Int} {n : Int} {tk : Tok} {m : Str → Option Value} (hk : env.scope.kind = .function) (h1 : env.kindOf "votes" = some .free) (h2 : env.kindOf "copy" = some .local) (hc : env.cells.lookup ("votes" : Str) = some c)
    (hcell : s.heap.IsCell c (some (.ref t))) (ht : IsTup s.heap t its.toArray) (hi : IntsAre its ns) (hns : s.heap.Ns env.locals m) (hm : m "copy" = some (.int n tk)) (h0 : 0 ≤ n) (hn : n < ns.length) (hz : ns.length ≤ 1000)
    (hst : starEach [.UnaryOp .USub (.Subscript (.Name "votes" p1) (.Name "copy" p2) p3) p4, .Name "copy" p5] env = [(false, eval (.UnaryOp .USub (.Subscript (.Name "votes" p1) (.Name "copy" p2) p3) p4) env), (false, eval (.Name "copy" p5) env)] := by rfl) :
    wpAny (model P w) A (eval (.Tuple [.UnaryOp .USub (.Subscript (.Name "votes" p1) (.Name "copy" p2) p3) p4, .Name "copy" p5] kk p6) env) (PySem.W.KeyPure (.tuple [.int (-(ns.getD n.toNat 0)), .int n]) s) (fun _ _ => False) s := by
  have hl := hi.length
  have hlt : n.toNat < ns.length := by omega
  obtain ⟨x, tx, hx⟩ : ∃ (x : Int) (tx : Tok), its[n.toNat]? = some (.int x tx) ∧ x = ns.getD n.toNat 0 := by
    have hg := hi.get (i := n.toNat) (n := ns.getD n.toNat 0) (by rw [List.getD_eq_getElem?_getD, List.getElem?_eq_getElem hlt]; rfl)
    obtain ⟨tx, hx⟩ := hg
    exact ⟨_, tx, hx, rfl⟩
  obtain ⟨hx, ex⟩ := hx
  subst ex
  refine wpAny_Tuple ?_
  rw [hst]
  refine Calls.spliced_cons (wpAny_UnaryOp (Subscript_ (wpAny_Name (wpAny_loadName_free hk h1 hc hcell (wpAny_Name (wpAny_loadName_local hk h2 hns hm ?_))))))
  refine subscriptTail_builtinR (x := .int (ns.getD n.toNat 0) tx) ht.typeIs slot_tuple_getitem.lookup (getItem_tuple (j := n.toNat) ht (by omega) (by omega) ?_ (by simpa using hx) ⟨rfl, ?_⟩)
  · unfold seqIndex?
    rw [List.size_toArray, hl]
    simp [h0, hn]
    rw [if_neg (by omega)]
    exact ⟨⟨h0, hn⟩, rfl⟩
  · refine neg_int ?_
    refine Calls.spliced_cons (wpAny_Name (wpAny_loadName_local hk h2 hns hm (Calls.spliced_nil ⟨by rw [sizeLine_eq]; exact Nat.le_of_ble_eq_true rfl, ?_⟩)))
    refine ⟨_, _, rfl, fun b o e => Heap.get?_push_of_some _ e, ?_⟩
    exact .tuple (as := []) (Heap.get?_push_size _ rfl) rfl rfl (.cons (.int _ _) (.cons (.int _ _) .nil))
/-- (len(lot), lot) -/
theorem lam_lot {t : Addr} {its : List Value} {ns : List Int} {m mg mb : Str → Option Value} (hk : env.scope.kind = .function) (h1 : env.kindOf "len" = some .globalImplicit) (h2 : env.kindOf "lot" = some .local) (hg : s.heap.Ns env.globals mg) (hmg : mg "len" = none) (hb : s.heap.Ns env.builtins mb) (hmb : mb "len" = some (.builtin "len"))
    (ht : IsTup s.heap t its.toArray) (hi : IntsAre its ns) (hr : Reads s.heap (.ref t) (tup ns) []) (hns : s.heap.Ns env.locals m) (hm : m "lot" = some (.ref t)) (hz : ns.length ≤ 1000)
    (hst : starEach [.Call (.Name "len" p1) [.Name "lot" p2] [] p3, .Name "lot" p5] env = [(false, eval (.Call (.Name "len" p1) [.Name "lot" p2] [] p3) env), (false, eval (.Name "lot" p5) env)] := by rfl)
    (hs1 : starEach [.Name "lot" p2] env = [(false, eval (.Name "lot" p2) env)] := by rfl) :
    wpAny (model P w) A (eval (.Tuple [.Call (.Name "len" p1) [.Name "lot" p2] [] p3, .Name "lot" p5] kk p6) env) (PySem.W.KeyPure (.tuple [.int (ns.length : Nat), tup ns]) s) (fun _ _ => False) s := by
  have hl := hi.length
  refine wpAny_Tuple ?_
  rw [hst]
  refine Calls.spliced_cons (wpAny_Call_Name_kw (Calls.Name_function_global hk h1 (Calls.loadGlobal_builtin hg hmg hb hmb ?_)))
  refine PyProof.Rows.callWith_builtin1 ?_ hs1 rfl
  rw [hs1]
  refine Calls.spliced_cons (wpAny_Name (wpAny_loadName_local hk h2 hns hm (Calls.spliced_nil ?_)))
  refine PyProof.Rows.len_tuple ht (by rw [List.size_toArray]; omega) ?_
  refine Calls.spliced_cons (wpAny_Name (wpAny_loadName_local hk h2 hns hm (Calls.spliced_nil ⟨by rw [sizeLine_eq]; exact Nat.le_of_ble_eq_true rfl, ?_⟩)))
  refine ⟨_, _, rfl, fun b o e => Heap.get?_push_of_some _ e, ?_⟩
  have e : ((its.toArray.size : Nat) : Int) = ((ns.length : Nat) : Int) := by rw [List.size_toArray, hl]
  refine .tuple (as := []) (Heap.get?_push_size _ rfl) rfl rfl (.cons (as := []) (bs := []) ?_ (.cons (as := []) (bs := []) (PyProof.Rows.Reads.keeps (fun b o e => Heap.get?_push_of_some _ e) hr) .nil))
  rw [← e]
  exact .int _ _
end
end G
set_option Elab.async false
set_option linter.all false
set_option maxRecDepth 100000
set_option maxHeartbeats 4000000
namespace G
open PySem PySem.Spec PyProof.Rows L2
/-! ### sorted(xs, key=lambda a: ..) -/
theorem each_of {β : Type} {R : Value → β → Prop} {enc : β → PyData} {H : Hp} : ∀ {bs : List β} {vs : List V} {us : List Value}, DxAll H vs (bs.map enc) → Vals vs us → (∀ v u b, b ∈ bs → Dx H v (enc b) → RelV v u → R u b) → PySem.W.EachIs R us bs
  | [], _, _, h, r, _ => by
    cases h
    cases r
    exact .nil
  | b :: bs, _, _, h, r, k => by
    cases h with
    | cons h1 h2 =>
      cases r with
      | cons r1 r2 => exact .cons (k _ _ b List.mem_cons_self h1 r1) (each_of h2 r2 fun v u b hb => k v u b (List.mem_cons_of_mem _ hb))
theorem each_back {β : Type} {enc : β → PyData} {H : Hp} : ∀ {bs : List β} {us : List Value}, PySem.W.EachIs (fun u b => ∃ v, RelV v u ∧ Dx H v (enc b)) us bs → ∃ vs, Vals vs us ∧ DxAll H vs (bs.map enc)
  | _, _, .nil => ⟨[], .nil, .nil⟩
  | _, _, .cons ⟨v, h1, h2⟩ t => by
    obtain ⟨vs, k1, k2⟩ := each_back t
    exact ⟨v :: vs, .cons h1 k1, .cons h2 k2⟩
section
variable {X : Cx} {T : Tl} {H0 : Hp} {es : Es} {e body : Expr} {p lpos kpos pos : Pos}
theorem jn_sorted {β : Type} (bs : List β) (enc key : β → PyData) {a : Str} {c Pt : Addr} {params : Arguments} {scope : Scope} {k : Nat} (hm : X.mg "sorted" = none) (hr : Room k X.A) {sd : PyData} (ha : J X T H0 none es e sd) (hsd : sd = .list (bs.map enc) ∨ sd = .tuple (bs.map enc))
    (TB : LamX.TabB X.base X.mg c Pt) (hcode : X.env.code = .ref c) (hmT : (Pt, X.env.qual ++ "<lambda>") ∈ T) (hu : ∀ p ∈ T, p.1 = Pt → p.2 = X.env.qual ++ "<lambda>") (L : Lam1 X.env.scope scope a) (hdef : defaultsOf params X.env = ([], []))
    (hal : PySem.W.AllAlike (bs.map key)) (hk : PySem.W.Sortable (bs.map key)) (hz : bs.length ≤ 90000) (hdp : ∀ x ∈ bs, (key x).depth ≤ 50)
    (hturn : ∀ (σ : L2.St) (H : Hp) (pins : List (Addr × Obj)) (s : Shared) (f c' : Addr) (pm ctv : Value), Inv X pins σ H s → At T H0 none es σ H → s.heap.get? f = some (PySem.W.kla_obj "<lambda>" (X.env.qual ++ "<lambda>") params body scope (cloFrom X.env.cells scope.names []) pm c' ctv) →
      s.heap.CodeRec (.ref c') (X.env.qual ++ "<lambda>") → ∀ (u : Value) (v : V) (x : β), x ∈ bs → RelV v u → Dx H v (enc x) → wpAny (model X.prog X.w) X.A.in1.in1 (call (.ref f) [u]) (PySem.W.KeyPure (key x) s) (fun _ _ => False) s)
    (hg : Gl X "sorted" := by rfl) (he0 : starEach [e] X.env = (false, eval e X.env) :: starEach [] X.env := by rfl) (hpl : (backTo pos (starEach [e] X.env)).any (·.1) = false := by rfl)
    (hall : (backToKw pos (keywordEach [⟨some "key", .Lambda params body scope lpos, kpos⟩] X.env)).all (·.1.isSome) = true := by rfl) (hnone : (backToKw pos (keywordEach [⟨some "key", .Lambda params body scope lpos, kpos⟩] X.env)).any (·.1.isNone) = false := by rfl)
    (hks : (backToKw pos (keywordEach [⟨some "key", .Lambda params body scope lpos, kpos⟩] X.env)).filterMap (·.1) = [Str.ofString "key"] := by rfl) :
    JN X T H0 none es (.Call (.Name "sorted" p) [e] [⟨some "key", .Lambda params body scope lpos, kpos⟩] pos) ((bs.mergeSort (PySem.W.dataLe false key)).map enc) := by
  refine ⟨fun pins s σ H Q I ⟨hA, q⟩ => ?_⟩
  refine wpAny_Call_Name_kw (ld_blt (u := .builtin "sorted") I hg hm (by decide +kernel) ?_ (by decide) (by decide))
  refine PyProof.Rows.callWith_kw (thn ((ja_cons ha ja_nil he0).run pos pins s σ H (fun vs H1 => At T H0 none es σ H1 ∧ Up T H H1 ∧ DxAll H1 vs [sd]) I ⟨hA, fun vs H1 u1 d1 => ⟨hA.lift u1, u1, d1⟩⟩) fun us s1 ⟨vs, H1, I1, r1, A1, u1, d1⟩ => ?_) (by rw [he0]; rfl) hpl hall hnone
  rw [hks]
  cases d1 with
  | @cons v0 _ _ _ d1 d2 =>
    cases d2
    have hsrc : ∃ l ws, v0 = .ref l ∧ DxAll H1 ws (bs.map enc) ∧ ∀ (H2 : Hp) (s2 : Shared), LamX.ExtN H1 H2 → HOk X.prog X.w H2 s2.heap → ∃ Ty o its n, (Ty = "list" ∨ Ty = "tuple") ∧ s2.heap.get? l = some o ∧ o.cls = .type Ty ∧ o.data = .seq (its : List Value).toArray n ∧ Vals ws its := by
      rcases hsd with z | z
      · subst z
        obtain ⟨l, ws, e1, hl, hd⟩ := dx_lst d1
        refine ⟨l, ws, e1, hd, fun H2 s2 x hok => ?_⟩
        obtain ⟨_, its, n, rv, ho⟩ := (rdl_mono x hl).ok hok
        exact ⟨"list", _, its, n, .inl rfl, ho, rfl, rfl, rv⟩
      · subst z
        obtain ⟨l, ws, e1, hl, hd⟩ := dx_tup d1
        refine ⟨l, ws, e1, hd, fun H2 s2 x hok => ?_⟩
        obtain ⟨_, its, rv, o, o1, o2, n, o3⟩ := (rdt_mono x hl).ok hok
        exact ⟨"tuple", o, its, n, .inr rfl, o1, o2, o3, rv⟩
    obtain ⟨l, ws, e1, hd, hobj⟩ := hsrc
    subst e1
    cases r1 with
    | cons ra rb =>
      cases rb
      cases ra
      show wpAny _ _ (evalAll [do let v ← eval (.Lambda params body scope lpos) X.env; standAt pos; pure v]) _ _ s1
      refine wpAny_evalAll_cons (wpAny_bind (LamX.lam_make2 I1 TB hcode hmT hu A1.tab hdef (L.has I1.ok) fun f c' pm ctv H2 s2 I2 eN T2 hf hfn hfr hco => wpAny_bind (wpAny_standAt (wpAny_pure (wpAny_evalAll_nil ?_)))))
      show wpAny _ _ (call (.builtin "sorted") [.ref l] [(Str.ofString "key", .ref f)]) _ _ _
      have u2 : Up T H1 H2 := ⟨eN, fun _ => T2⟩
      have A2 := A1.lift u2
      have hd2 := dxa_mono u2.ext _ _ hd
      obtain ⟨Ty, ob, its, n, hTy, o4, o5, o6, rv⟩ := hobj H2 s2 u2.ext I2.hok
      obtain ⟨⟨oc, ovs, ot, o1, o2, o3⟩, _, _⟩ := I2.hok c' _ hco
      have ea : PySem.W.EachIs (fun u b => ∃ v, RelV v u ∧ Dx H2 v (enc b)) its bs := each_of hd2 rv fun v u b _ h r => ⟨v, r, h⟩
      refine sorted_key_seq key hTy o4 o5 o6 ea hal hk (line_of (by omega)) (fun x hx => ?_) (fun u x ⟨v, r, dv⟩ hx h tk kp => ?_) fun a out c2 h' tk hsa kp hD eo => ?_
      · have := hdp x hx
        have := hr.un
        omega
      · have I3 := I2.kept (h' := h) (t' := tk) kp
        exact hturn σ H2 pins _ f c' pm ctv I3 A2 (kp _ _ hf) ⟨c', oc, ovs, ot, rfl, kp _ _ o1, o2, o3⟩ u v x hx r dv
      · obtain ⟨xs, k1, k2⟩ := each_back eo
        have hxl : xs.length ≤ 90000 := by
          rw [dxa_len k2, List.length_map, List.length_mergeSort]
          exact hz
        have hfr2 := I2.hok.fresh hsa
        refine ⟨.ref a, upd H2 a (.lst xs), I2.laid (t' := tk) kp hsa ⟨line_of (by omega), out, c2, k1, hD⟩, rfl, q _ _ xs (.of (u1.trans u2) hfr2) ((u1.trans u2).trans (Up.new hfr2)) upd_same ?_⟩
        show DxAll (cut (upd H2 a (.lst xs)) a) _ _
        rw [cut_upd, cut_id hfr2]
        exact k2
end
end G
set_option Elab.async false
set_option linter.all false
set_option maxRecDepth 100000
set_option maxHeartbeats 4000000
namespace G
open PySem PySem.Spec PyProof.Rows L2
def voteKey (votes : List Int) (c : Int) : PyData := .tuple [.int (-(votes.getD c.toNat 0)), .int c]
def byM (votes lot : List Int) : List Int := lot.mergeSort (PySem.W.dataLe false (voteKey votes))
def lotKey (lot : List Int) : PyData := .tuple [.int (lot.length : Nat), tup lot]
def lotsP (n : Nat) : List (List Int) := (lotsM n).mergeSort (PySem.W.dataLe false lotKey)
theorem alike_ints : ∀ xs ys : List Int, PySem.W.alikeAll (xs.map .int) (ys.map .int) = true
  | [], _ => by simp [PySem.W.alikeAll]
  | x :: xs, [] => by simp [PySem.W.alikeAll]
  | x :: xs, y :: ys => by
    have ih := alike_ints xs ys
    simp only [List.map_cons, PySem.W.alikeAll, PySem.W.alike, Bool.true_and]
    exact ih
theorem depth_ints : ∀ xs : List Int, PyData.depthAll (xs.map .int) ≤ 1
  | [] => by simp [PyData.depthAll]
  | x :: xs => by
    have ih := depth_ints xs
    simp only [List.map_cons, PyData.depthAll, PyData.depth]
    omega
theorem ints_vals {H : Hp} {h : Heap} {P : Program} {w : World} {v : V} {u : Value} {ns : List Int} (hok : HOk P w H h) (d : Dx H v (tup ns)) (r : RelV v u) : ∃ (t : Addr) (its : List Value), u = .ref t ∧ IsTup h t its.toArray ∧ IntsAre its ns := by
  obtain ⟨a, xs, e, hRd, hd⟩ := dx_tup d
  subst e
  cases r
  have e2 := dxa_ints hd
  subst e2
  obtain ⟨_, its, rv, ht⟩ := hRd.ok hok
  exact ⟨a, its, rfl, ht, rv.ints⟩
theorem reads_ints {h : Heap} : ∀ {ns : List Int} {its : List Value}, IntsAre its ns → ReadsAll h its (ns.map .int) []
  | [], _, r => by
    cases r
    exact .nil
  | n :: ns, _, r => by
    cases r with
    | cons _ _ t => exact .cons (as := []) (bs := []) (.int _ _) (reads_ints t)
section
variable {P : Program} {w : World} {K : PySem.W.Frag} {mg : Str → Option Value} {base : Heap} {T : Tl} {f c Pt : Addr} {fd : FuncData}
def RBy (ds rs : List PyData) : Prop := ∃ votes lot : List Int, ds = [tup votes, tup lot] ∧ (∀ c ∈ lot, 0 ≤ c ∧ c < votes.length) ∧ lot.length ≤ 1000 ∧ votes.length ≤ 1000 ∧ rs = (byM votes lot).map .int
theorem scBy : FnScope ["votes", "lot"] ["votes", "lot"] (defScope (topS 32)) := ⟨rfl, rfl, rfl, by decide +kernel, rfl, by decide +kernel, by decide +kernel⟩
theorem ok_by (F : FunC K "by_votes" (topS 32) f fd c) (hm : mg "by_votes" = some (.ref f)) (B : Bz mg) (TB : LamX.TabB base mg c Pt) (hT : (Pt, ("by_votes" : Str) ++ ".<locals>." ++ "<lambda>") ∈ T) (hu : ∀ p ∈ T, p.1 = Pt → p.2 = ("by_votes" : Str) ++ ".<locals>." ++ "<lambda>") :
    Fd P w K mg base 1 "by_votes" (spN T RBy) := by
  refine fdC_N F scBy hm (F.fn.binds fun _ _ _ _ _ _ us hl => match us, hl with | [_, _], _ => rfl) (fun ds d h => by obtain ⟨v, l, rfl, _⟩ := h; rfl) fun A outer s H E hr ds d h => ?_
  obtain ⟨votes, lot, rfl, hin, hlen, hvl, rfl⟩ := h
  refine jr_retN (jn_sorted lot PyData.int (voteKey votes) (a := "copy") B.sorted hr (jv 1 rfl) (.inr rfl) TB rfl hT hu (lam1_by (by kernel_rfl)) rfl (PySem.W.AllAlike.of fun _ _ => by simp [PySem.W.alike, PySem.W.alikeAll, voteKey]) (PySem.W.Sortable.tuples fun _ => ⟨_, _, rfl⟩) (by omega)
    (fun x _ => by simp [voteKey, PyData.depth, PyData.depthAll]) fun σ H pins s f c' pm ctv I hA hf hcr u v x hx r dv => ?_) rfl
  have ev := dx_int dv
  subst ev
  obtain ⟨tk, eu⟩ := (show ∃ t, u = Value.int x t from r)
  subst eu
  obtain ⟨v0, e0, d0⟩ := hA.has.dat 0 (tup votes) rfl
  obtain ⟨cc, uu, hcl, hcell, rr⟩ := lam_cell I (a := "copy") (y := "votes") (lam1_by (by kernel_rfl)) (by kernel_rfl) rfl e0
  obtain ⟨t, its, e1, ht, hi⟩ := ints_vals I.hok d0 rr
  subst e1
  refine lam_call1 (a := "copy") (Nat.lt_of_le_of_lt (Nat.le_trans (Nat.le_add_right _ _) (Nat.le_add_right _ _)) hr.dp) I.nolimit ⟨rfl, rfl, rfl, by kernel_rfl, by decide +kernel⟩ hf hcr (fun _ => rfl) fun L' h₁ tk' hns kp => ?_
  exact lam_votes (c := cc) rfl (by kernel_rfl) (by kernel_rfl) hcl (by
    obtain ⟨o, ho, hd⟩ := hcell
    exact ⟨o, kp _ _ ho, hd⟩) (by
    obtain ⟨o, ho, hd⟩ := ht
    exact ⟨o, kp _ _ ho, hd⟩) hi hns rfl (hin x hx).1 (hin x hx).2 hvl
def RLotsP (ds rs : List PyData) : Prop := ∃ n : Nat, ds = [.int (n : Int)] ∧ n ≤ 10 ∧ rs = (lotsP n).map tup
theorem scLots : FnScope ["count", "found", "copy", "lot"] ["count"] (defScope (topS 33)) := ⟨rfl, rfl, rfl, by decide +kernel, rfl, by decide +kernel, by decide +kernel⟩
theorem ok_lots (F : FunC K "all_lots" (topS 33) f fd c) (hm : mg "all_lots" = some (.ref f)) (B : Bz mg) (TB : LamX.TabB base mg c Pt) (hT : (Pt, ("all_lots" : Str) ++ ".<locals>." ++ "<lambda>") ∈ T) (hu : ∀ p ∈ T, p.1 = Pt → p.2 = ("all_lots" : Str) ++ ".<locals>." ++ "<lambda>") :
    Fd P w K mg base 1 "all_lots" (spN T RLotsP) := by
  refine fdC_N F scLots hm (F.fn.binds fun _ _ _ _ _ _ us hl => match us, hl with | [_], _ => rfl) (fun ds d h => by obtain ⟨v, rfl, _⟩ := h; rfl) fun A outer s H E hr ds d h => ?_
  obtain ⟨n, rfl, hn, rfl⟩ := h
  refine jr_create 1 (ps_set scLots.nd rfl (Or.inl rfl) (jn_lst (ja_cons (j_tup ja_nil) ja_nil))) (by show 1 < 4; decide) ?_
  refine jr_cons (js_for (ds := rng 0 n) (js := [2]) (g := gName 2) (fun i => [some (.int (n : Int)), none, none, none]) (fun i => some (1, (lotsM i).map tup)) (fun d es => es.set 2 (some d)) PassesOwn.never rfl (ji_range1 B.range (by omega) (jv 0 rfl)) (pg_name (i := 2) scLots.nd rfl (Or.inr rfl)) (fun d _ => tg_name) (fun i m ds z => by cases z; decide) (fun i d hd => ?_)) ?_
  · have hi : i < n := by
      have := (List.getElem?_eq_some_iff.mp hd).1
      rwa [rng_len] at this
    rw [rng_get hi] at hd
    cases hd
    have hlen := lots_le (n := i) (by omega)
    refine js_le (js_to (js_one (js_extend 1 rfl (jn_lc1 (lotsM i) tup (fun lot => .tuple (lot.map .int ++ [.int (0 + (i : Nat))])) 3 rfl rfl scLots.nd (ji_list (jn (jn_listOwn B.list))) (blkOk_by (by kernel_rfl)) (fun s H C cl fp => pg_name (i := 3) scLots.nd rfl (Or.inl rfl))
      (fun a ha s H C cl fp => j_tup (ja_starT (jv 3 rfl) (ja_cons (jv 2 rfl) ja_nil)) ?_) (fun a ha => ?_) (by omega) (by intro _ _ z; cases z; decide)) ?_)) ?_ rfl) (Le.keep (Le.keep (Le.drop (Le.keep Le.nil))))
    · have := (lots_in i a ha).2
      rw [List.length_append, List.length_map]
      show a.length + 1 ≤ _
      omega
    · show flat.flatAll _ = true
      rw [flatAll_mem]
      intro d hd
      rcases List.mem_append.mp hd with hd | hd
      · obtain ⟨z, _, rfl⟩ := List.mem_map.mp hd
        rfl
      · simp at hd
        subst hd
        rfl
    · rw [List.length_map, List.length_map]
      omega
    · show some (1, _) = some (1, (lotsM i ++ (lotsM i).map (· ++ [(i : Int)])).map tup)
      rw [List.map_append, List.map_map]
      congr 3
      refine List.map_congr_left fun lot _ => ?_
      show _ = tup (lot ++ [(i : Int)])
      unfold tup
      rw [List.map_append, Int.zero_add]
      rfl
  · rw [rng_len]
    have hlen := lots_le hn
    refine jr_rel (jr_retN (jn_sorted (lotsM n) tup lotKey (a := "lot") B.sorted hr (jv 1 rfl) (.inl rfl) TB rfl hT hu (lam1_by (by kernel_rfl)) rfl (PySem.W.AllAlike.of fun a b => ?_) (PySem.W.Sortable.tuples fun _ => ⟨_, _, rfl⟩) (by omega)
      (fun x _ => ?_) fun σ H pins s f c' pm ctv I hA hf hcr u v x hx r dv => ?_) rfl)
    · simp only [lotKey, tup, PySem.W.alike, PySem.W.alikeAll, Bool.true_and, Bool.and_true]
      exact alike_ints a b
    · have := depth_ints x
      simp only [lotKey, tup, PyData.depth, PyData.depthAll]
      omega
    · obtain ⟨t, its, e1, ht, hi⟩ := ints_vals I.hok dv r
      subst e1
      refine lam_call1 (a := "lot") (Nat.lt_of_le_of_lt (Nat.le_trans (Nat.le_add_right _ _) (Nat.le_add_right _ _)) hr.dp) I.nolimit ⟨rfl, rfl, rfl, by kernel_rfl, by decide +kernel⟩ hf hcr (fun _ => rfl) fun L' h₁ tk' hns kp => ?_
      obtain ⟨mb, b1, b2⟩ := I.mod.blt
      obtain ⟨o, ho, hc, m, hd⟩ := ht
      refine lam_lot (s := { s with heap := h₁, toks := tk' }) (mg := mg) (mb := mb) rfl (by kernel_rfl) (by kernel_rfl) ((I.mod.glob.keeps I.bk).keeps kp) B.len ((b1.keeps I.bk).keeps kp) ((b2 "len" (by decide)).trans PySem.boot_len) ⟨o, kp _ _ ho, hc, m, hd⟩ hi (.tuple (kp _ _ ho) hc hd (reads_ints hi)) hns rfl ?_
      have := (lots_in n x hx).2
      omega
end
end G
set_option Elab.async false
set_option linter.all false
set_option maxRecDepth 100000
set_option maxHeartbeats 4000000
namespace G
open PySem PySem.Spec PyProof.Rows L2
/-! ### weights_of, best_need -/
def encW (q : List Int × Int) : PyData := .tuple [tup q.1, .int q.2]
def weighM (ups : List (Int × Int)) : List (List Int × Int) := (lotsP ups.length).map fun lot => (lot, weightM ups lot)
def sureP (votes lot : List Int) (u : Nat) : Int := sumM votes lot - sumM votes ((byM votes lot).take u)
def tallyM (votes : List Int) (u : Nat) (q : List Int × Int) : Int × Int × Int := (sumM votes q.1, sureP votes q.1 u, q.2)
def encT (t : Int × Int × Int) : PyData := .tuple [.int t.1, .int t.2.1, .int t.2.2]
def writM (ts : List (Int × Int × Int)) (need : Int) : Int := ((ts.filter fun t => decide (need ≤ t.1)).map (·.2.2)).sum
def readM (ts : List (Int × Int × Int)) (sum need : Int) : Int := ((ts.filter fun t => decide (sum - need < t.2.1)).map (·.2.2)).sum
def beatB (b : Option (Int × Int)) (x : Int) : Bool := match b with
  | none => true
  | some q => decide (q.1 < x)
def ndStep (ts : List (Int × Int × Int)) (last : Int × Int × Int) (sum : Int) (share : Int × Int) (b : Option (Int × Int)) (i : Nat) : Option (Int × Int) :=
  let need : Int := 1 + (i : Nat)
  if sum - need < last.2.1 then
    let x := mixM share (readM ts sum need) (writM ts need)
    if beatB b x = true then some (x, need) else b
  else b
def needM (votes : List Int) (u : Nat) (ws : List (List Int × Int)) (share : Int × Int) : Option (Int × Int) :=
  (List.range votes.sum.toNat).foldl (ndStep (ws.map (tallyM votes u)) ((ws.map (tallyM votes u)).getLastD (0, 0, 0)) votes.sum share) none
def needD : Option (Int × Int) → PyData
  | none => .none
  | some q => .tuple [.int q.1, .int q.2]
theorem at_last {α : Type} {l : List α} {g : α → PyData} {z : α} (h : l ≠ []) : atI (l.map g) (-1) = some (g (l.getLastD z)) := by
  have hl : 0 < l.length := (List.length_pos_iff.mpr h)
  have e : ixN (l.map g).length (-1) = some (l.length - 1) := by
    unfold ixN
    rw [List.length_map, if_neg (by omega), if_pos (by omega)]
    congr 1
    omega
  unfold atI
  rw [e, Option.bind_some, List.getElem?_map, List.getLastD_eq_getLast?, List.getLast?_eq_getElem?, List.getElem?_eq_getElem (by omega)]
  rfl
theorem lotsP_perm (n : Nat) : (lotsP n).Perm (lotsM n) := List.mergeSort_perm _ _
theorem byM_perm (votes lot : List Int) : (byM votes lot).Perm lot := List.mergeSort_perm _ _
theorem flat_tups (l : List (List Int)) : flat.flatAll (l.map tup) = true := by
  rw [flatAll_mem]
  intro d hd
  obtain ⟨a, _, rfl⟩ := List.mem_map.mp hd
  exact tup_flat a
theorem flat_ints2 (l : List Int) : flat.flatAll (l.map .int) = true := tup_flat l
section
variable {P : Program} {w : World} {K : PySem.W.Frag} {mg : Str → Option Value} {base : Heap} {T : Tl} {f : Addr} {fd : FuncData}
def RWeights (ds : List PyData) (d : PyData) : Prop := ∃ ups : List (Int × Int), ds = [.list (ups.map fr)] ∧ ups.length ≤ 10 ∧ (∀ q ∈ ups, SmallP q) ∧ d = .tuple [.list ((weighM ups).map encW), .int (underM 1 ups)]
theorem scWeights : FnScope ["ups", "under", "chance", "found", "lot", "over", "copy"] ["ups"] (defScope (topS 35)) := ⟨rfl, rfl, rfl, by decide +kernel, rfl, by decide +kernel, by decide +kernel⟩
theorem ok_weights (F : Fun K "weights_of" "weights_of" (topS 35) f fd) (hm : mg "weights_of" = some (.ref f)) (B : Bz mg) (L : Fd P w K mg base 1 "all_lots" (spN T RLotsP)) : Fd P w K mg base 2 "weights_of" (spD T RWeights) := by
  refine fd_D F scWeights hm (F.binds fun _ _ _ _ _ _ us hl => match us, hl with | [_], _ => rfl) (fun ds d h => by obtain ⟨v, rfl, _⟩ := h; rfl) fun cdv A outer s H E hr ds d h => ?_
  obtain ⟨ups, rfl, hlen, hs, rfl⟩ := h
  refine jr_cons (js_set 1 scWeights.nd j_int) ?_
  refine jr_cons (js_for (ds := ups.map fr) (js := [2]) (g := gName 2) (fun i => [some (.list (ups.map fr)), some (.int (underM 1 (ups.take i))), none, none, none, none, none]) (fun _ => none) (fun d es => es.set 2 (some d)) PassesOwn.never rfl (ji_list (jv 0 rfl)) (pg_name (i := 2) scWeights.nd rfl (Or.inl rfl)) (fun d _ => tg_name) (fun _ _ _ z => nomatch z) (fun i d hd => ?_)) ?_
  · have hi : i < ups.length := by
      have := (List.getElem?_eq_some_iff.mp hd).1
      rwa [List.length_map] at this
    obtain ⟨q, hq⟩ : ∃ q, ups[i]? = some q := ⟨_, List.getElem?_eq_getElem hi⟩
    rw [List.getElem?_map, hq] at hd
    cases hd
    obtain ⟨_, h1, h2⟩ := hs q (List.mem_of_getElem? hq)
    have e : underM 1 (ups.take (i + 1)) = underM 1 (ups.take i) * q.2 := fold_more (g := uStep) hq
    rw [e]
    exact js_le (js_one (js_mulBy 1 scWeights.nd rfl (j_ixT (jv 2 rfl) j_int rfl) (cmulR (by omega)))) (Le.keep (Le.keep (Le.drop (Le.keep (Le.keep (Le.keep (Le.keep Le.nil)))))))
  · rw [List.length_map, List.take_length]
    refine jr_create 3 (ps_set scWeights.nd rfl (Or.inl rfl) (jn_lst ja_nil)) (by show 3 < 7; decide) ?_
    refine jr_cons (js_for (ds := (lotsP ups.length).map tup) (js := [4]) (g := gName 4) (fun i => [some (.list (ups.map fr)), some (.int (underM 1 ups)), none, none, none, none, none]) (fun i => some (3, (((lotsP ups.length).take i).map fun lot => (lot, weightM ups lot)).map encW)) (fun d es => es.set 4 (some d)) PassesOwn.never rfl
      (ji_list (jn (jn_call (L.mono (by decide)) hr (ja_cons (j_lenL B.len (jv 0 rfl)) ja_nil) ⟨ups.length, by rw [List.length_map], hlen, rfl⟩ (.inr (flat_tups _))))) (pg_name (i := 4) scWeights.nd rfl (Or.inl rfl)) (fun d _ => tg_name) (fun i m ds z => by cases z; decide) (fun i d hd => ?_)) ?_
    · have hi : i < (lotsP ups.length).length := by
        have := (List.getElem?_eq_some_iff.mp hd).1
        rwa [List.length_map] at this
      have hlz : (lotsP ups.length).length ≤ 1024 := by
        rw [(lotsP_perm _).length_eq]
        exact lots_le hlen
      obtain ⟨lot, hlo⟩ : ∃ lot, (lotsP ups.length)[i]? = some lot := ⟨_, List.getElem?_eq_getElem hi⟩
      rw [List.getElem?_map, hlo] at hd
      cases hd
      refine js_cons (js_set 5 scWeights.nd j_int (by intro _ _ z; cases z; decide)) ?_
      have ew : ((lotsP ups.length).take (i + 1)).map (fun lot => (lot, weightM ups lot)) = ((lotsP ups.length).take i).map (fun lot => (lot, weightM ups lot)) ++ [(lot, weightM ups lot)] := by
        rw [List.take_add_one, hlo, List.map_append]
        rfl
      rw [ew]
      generalize hacc : ((lotsP ups.length).take i).map (fun lot => (lot, weightM ups lot)) = acc
      have hal : acc.length ≤ 1024 := by
        rw [← hacc, List.length_map]
        exact Nat.le_trans (List.length_take_le _ _) (by omega)
      refine js_cons (js_for (ds := enumD (ups.map fr)) (js := [6, 2]) (fun m => [some (.list (ups.map fr)), some (.int (underM 1 ups)), none, none, some (tup lot), some (.int ((ups.zipIdx.take m).foldl (wStep lot) 1)), none]) (fun _ => some (3, acc.map encW)) (fun d es => match d with | .tuple [a, b] => (es.set 6 (some a)).set 2 (some b) | _ => es) PassesOwn.never rfl
        (ji_enum B.enumerate (jv 0 rfl)) (pg_tup rfl (pgs_cons (pg_name (i := 6) scWeights.nd rfl (Or.inl rfl)) (pgs_cons (pg_name (i := 2) scWeights.nd rfl (Or.inl rfl)) pgs_nil))) (fun d hd => ?_) (fun _ _ _ z => by cases z; decide) (fun m d hd => ?_)) ?_
      · unfold enumD at hd
        obtain ⟨q, _, rfl⟩ := List.mem_map.mp hd
        exact tg_two
      · have hm : m < ups.length := by
          have := (List.getElem?_eq_some_iff.mp hd).1
          rwa [enumD_len, List.length_map] at this
        obtain ⟨q, hq⟩ : ∃ q, ups[m]? = some q := ⟨_, List.getElem?_eq_getElem hm⟩
        have hqm : (ups.map fr)[m]? = some (fr q) := by rw [List.getElem?_map, hq]; rfl
        rw [enumD_get hqm] at hd
        cases hd
        have hz : ups.zipIdx[m]? = some (q, m) := by rw [List.getElem?_zipIdx, hq]; simp
        have hsm := hs q (List.mem_of_getElem? hq)
        rw [fold_more (g := wStep lot) hz]
        refine js_le (js_one (js_mulBy 5 scWeights.nd rfl (n := facM lot (q, m)) (j_ifExp (x := lot.contains (m : Int)) (jt_inT (jv 6 rfl) (jv 4 rfl)) (fun z => ?_) (fun z => ?_)) (cmulR (facM_small (q := (q, m)) hsm)) (by intro _ _ z; cases z; decide))) (Le.keep (Le.keep (Le.drop (Le.keep (Le.keep (Le.keep (Le.drop Le.nil)))))))
        · unfold facM
          rw [if_pos z]
          exact j_ixT (jv 2 rfl) j_int rfl
        · unfold facM
          rw [if_neg (by rw [z]; decide)]
          exact j_sub (j_ixT (jv 2 rfl) j_int rfl) (j_ixT (jv 2 rfl) j_int rfl)
      · rw [enumD_len, List.length_map]
        have ef : ((ups.zipIdx.take ups.length).foldl (wStep lot) 1) = weightM ups lot := by
          rw [List.take_of_length_le (by rw [List.length_zipIdx]; exact Nat.le_refl _)]
          rfl
        rw [ef]
        refine js_le (js_to (js_one (js_append 3 rfl (j_tup (ja_cons (jv 4 rfl) (ja_cons (jv 5 rfl) ja_nil))) (by rw [List.length_map]; omega))) ?_ rfl) (Le.keep (Le.keep (Le.keep (Le.keep (Le.drop (Le.drop (Le.keep Le.nil)))))))
        rw [List.map_append]
        rfl
    · rw [List.length_map, List.take_length]
      exact jr_rel (jr_ret (j_tup (ja_cons (jv 3 rfl) (ja_cons (jv 1 rfl) ja_nil))) rfl)
def RNeed (ds : List PyData) (d : PyData) : Prop := ∃ (votes : List Int) (u : Nat) (ws : List (List Int × Int)) (share : Int × Int), ds = [tup votes, .int (u : Int), .list (ws.map encW), fr share] ∧ ws ≠ [] ∧ ws.length ≤ 1100 ∧ (∀ q ∈ ws, (∀ c ∈ q.1, 0 ≤ c ∧ c < votes.length) ∧ q.1.length ≤ 1000) ∧ votes.length ≤ 1000 ∧ (0 ≤ votes.sum ∧ votes.sum ≤ 1000) ∧ SmallP share ∧ d = needD (needM votes u ws share)
theorem scNeed : FnScope ["votes", "unruly", "weights", "share", "tallies", "lot", "over", "whole", "best", "need", "writable", "readable", "worth", "sure"] ["votes", "unruly", "weights", "share"] (defScope (topS 39)) := ⟨rfl, rfl, rfl, by decide +kernel, rfl, by decide +kernel, by decide +kernel⟩
theorem ok_need (F : Fun K "best_need" "best_need" (topS 39) f fd) (hm : mg "best_need" = some (.ref f)) (B : Bz mg) (S : Fd P w K mg base 1 "votes_in" (spD T RSum)) (Y : Fd P w K mg base 1 "by_votes" (spN T RBy)) : Fd P w K mg base 2 "best_need" (spD T RNeed) := by
  refine fd_D F scNeed hm (F.binds fun _ _ _ _ _ _ us hl => match us, hl with | [_, _, _, _], _ => rfl) (fun ds d h => by obtain ⟨_, _, _, _, rfl, _⟩ := h; rfl) fun cdv A outer s H E hr ds d h => ?_
  obtain ⟨votes, u, ws, share, rfl, hne, hlen, hin, hvl, ⟨hv0, hvs⟩, hs2, rfl⟩ := h
  refine jr_create 4 (ps_set scNeed.nd rfl (Or.inl rfl) (jn_lst ja_nil)) (by show 4 < 14; decide) ?_
  refine jr_cons (js_for (ds := ws.map encW) (js := [5, 6]) (fun _ => [some (tup votes), some (.int (u : Int)), some (.list (ws.map encW)), some (fr share), none, none, none, none, none, none, none, none, none, none]) (fun i => some (4, ((ws.take i).map (tallyM votes u)).map encT)) (fun d es => match d with | .tuple [a, b] => (es.set 5 (some a)).set 6 (some b) | _ => es) PassesOwn.never rfl
    (ji_list (jv 2 rfl)) (pg_tup rfl (pgs_cons (pg_name (i := 5) scNeed.nd rfl (Or.inl rfl)) (pgs_cons (pg_name (i := 6) scNeed.nd rfl (Or.inl rfl)) pgs_nil))) (fun d hd => ?_) (fun _ _ _ z => by cases z; decide) (fun i d hd => ?_)) ?_
  · obtain ⟨q, _, rfl⟩ := List.mem_map.mp hd
    exact tg_two
  · have hi : i < ws.length := by
      have := (List.getElem?_eq_some_iff.mp hd).1
      rwa [List.length_map] at this
    obtain ⟨q, hq⟩ : ∃ q, ws[i]? = some q := ⟨_, List.getElem?_eq_getElem hi⟩
    rw [List.getElem?_map, hq] at hd
    cases hd
    obtain ⟨hq1, hq2⟩ := hin q (List.mem_of_getElem? hq)
    have hby : ∀ c ∈ (byM votes q.1).take u, 0 ≤ c ∧ c < votes.length := fun c hc => hq1 c ((byM_perm _ _).mem_iff.mp (List.mem_of_mem_take hc))
    have hbl : ((byM votes q.1).take u).length ≤ 1000 := by
      have := (byM_perm votes q.1).length_eq
      rw [List.length_take]
      omega
    refine js_cons (js_set 7 scNeed.nd (j_call (S.mono (by decide)) hr (ja_cons (jv 0 rfl) (ja_cons (jv 5 rfl) ja_nil)) ⟨votes, q.1, _, rfl, .inl rfl, hq1, hq2, rfl⟩) (by intro _ _ z; cases z; decide)) ?_
    refine js_le (js_to (js_one (js_append 4 rfl (j_tup (ja_cons (jv 7 rfl) (ja_cons (j_sub (jv 7 rfl) (j_call (S.mono (by decide)) hr (ja_cons (jv 0 rfl) (ja_cons (jn (jn_sliceTo (jn (jn_call (Y.mono (by decide)) hr (ja_cons (jv 0 rfl) (ja_cons (jv 5 rfl) ja_nil)) ⟨votes, q.1, rfl, hq1, hq2, hvl, rfl⟩ (.inr (flat_ints2 _)))) (jv 1 rfl))) ja_nil)) ⟨votes, (byM votes q.1).take u, _, rfl, .inr (by rw [List.map_take]), hby, hbl, rfl⟩)) (ja_cons (jv 6 rfl) ja_nil)))) ?_)) ?_ rfl)
      (Le.keep (Le.keep (Le.keep (Le.keep (Le.keep (Le.drop (Le.drop (Le.drop (Le.keep (Le.keep (Le.keep (Le.keep (Le.keep (Le.keep Le.nil))))))))))))))
    · rw [List.length_map, List.length_map]
      have := List.length_take_le i ws
      omega
    · rw [List.take_add_one, hq, List.map_append, List.map_append]
      rfl
  · rw [List.length_map, List.take_length]
    refine jr_rel ?_
    have htl : (ws.map (tallyM votes u)).length ≤ 1100 := by rw [List.length_map]; exact hlen
    have htne : ws.map (tallyM votes u) ≠ [] := fun z => hne (List.map_eq_nil_iff.mp z)
    unfold needM
    generalize ws.map (tallyM votes u) = ts at htl htne ⊢
    have en : (votes.sum + 1 - 1).toNat = votes.sum.toNat := by omega
    refine jr_cons (js_set 8 scNeed.nd j_non) ?_
    refine jr_cons (js_for (ds := rng 1 votes.sum.toNat) (js := [9]) (g := gName 9) (fun i => [some (tup votes), some (.int (u : Int)), some (.list (ws.map encW)), some (fr share), some (.list (ts.map encT)), none, none, none, some (needD ((List.range i).foldl (ndStep ts (ts.getLastD (0, 0, 0)) votes.sum share) none)), none, none, none, none, none]) (fun _ => none) (fun d es => es.set 9 (some d)) PassesOwn.never rfl
      (ji_range2 (i := 1) (j := votes.sum + 1) B.range (by omega) (by omega) en j_int (j_add (j_sumT rfl B.sum (jv 0 rfl)) j_int)) (pg_name (i := 9) scNeed.nd rfl (Or.inr rfl)) (fun d _ => tg_name) (fun _ _ _ z => nomatch z) (fun i d hd => ?_)) ?_
    · have hi : i < votes.sum.toNat := by
        have := (List.getElem?_eq_some_iff.mp hd).1
        rwa [rng_len] at this
      rw [rng_get hi] at hd
      cases hd
      rw [List.range_succ, List.foldl_append]
      show JSs _ _ _ _ _ _ _ [_, _, _, _, _, _, _, _, some (needD (ndStep ts (ts.getLastD (0, 0, 0)) votes.sum share ((List.range i).foldl (ndStep ts (ts.getLastD (0, 0, 0)) votes.sum share) none) i)), _, _, _, _, _]
      generalize (List.range i).foldl (ndStep ts (ts.getLastD (0, 0, 0)) votes.sum share) none = b
      have hlast := at_last (g := encT) (z := (0, 0, 0)) htne
      generalize ts.getLastD (0, 0, 0) = last at hlast ⊢
      unfold ndStep
      dsimp only
      by_cases c : votes.sum - (1 + (i : Nat)) < last.2.1
      · rw [if_pos c]
        refine js_one (js_if (jt_gt (j_ixT (j_ixL (jv 4 rfl) (j_neg j_int) hlast) j_int rfl) (j_sub (j_sumT rfl B.sum (jv 0 rfl)) (jv 9 rfl))) (fun _ => ?_) (fun z => by rw [decide_eq_true c] at z; cases z))
        refine js_cons (js_set 10 scNeed.nd (d := .int (writM ts (1 + (i : Nat)))) (j_sum rfl B.sum (j_as (jn (jn_lc ts encT (fun t => decide ((1 + (i : Nat) : Int) ≤ t.1)) (fun t => .int t.2.2) (fun t es => ((es.set 7 (some (.int t.1))).set 13 (some (.int t.2.1))).set 6 (some (.int t.2.2))) (own := [("whole", 7), ("sure", 13), ("over", 6)]) (js := [7, 13, 6]) rfl scNeed.nd (ji_list (jv 4 rfl)) (blkOk_by (by kernel_rfl))
          (fun s H C cl fp => pg_tup rfl (pgs_cons (pg_name (i := 7) scNeed.nd rfl (Or.inl rfl)) (pgs_cons (pg_name (i := 13) scNeed.nd rfl (Or.inl rfl)) (pgs_cons (pg_name (i := 6) scNeed.nd rfl (Or.inl rfl)) pgs_nil)))) (fun a _ => tg_three) (fun j hj => by simpa using hj) (fun _ _ z => nomatch z)
          (fun a ha s H C cl fp => jts_one (jt_ge (jv 7 rfl) (jv 9 rfl))) (fun a ha _ s H C cl fp => jv 6 rfl) (fun a _ _ => rfl) (by omega))) (by rw [List.map_map]; rfl)))) ?_
        refine js_cons (js_set 11 scNeed.nd (d := .int (readM ts votes.sum (1 + (i : Nat)))) (j_sum rfl B.sum (j_as (jn (jn_lc ts encT (fun t => decide (votes.sum - (1 + (i : Nat) : Int) < t.2.1)) (fun t => .int t.2.2) (fun t es => ((es.set 7 (some (.int t.1))).set 13 (some (.int t.2.1))).set 6 (some (.int t.2.2))) (own := [("whole", 7), ("sure", 13), ("over", 6)]) (js := [7, 13, 6]) rfl scNeed.nd (ji_list (jv 4 rfl)) (blkOk_by (by kernel_rfl))
          (fun s H C cl fp => pg_tup rfl (pgs_cons (pg_name (i := 7) scNeed.nd rfl (Or.inl rfl)) (pgs_cons (pg_name (i := 13) scNeed.nd rfl (Or.inl rfl)) (pgs_cons (pg_name (i := 6) scNeed.nd rfl (Or.inl rfl)) pgs_nil)))) (fun a _ => tg_three) (fun j hj => by simpa using hj) (fun _ _ z => nomatch z)
          (fun a ha s H C cl fp => jts_one (jt_gt (jv 13 rfl) (j_sub (j_sumT rfl B.sum (jv 0 rfl)) (jv 9 rfl)))) (fun a ha _ s H C cl fp => jv 6 rfl) (fun a _ _ => rfl) (by omega))) (by rw [List.map_map]; rfl)))) ?_
        refine js_cons (js_set 12 scNeed.nd (d := .int (mixM share (readM ts votes.sum (1 + (i : Nat))) (writM ts (1 + (i : Nat))))) (j_add (j_mul (mix_cmul hs2 _).1 (j_ixT (jv 3 rfl) j_int rfl) (jv 11 rfl)) (j_mul (mix_cmul hs2 _).2 (j_sub (j_ixT (jv 3 rfl) j_int rfl) (j_ixT (jv 3 rfl) j_int rfl)) (jv 10 rfl)))) ?_
        generalize mixM share (readM ts votes.sum (1 + (i : Nat))) (writM ts (1 + (i : Nat))) = x
        cases b with
        | none =>
          exact js_le (js_one (js_if (k := true) (jt_bo (jw_or (x := true) (y := true) (jt_isN (x := .none) (jv 8 rfl)) (fun z => nomatch z))) (fun _ => js_one (js_set 8 scNeed.nd (j_tup (ja_cons (jv 12 rfl) (ja_cons (jv 9 rfl) ja_nil))))) (fun z => nomatch z)))
            (Le.keep (Le.keep (Le.keep (Le.keep (Le.keep (Le.keep (Le.keep (Le.keep (Le.keep (Le.drop (Le.drop (Le.drop (Le.drop (Le.keep Le.nil))))))))))))))
        | some q =>
          by_cases c2 : q.1 < x
          · rw [if_pos (show beatB (some q) x = true from decide_eq_true c2)]
            exact js_le (js_one (js_if (k := false || decide (q.1 < x)) (jt_bo (jw_or (x := false) (y := decide (q.1 < x)) (jt_isN (x := .tuple [.int q.1, .int q.2]) (jv 8 rfl)) (fun _ => jw_or1 (jt_gt (jv 12 rfl) (j_ixT (d := .int q.1) (i := 0) (jv 8 rfl) j_int rfl))))) (fun _ => js_one (js_set 8 scNeed.nd (j_tup (ja_cons (jv 12 rfl) (ja_cons (jv 9 rfl) ja_nil))))) (fun z => by rw [decide_eq_true c2] at z; cases z)))
              (Le.keep (Le.keep (Le.keep (Le.keep (Le.keep (Le.keep (Le.keep (Le.keep (Le.keep (Le.drop (Le.drop (Le.drop (Le.drop (Le.keep Le.nil))))))))))))))
          · rw [if_neg (show ¬ beatB (some q) x = true from fun z => c2 (of_decide_eq_true z))]
            exact js_le (js_one (js_if (k := false || decide (q.1 < x)) (jt_bo (jw_or (x := false) (y := decide (q.1 < x)) (jt_isN (x := .tuple [.int q.1, .int q.2]) (jv 8 rfl)) (fun _ => jw_or1 (jt_gt (jv 12 rfl) (j_ixT (d := .int q.1) (i := 0) (jv 8 rfl) j_int rfl))))) (fun z => absurd (by simpa using z) c2) (fun _ => ⟨rfl, rfl⟩)))
              (Le.keep (Le.keep (Le.keep (Le.keep (Le.keep (Le.keep (Le.keep (Le.keep (Le.keep (Le.drop (Le.drop (Le.drop (Le.drop (Le.keep Le.nil))))))))))))))
      · rw [if_neg c]
        exact js_le (js_one (js_if (jt_gt (j_ixT (j_ixL (jv 4 rfl) (j_neg j_int) hlast) j_int rfl) (j_sub (j_sumT rfl B.sum (jv 0 rfl)) (jv 9 rfl))) (fun z => absurd (of_decide_eq_true z) c) (fun _ => ⟨rfl, rfl⟩)))
          (Le.keep (Le.keep (Le.keep (Le.keep (Le.keep (Le.keep (Le.keep (Le.keep (Le.keep (Le.drop (Le.keep (Le.keep (Le.keep (Le.keep Le.nil))))))))))))))
    · rw [rng_len]
      exact jr_ret (jv 8 rfl) rfl
end
end G
set_option Elab.async false
set_option linter.all false
set_option maxRecDepth 100000
set_option maxHeartbeats 4000000
namespace G
open PySem PySem.Spec PyProof.Rows L2
/-! ### an error whose own __init__ calls its base's and keeps what it was told -/
def eiA (p1 p2 : Pos) : Arguments := { posonlyargs := [], args := [{ arg := "self", annotation := none, pos := p1 }, { arg := "told", annotation := none, pos := p2 }], vararg := none, kwonlyargs := [], kw_defaults := [], kwarg := none, defaults := [] }
def eiB (q1 q2 q3 q4 q5 q6 q7 q8 q9 q10 : Pos) : List Stmt :=
  [.Expr (.Call (.Attribute (.Call (.Name "super" q1) [] [] q2) "__init__" q3) [.Name "told" q4] [] q5) q6, .Assign [.Attribute (.Name "self" q7) "told" q8] (.Name "told" q9) q10]
def eiS : Scope := { kind := .function, names := [(Str.ofString "self", .local), (Str.ofString "told", .local), (Str.ofString "__class__", .free), (Str.ofString "super", .globalImplicit)], isGenerator := false, isCoroutine := false, more := [] }
/-- the written class x at C, its __init__ at fI -/
structure ErT (K : PySem.W.Frag) (mg : Str → Option Value) (P : Program) (x : Str) (C fI : Addr) : Prop where
  gC : mg x = some (.ref C)
  cls : ∃ nm q N bs bm sn sub ab col dd k0 k1 k2 k3 k5, K.lookup C = some (excClassObj nm q C N bs bm true sn sub ab col dd k0 k1 k2 k3 k5 "ValueError.__new__") ∧ PySem.HandSPX.refsVE bm = true
  sa : PySem.W.findIn K (.ref C) "__setattr__" = some (some (.builtin "object.__setattr__"))
  ga : PySem.W.findIn K (.ref C) "__getattribute__" = some (some (.builtin "BaseException.__getattribute__"))
  gg : PySem.W.findIn K (.ref C) "__getattr__" = some none
  noN : PySem.W.findIn K (.ref C) "told" = some none
  iC : PySem.W.findIn K (.ref C) "__init__" = some (some (.ref fI))
  tC : PySem.W.typeIn K (.ref fI) = some (.type "function")
  kC : PySem.W.keepIn K (.ref C) = true
  exC : PySem.W.subIn K (.ref C) (.type "BaseException") = some true
  tyC : PySem.W.typeIn K (.ref C) = some (.type "type")
  hdC : PySem.W.hasDictIn K C = true
  te : PySem.W.exmOne K (.ref C) (.ref C) = some true
  sup : PySem.W.ks_superIn K C C "__init__" = some (some (.builtin "ValueError.__init__"))
  any : PySem.W.nsIn K PySem.cStatics "thirdparty.any" = some none
  slf : PySem.W.mroIn K C (.ref C) = some true
  val : PySem.W.subIn K (.ref C) (.type "ValueError") = some true
  noS : mg "super" = none
  top : (P.main.scope.names.lookup ("super" : Str)).isSome = false
  fn : ∃ (oc : Value) (od : Option Addr) (kV doc pm : Value) (an : Option Addr) (cda cc : Addr) (ct : Value) (osl : Array (Option Value)) (qq : Str) (p1 p2 q1 q2 q3 q4 q5 q6 q7 q8 q9 q10 : Pos),
    K.lookup fI = some ⟨oc, od, .func (PySem.W.ksFn "__init__" qq (eiA p1 p2) (eiB q1 q2 q3 q4 q5 q6 q7 q8 q9 q10) eiS .none kV doc pm an (.ref cda) ct cc), osl⟩ ∧ PySem.W.codeIn K (.ref cda) qq = true ∧
    (∀ L : Addr, ∃ pl, eval (.Call (.Attribute (.Call (.Name "super" q1) [] [] q2) "__init__" q3) [.Name "told" q4] [] q5) (PySem.W.ksEnv qq eiS L fI (.ref cda) cc) = (do
      let ov ← attributeBase (.Call (.Name "super" q1) [] [] q2) "__init__" (PySem.W.ksEnv qq eiS L fI (.ref cda) cc) (eval (.Call (.Name "super" q1) [] [] q2) (PySem.W.ksEnv qq eiS L fI (.ref cda) cc))
      standAt q3.atName
      let (f, first) ← holding [ov] (getMethod ov "__init__" pl)
      callWith q5 f first (backTo q5 (starEach [.Name "told" q4] (PySem.W.ksEnv qq eiS L fI (.ref cda) cc))) [])) ∧
    (∃ ccl cdd vs ccs file tf, K.lookup cda = some ⟨ccl, cdd, .fields vs, ccs⟩ ∧ vs[2]? = some (.str file tf) ∧ ((P.main.file : Str) == file) = true) ∧
    ∃ cl cld csl, K.lookup cc = some ⟨cl, cld, .cell (some (.ref C)), csl⟩
theorem one_sz (v : Value) : [v].length ≤ sizeLine := by
  rw [sizeLine_eq]
  show 1 ≤ 16777216
  decide
/-! the base: its __init__, bound, called -/
section
variable {prog : Program} {w : World} {A : Around} {E : Value → Shared → Prop} {h : Heap} {g : Array GenState} {d : Drawn} {t : Nat} {os : OsState}
variable {nm q : Str} {C N : Addr} {bs bm : List Value} {hdct : Bool} {sn : List Str} {sub : List Value} {ab : Bool} {col : Option Bool} {dd : Option Addr} {k0 k1 k2 k3 k5 : Option Value}
theorem call_mw {u e t0 : Addr} {rest : List Value} {Q : Value → Shared → Prop}
    (hC : h.get? C = some (excClassObj nm q C N bs bm hdct sn sub ab col dd k0 k1 k2 k3 k5 "ValueError.__new__")) (he : h.get? e = some (PySem.HandSPX.excO C t0)) (hu : h.get? u = some (PySem.W.kxs_mw "ValueError.__init__" e)) (hrest : rest.length ≤ sizeLine)
    (hq : ∀ h' t1, (∀ b o, b ≠ e → h.get? b = some o → h'.get? b = some o) → h'.get? e = some (PySem.HandSPX.excO C t1) → Q .none ⟨h', g, d, t, os⟩) :
    wpAny (model prog w) A (call (.ref u) rest) Q E ⟨h, g, d, t, os⟩ := by
  have FB := F.excBase_ValueError
  apply wpAny_call
  apply codeAny_of_tree
  show wpAny _ A.in1 (callAny (.ref u) ⟨rest, []⟩) _ _ _
  simp only [callAny]
  apply wpAny_bind
  refine (wpAny_load hu ?_)
  have e1 : (Value.type "method-wrapper" == Value.type "method" || Value.type "method-wrapper" == Value.type "builtin_function_or_method" || Value.type "method-wrapper" == Value.type "method-wrapper") = true := by decide
  simp only [PySem.W.kxs_mw, e1, if_true]
  apply PySem.W.KFB.if_so (by decide)
  apply wpAny_bind
  refine PySem.W.check_bound_init FB.toExcCallFacts hC he rfl ?_
  refine wpAny_bind (wpAny_pure (wpAny_pure ?_)) |> fun z => z
  refine ⟨plainId_quiet FB.init.plain _, codeAny_builtin FB.initEntry ?_⟩ |> fun z => z
  refine PySem.W.exc_init_tree (cls := .ref C) (t0 := t0) (dv := none) (c2 := .none) (c3 := .none) (b4 := .bool false) he hrest fun h' k z _ => ?_
  exact hq h' _ k z
end
/-- what __init__ leaves of a new error at e -/
structure EiEnd (h h' : Heap) (e C dx t1 : Addr) (v : Value) : Prop where
  keep : ∀ b o, b ≠ e → h.get? b = some o → h'.get? b = some o
  obj : h'.get? e = some { cls := .ref C, dict := some dx, data := .fields #[.ref t1, .none, .none, .none, .bool false, .none] }
  dbig : h.objs.size ≤ dx
  dne : dx ≠ e
  ns : h'.Ns1 dx (fun y => if y = "told" then some v else none)
section
variable {prog : Program} {w : World} {A : Around} {R : Result → Shared → Prop} {s : Shared} {K : PySem.W.Frag} {mg : Str → Option Value} {x : Str} {C fI : Addr}
theorem er_init (T : ErT K mg prog x C fI) {e t0 : Addr} {v : Value} (X : K.In s.heap) (hlim : s.heap.NoLimit) (hg : s.heap.Ns mainGlobals mg) (hb : ∃ mb, s.heap.Ns builtinsNs mb ∧ ∀ x : Str, x ≠ "__name__" → mb x = bootBuiltins x)
    (hx : s.heap.get? e = some (PySem.HandSPX.excO C t0)) (hnx : K.lookup e = none) (hroom : A.depth < recursionLimit) (hq : ∀ h' tk dx t1, EiEnd s.heap h' e C dx t1 v → R (.ok (.ret .none)) { s with heap := h', toks := tk }) :
    codeAny (model prog w) A (.call (.ref fI) ⟨[.ref e, v], []⟩) R s := by
  obtain ⟨oc, od, kV, doc, pm, an, cda, cc, ct, osl, qq, p1, p2, q1, q2, q3, q4, q5, q6, q7, q8, q9, q10, ho, hcd, hev, ⟨ccl, cdd, vs, ccs, file, tf, hcode, hvs, hfile⟩, ⟨cl, cld, csl, hcell⟩⟩ := T.fn
  obtain ⟨nm, q, N, bs, bm, sn, sub, ab, col, dd, k0, k1, k2, k3, k5, hC, hbm⟩ := T.cls
  have hcl : PySem.W.clsIn K C = some { name := nm, bases := bs, mro := .ref C :: bm, ns := N, qualname := q, hasDict := true, slotNames := sn, subclasses := sub, abstract := ab, collection := col, hasDel := false } := by unfold PySem.W.clsIn; rw [hC] <;> rfl
  obtain ⟨mb, hb1, hb2⟩ := hb
  refine PySem.ks_codeAny_call_defAt (binds := [("self", .ref e), ("told", v)]) hroom (X _ _ ho) rfl hlim (PySem.W.codeRec_of X hcd) rfl (BindsTo.of_eq rfl) (show ∀ y ∈ eiS.names, y.2 ≠ .cell by decide)
    (fun y hy => (List.forall_mem_cons.mpr ⟨(rfl : eiS.names.lookup (Str.ofString "self") = some NameKind.local), List.forall_mem_cons.mpr ⟨(rfl : eiS.names.lookup (Str.ofString "told") = some NameKind.local), fun _ z => nomatch z⟩⟩ : ∀ y ∈ [((Str.ofString "self"), Value.ref e), (Str.ofString "told", v)], eiS.names.lookup y.1 = some .local) y hy) (fun h₁ hn k => ?_)
  have hlt : s.heap.objs.size ≠ e := Nat.ne_of_gt (Heap.lt_size hx)
  have X₁ : K.In h₁ := X.keeps k
  have hx₁ := k _ _ hx
  have hf₁ := X₁ _ _ ho
  obtain ⟨pl, hev⟩ := hev s.heap.objs.size
  show PySem.wpAt (model prog w) (A.deeper (PySem.W.ksEnv qq eiS s.heap.objs.size fI (.ref cda) cc)) (.func (eiB q1 q2 q3 q4 q5 q6 q7 q8 q9 q10) (PySem.W.ksEnv qq eiS s.heap.objs.size fI (.ref cda) cc)) (execs (eiB q1 q2 q3 q4 q5 q6 q7 q8 q9 q10) (PySem.W.ksEnv qq eiS s.heap.objs.size fI (.ref cda) cc)) _ _ _
  generalize hA : A.deeper (PySem.W.ksEnv qq eiS s.heap.objs.size fI (.ref cda) cc) = A1
  show PySem.wpAt _ _ (.func (eiB q1 q2 q3 q4 q5 q6 q7 q8 q9 q10) _) (execs [.Expr (.Call (.Attribute (.Call (.Name "super" q1) [] [] q2) "__init__" q3) [.Name "told" q4] [] q5) q6, .Assign [.Attribute (.Name "self" q7) "told" q8] (.Name "told" q9) q10] _) _ _ _
  refine PySem.ks_wpAt_execs_cons (PySem.ks_wpAt_Expr_any (PySem.ks_wpAt_MethodCall ?_ hev))
  refine PySem.ks_wpAt_super_base (by kernel_rfl) (by kernel_rfl) (by decide) rfl hf₁ rfl rfl rfl (X₁ _ _ hcode) rfl hvs hfile T.top ?_
  refine PySem.W.ks_loadName_global rfl (by kernel_rfl) (Calls.loadGlobal_builtin (hg.keeps k) T.noS (hb1.keeps k) ((hb2 _ (by decide)).trans (by decide +kernel)) ⟨rfl, ?_⟩)
  refine wpAny_loadName_free rfl (by kernel_rfl) rfl ⟨_, X₁ _ _ hcell, rfl⟩ ?_
  refine wpAny_loadName_local rfl (by kernel_rfl) hn rfl ?_
  refine PySem.ks_wpAny_isType_cls (X₁ _ _ hC) rfl ⟨rfl, ?_⟩
  obtain ⟨sh, sg, sd, st, sos⟩ := s
  refine PySem.ks_wpAny_call_super (X₁ _ _ hC) rfl hx₁ rfl (fun c z => by cases z) (PySem.W.looks_mroIn X₁ T.slf) (fun h2 hso k2 => ?_)
  have X₂ : K.In h2 := X₁.keeps k2
  have hx₂ := k2 _ _ hx₁
  have I₂ : PySem.W.InstAt h2 e (PySem.HandSPX.excO C t0) C none := ⟨hx₂, rfl, rfl, trivial⟩
  have hs := T.sup
  unfold PySem.W.ks_superIn at hs
  rw [hcl, Option.bind_some] at hs
  refine PySem.W.kxs_getMethod PySem.W.kxs_ValueError hso (PySem.W.looks_opaque X₂ T.any) (l₀ := .ref C :: bm) ((PySem.W.looks_clsIn X₂ hcl).andThen .now) rfl X₂ hs (I₂.type.andThen (PySem.W.looks_subIn X₂ T.val)) (PySem.W.ks_ne X₂ I₂ hcl) (by decide) ?_
  have k3 : ∀ b o, h2.get? b = some o → (h2.push (PySem.W.kxs_mw "ValueError.__init__" e)).get? b = some o := fun b o z => Heap.get?_push_of_some _ z
  have hu : (h2.push (PySem.W.kxs_mw "ValueError.__init__" e)).get? h2.objs.size = some (PySem.W.kxs_mw "ValueError.__init__" e) := Heap.get?_push_size _ rfl
  refine PySem.W.kxs_callWith (i := "ValueError.__init__") (x := e) rfl (Calls.evalArgs_plain (Calls.spliced_cons (wpAny_Name (wpAny_loadName_local rfl (by kernel_rfl) ((hn.keeps k2).keeps k3) rfl (Calls.spliced_nil ⟨hu, ?_⟩)))))
  refine call_mw (k3 _ _ (X₂ _ _ hC)) (k3 _ _ hx₂) hu (one_sz v) fun h4 t1 k4 hx₄ => ?_
  have ne : ∀ {a : Addr} {o : Obj}, K.lookup a = some o → a ≠ e := fun z y => by
    rw [y, hnx] at z
    cases z
  have X₄ : K.In h4 := fun a o z => k4 a o (ne z) (k3 _ _ (X₂ a o z))
  have n4 : h4.Ns sh.objs.size fun y => List.lookup y [(Str.ofString "self", Value.ref e), (Str.ofString "told", v)].reverse := by
    obtain ⟨oL, es, ep, z1, z2⟩ := (hn.keeps k2).keeps k3
    exact ⟨oL, es, ep, k4 _ _ hlt z1, z2⟩
  refine PySem.wpAt_of_wpAny (wpAny_execs_cons (plainObj_wpAny_Assign_Attribute ?_))
  refine wpAny_Name (wpAny_loadName_local rfl (by kernel_rfl) n4 rfl (wpAny_Name (wpAny_loadName_local rfl (by kernel_rfl) n4 rfl ?_)))
  refine PySem.W.set_plain X₄ (ox := PySem.HandSPX.excO C t1) (od := none) ⟨hx₄, rfl, rfl, trivial⟩ T.sa ?_
  refine PySem.HandSPX.exc_osa X₄ hx₄ hcl (show PySem.HandSPX.refsVE (.ref C :: bm) = true from hbm) rfl T.noN (fun h5 tk5 dx k5 dn dne hx5 hn5 => ?_)
  refine wpAny_execs_nil (hq h5 _ dx t1 ⟨fun b o hb z => k5 b o hb (k4 b o hb (k3 _ _ (k2 _ _ (k b o z)))), hx5, ?_, dne, hn5⟩)
  have z1 : sh.objs.size < h4.objs.size := n4.lt
  exact Nat.le_of_lt (Nat.lt_of_lt_of_le z1 dn)
end
end G
set_option Elab.async false
set_option linter.all false
set_option maxRecDepth 100000
set_option maxHeartbeats 4000000
namespace G
open PySem PySem.Spec PyProof.Rows L2
/-! ### a def, read off the head's heap -/
section
variable {K : PySem.W.Frag} {x : Str} {st : Stmt} {f : Addr} {fd : FuncData}
theorem fun_d (F : FunD K x x (defArgs st) (defBody st) (defScope st) [] [] f fd) : Fun K x x st f fd := by
  obtain ⟨oc, od, dV, kV, doc, pm, an, cdv, ct, osl, e, lk, hc, hd, hk⟩ := F.ex
  rcases hd with ⟨_, hd⟩ | ⟨hd, _⟩
  · subst hd
    exact ⟨⟨oc, od, kV, doc, pm, an, cdv, ct, osl, e, lk, hc⟩, F.kp⟩
  · exact absurd rfl hd
theorem func_d {p : He.Defn} (F : Fun K x x st (He.fAd K p) fd) : FunC K x st (He.fAd K p) fd (He.codeOf K p) := by
  obtain ⟨oc, od, kV, doc, pm, an, cdv, ct, osl, e, lk, hc⟩ := F.ex
  obtain ⟨c, ec⟩ := He.codeIn_ref hc
  subst ec
  subst e
  have z := He.codeOf_eq lk rfl
  rw [z]
  exact ⟨⟨oc, od, kV, doc, pm, an, ct, osl, rfl, lk, hc⟩, F.kp⟩
end
/-! ### an error class of the text, read off the head's heap -/
def errB (K : PySem.W.Frag) (C : Addr) : Bool := match K.lookup C with
  | some ⟨.type c, _, .cls cd, sl⟩ => decide (c = "type") && (match cd.mro, sl.toList with
    | .ref D :: bm, [_, _, _, _, some (.builtin n), _] => (decide (D = C) && decide (n = "ValueError.__new__")) && ((!cd.hasDel && cd.hasDict) && PySem.HandSPX.refsVE bm)
    | _, _ => false)
  | _ => false
theorem errB_ok {K : PySem.W.Frag} {C : Addr} (h : errB K C = true) : ∃ nm q N bs bm sn sub ab col dd k0 k1 k2 k3 k5, K.lookup C = some (excClassObj nm q C N bs bm true sn sub ab col dd k0 k1 k2 k3 k5 "ValueError.__new__") ∧ PySem.HandSPX.refsVE bm = true := by
  unfold errB at h
  split at h
  · rename_i c dd cd sl lk
    obtain ⟨h1, h2⟩ := He.ba h
    have ec := of_decide_eq_true h1
    split at h2
    · rename_i D bm k0 k1 k2 k3 n k5 hm hs
      obtain ⟨h3, h4⟩ := He.ba h2
      obtain ⟨h5, h6⟩ := He.ba h3
      obtain ⟨h7, h8⟩ := He.ba h4
      obtain ⟨h9, h10⟩ := He.ba h7
      have e5 := of_decide_eq_true h5
      have e6 := of_decide_eq_true h6
      obtain ⟨nm, bs, mro, N, q, hd, sn, sub, ab, col, del⟩ := cd
      dsimp only at hm h9 h10
      have e9 : del = false := by
        cases del with
        | false => rfl
        | true => cases h9
      have es : sl = #[k0, k1, k2, k3, some (.builtin n), k5] := by
        obtain ⟨l⟩ := sl
        simp only at hs
        rw [hs]
      subst hm e9 h10 es ec e5 e6
      exact ⟨nm, q, N, bs, bm, sn, sub, ab, col, dd, k0, k1, k2, k3, k5, lk, h8⟩
    · cases h2
  · cases h
/-- a function with a closure: what of it is written -/
abbrev FnC : Type := Option (Str × Str × Arguments × FuncBody × Scope × Addr × List Str × Addr)
abbrev fnV (nm q : Str) (ps : Arguments) (body : List Stmt) (sc : Scope) : FnC := some (nm, q, ps, .stmts body, sc, mainGlobals, ["__class__"], builtinsNs)
def fnC (K : PySem.W.Frag) (f : Addr) : FnC := match K.lookup f with
  | some ⟨_, _, .func fd, _⟩ => some (fd.name, fd.qualname, fd.params, fd.body, fd.scope, fd.globals, fd.closure.map (·.1), fd.builtins)
  | _ => none
def fileB (K : PySem.W.Frag) (c : Addr) (file : Str) : Bool := match K.lookup c with
  | some ⟨_, _, .fields vs, _⟩ => (match (vs[2]? : Option Value) with
    | some (.str y _) => decide (y = file)
    | _ => false)
  | _ => false
theorem fileB_ok {K : PySem.W.Frag} {c : Addr} {file : Str} (h : fileB K c file = true) : ∃ ccl cdd vs ccs tf, K.lookup c = some ⟨ccl, cdd, .fields vs, ccs⟩ ∧ vs[2]? = some (.str file tf) := by
  unfold fileB at h
  split at h
  · rename_i ccl cdd vs ccs lk
    split at h
    · rename_i y tf e
      rw [of_decide_eq_true h] at e
      exact ⟨ccl, cdd, vs, ccs, tf, lk, e⟩
    · cases h
  · cases h
def cellIs (K : PySem.W.Frag) (cc C : Addr) : Bool := match K.lookup cc with
  | some ⟨_, _, .cell (some (.ref D)), _⟩ => decide (D = C)
  | _ => false
theorem cellIs_ok {K : PySem.W.Frag} {cc C : Addr} (h : cellIs K cc C = true) : ∃ cl cld csl, K.lookup cc = some ⟨cl, cld, .cell (some (.ref C)), csl⟩ := by
  unfold cellIs at h
  split at h
  · rename_i cl cld D csl lk
    rw [of_decide_eq_true h] at lk
    exact ⟨cl, cld, csl, lk⟩
  · cases h
def closB (K : PySem.W.Frag) (C f : Addr) (q file : Str) : Bool := match K.lookup f with
  | some ⟨_, _, .func fd, _⟩ => (match fd.closure, fd.defaults, fd.code with
    | [(_, cc)], .none, .ref cda => (PySem.W.codeIn K (.ref cda) q && fileB K cda file) && cellIs K cc C
    | _, _, _ => false)
  | _ => false
/-- the __init__ of an error: all that is asked of the function -/
theorem init_ok {K : PySem.W.Frag} {C f : Addr} {nm q file : Str} {ps : Arguments} {body : List Stmt} {sc : Scope} (e : fnC K f = fnV nm q ps body sc) (h : closB K C f q file = true) :
    ∃ (oc : Value) (od : Option Addr) (kV doc pm : Value) (an : Option Addr) (cda cc : Addr) (ct : Value) (osl : Array (Option Value)), K.lookup f = some ⟨oc, od, .func (PySem.W.ksFn nm q ps body sc .none kV doc pm an (.ref cda) ct cc), osl⟩ ∧
      PySem.W.codeIn K (.ref cda) q = true ∧ (∃ ccl cdd vs ccs tf, K.lookup cda = some ⟨ccl, cdd, .fields vs, ccs⟩ ∧ vs[2]? = some (.str file tf)) ∧ ∃ cl cld csl, K.lookup cc = some ⟨cl, cld, .cell (some (.ref C)), csl⟩ := by
  unfold fnC at e
  unfold closB at h
  split at h
  · rename_i oc od fd osl lk
    rw [lk] at e
    obtain ⟨n1, n2, n3, n4, n5, n6, n7, n8, n9, n10, n11, n12, n13, n14, n15⟩ := fd
    have e2 : (some (n1, n2, n3, n4, n5, n6, n7.map (·.1), n15) : FnC) = fnV nm q ps body sc := e
    simp only [Option.some.injEq, Prod.mk.injEq] at e2
    obtain ⟨h1, h2, h3, h4, h5, h6, h7, h8⟩ := e2
    subst h1 h2 h3 h4 h5 h6 h8
    dsimp only at h
    split at h
    · rename_i y cc cda
      have ey : y = "__class__" := List.cons.inj h7 |>.1
      subst ey
      obtain ⟨g1, g2⟩ := He.ba h
      obtain ⟨g3, g4⟩ := He.ba g1
      exact ⟨oc, od, n9, n10, n11, n12, cda, cc, n14, osl, lk, g3, fileB_ok g4, cellIs_ok g2⟩
    · cases h
  · cases h
/-- what is asked of an error class, besides its __init__'s text -/
def erL (K : PySem.W.Frag) (P : Program) (x q : Str) : List Bool :=
  [errB K (He.ga K x), He.eqO (PySem.W.findIn K (.ref (He.ga K x)) "__setattr__") (some (some (.builtin "object.__setattr__"))), He.eqO (PySem.W.findIn K (.ref (He.ga K x)) "__getattribute__") (some (some (.builtin "BaseException.__getattribute__"))),
    He.eqO (PySem.W.findIn K (.ref (He.ga K x)) "__getattr__") (some none), He.eqO (PySem.W.findIn K (.ref (He.ga K x)) "told") (some none), He.eqO (PySem.W.findIn K (.ref (He.ga K x)) "__init__") (some (some (.ref (He.ma K (He.ga K x) "__init__")))),
    decide (PySem.W.typeIn K (.ref (He.ma K (He.ga K x) "__init__")) = some (.type "function")), PySem.W.keepIn K (.ref (He.ga K x)), decide (PySem.W.subIn K (.ref (He.ga K x)) (.type "BaseException") = some true), decide (PySem.W.typeIn K (.ref (He.ga K x)) = some (.type "type")),
    PySem.W.hasDictIn K (He.ga K x), decide (PySem.W.exmOne K (.ref (He.ga K x)) (.ref (He.ga K x)) = some true), He.eqO (PySem.W.ks_superIn K (He.ga K x) (He.ga K x) "__init__") (some (some (.builtin "ValueError.__init__"))), He.eqO (PySem.W.nsIn K PySem.cStatics "thirdparty.any") (some none),
    decide (PySem.W.mroIn K (He.ga K x) (.ref (He.ga K x)) = some true), decide (PySem.W.subIn K (.ref (He.ga K x)) (.type "ValueError") = some true), closB K (He.ga K x) (He.ma K (He.ga K x) "__init__") q P.main.file]
def erB (K : PySem.W.Frag) (P : Program) (x q : Str) : Bool := (erL K P x q).all fun b => b
theorem super_ev {p1 p2 p3 p4 p5 : Pos} {env : Env} (hl : (p3.endLine == p5.line) = true) : ∃ pl, eval (.Call (.Attribute (.Call (.Name "super" p1) [] [] p2) "__init__" p3) [.Name "told" p4] [] p5) env = (do
      let ov ← attributeBase (.Call (.Name "super" p1) [] [] p2) "__init__" env (eval (.Call (.Name "super" p1) [] [] p2) env)
      standAt p3.atName
      let (f, first) ← holding [ov] (getMethod ov "__init__" pl)
      callWith p5 f first (backTo p5 (starEach [.Name "told" p4] env)) []) :=
  ⟨plainOf _ _, (PySem.arm_eval_Call _ _ _ _ _ _ _).trans (congrArg (bind _) (funext fun ov => congrArg (bind _) (funext fun _ => mcall_line rfl hl)))⟩
theorem er_ok {K : PySem.W.Frag} {P : Program} {h : Heap} {mg : Str → Option Value} {x q : Str} {p1 p2 q1 q2 q3 q4 q5 q6 q7 q8 q9 q10 : Pos} (X : K.In h) (G : h.Ns mainGlobals mg) (cx : (He.Fa.glo x).ok K = true) (cs : (He.Fa.free "super").ok K = true) (hb : erB K P x q = true)
    (e : fnC K (He.ma K (He.ga K x) "__init__") = fnV "__init__" q (eiA p1 p2) (eiB q1 q2 q3 q4 q5 q6 q7 q8 q9 q10) eiS) (hl : (q3.endLine == q5.line) = true) (top : (P.main.scope.names.lookup ("super" : Str)).isSome = false) :
    ErT K mg P x (He.ga K x) (He.ma K (He.ga K x) "__init__") := by
  have g : ∀ (i : Nat) (b : Bool), (erL K P x q)[i]? = some b → b = true := fun i b z => List.all_eq_true.mp hb b (List.mem_of_getElem? z)
  obtain ⟨oc, od, kV, doc, pm, an, cda, cc, ct, osl, lk, hc, ⟨ccl, cdd, vs, ccs, tf, h1, h2⟩, h3⟩ := init_ok e (g 16 _ rfl)
  exact
    { gC := He.glo_ok X G cx, cls := errB_ok (g 0 _ rfl), sa := He.eqO_ok (g 1 _ rfl), ga := He.eqO_ok (g 2 _ rfl), gg := He.eqO_ok (g 3 _ rfl), noN := He.eqO_ok (g 4 _ rfl), iC := He.eqO_ok (g 5 _ rfl), tC := of_decide_eq_true (g 6 _ rfl), kC := g 7 _ rfl,
      exC := of_decide_eq_true (g 8 _ rfl), tyC := of_decide_eq_true (g 9 _ rfl), hdC := g 10 _ rfl, te := of_decide_eq_true (g 11 _ rfl), sup := He.eqO_ok (g 12 _ rfl), any := He.eqO_ok (g 13 _ rfl), slf := of_decide_eq_true (g 14 _ rfl), val := of_decide_eq_true (g 15 _ rfl),
      noS := He.free_ok X G cs, top := top,
      fn := ⟨oc, od, kV, doc, pm, an, cda, cc, ct, osl, q, p1, p2, q1, q2, q3, q4, q5, q6, q7, q8, q9, q10, lk, hc, fun L => super_ev hl, ⟨ccl, cdd, vs, ccs, _, tf, h1, h2, beq_self_eq_true _⟩, h3⟩ }
/-! ### the Hook: what is looked at behind the top -/
/-- an error's __init__: the class, the qualified name, the text -/
structure ErD where
  x : Str
  q : Str
  params : Arguments
  body : List Stmt
  scope : Scope
def ErD.val (d : ErD) : FnC := fnV "__init__" d.q d.params d.body d.scope
def ErD.obs (K : PySem.W.Frag) (d : ErD) : FnC := fnC K (He.ma K (He.ga K d.x) "__init__")
/-- what the module's names reach, and the statics -/
def KG (n : Nat) (g : Addr → Option Obj) : PySem.W.Frag := He.frT g (PySem.cStatics :: He.asD g n)
abbrev AlG : Type := He.AlX × List FnC
section
variable (n : Nat) (fa : List He.Fa) (fn : List He.DefD) (tf : List He.Defn) (ex : PySem.W.Frag → Bool) (er : List ErD)
def obsG (g : Addr → Option Obj) : AlG := ((He.obsT fa fn [] (KG n g), ex (KG n g) && He.tabsB g tf (KG n g)), er.map fun d => d.obs (KG n g))
def valG (w : World) : AlG := (He.valX fn [] w, er.map ErD.val)
/-- what is told of K, the part of the heap h -/
structure SaysG (w : World) (h : Heap) (K : PySem.W.Frag) : Prop where
  x : He.SaysX fa fn [] tf ex w h K
  er : (er.map fun d => d.obs K) = er.map ErD.val
variable {n fa fn tf ex er}
theorem saysG_of {w : World} {h : Heap} (e : obsG n fa fn tf ex er h.get? = valG fn er w) : SaysG fa fn tf ex er w h (KG n h.get?) := by
  have e1 : He.obsT fa fn [] (KG n h.get?) = He.valT fn [] w := congrArg (fun z : AlG => z.1.1) e
  have e2 : (ex (KG n h.get?) && He.tabsB h.get? tf (KG n h.get?)) = true := congrArg (fun z : AlG => z.1.2) e
  obtain ⟨h1, h2⟩ := He.ba e2
  have key : ∀ p ∈ tf, PySem.W.codeHdIn (KG n h.get?) (He.cT (KG n h.get?) p).1 (He.cT (KG n h.get?) p).2 = true ∧ ∃ o, h.get? (He.cT (KG n h.get?) p).2 = some o ∧ He.emptyTab o = true := fun p hp => by
    obtain ⟨h3, h4⟩ := He.ba (List.all_eq_true.mp h2 p hp)
    cases q : h.get? (He.cT (KG n h.get?) p).2 with
    | none =>
      rw [q] at h4
      cases h4
    | some o =>
      rw [q] at h4
      exact ⟨h3, o, rfl, h4⟩
  exact ⟨⟨e1, h1, fun p hp => (key p hp).1, fun p hp => (key p hp).2.elim fun o z => He.frT_none z.1 z.2, fun p hp => (key p hp).2.elim fun o z => by rw [z.1, He.emptyTab_eq z.2]⟩, congrArg (fun z : AlG => z.2) e⟩
variable (n fa fn tf ex er)
def hookG : PySem.W.Hook where
  α := AlG
  obs := fun s => obsG n fa fn tf ex er s.heap.get?
  val := fun w => valG fn er w
  says := fun w h => ∃ K : PySem.W.Frag, K.In h ∧ SaysG fa fn tf ex er w h K
  of := fun _ _ e => ⟨_, He.frT_in, saysG_of e⟩
  keeps := fun _ _ _ ⟨K, hK, c⟩ k => ⟨K, PySem.W.Frag.In.keeps hK k, ⟨c.x.t, c.x.more, c.x.hd, c.x.out, fun p hp => k _ _ (c.x.empty p hp)⟩, c.er⟩
variable {n fa fn tf ex er}
theorem obsG_eq {g : Addr → Option Obj} {s : Shared} (h : ∀ a, g a = s.heap.get? a) : obsG n fa fn tf ex er g = (hookG n fa fn tf ex er).obs s := by
  have e : g = s.heap.get? := funext h
  rw [e] <;> rfl
theorem SaysG.err {w : World} {h : Heap} {K : PySem.W.Frag} (c : SaysG fa fn tf ex er w h K) (i : Nat) {d : ErD} (hd : er[i]? = some d := by rfl) : d.obs K = d.val := by
  have e2 : (er.map fun d => d.obs K)[i]? = (er.map ErD.val)[i]? := by rw [c.er]
  rw [List.getElem?_map, List.getElem?_map, hd] at e2
  exact Option.some.inj e2
end
end G
set_option Elab.async false
set_option linter.all false
set_option maxRecDepth 100000
set_option maxHeartbeats 0
namespace G
open PySem PySem.Spec PyProof.Rows L2
/-! ### the head: what the program's top has left -/
abbrev Pw : Program := PySem.Challenge.pw_plainstore_k18_whole_best_counts_and_vot
abbrev Rw : PySem.W.OpenRow := PySem.W.OpenLaw.row PySem.Challenge.rw_plainstore_k18_whole_best_counts_and_vot
def dD (x : Str) (i : Nat) : He.DefD := ⟨(x, none), x, x, defArgs (topS i), defBody (topS i), defScope (topS i), [], []⟩
def initOf (i : Nat) : Stmt := match topS i with
  | .ClassDef _ _ _ b _ _ _ _ _ _ _ => b.getD 0 (.Pass ⟨0, 0, 0, 0⟩)
  | _ => .Pass ⟨0, 0, 0, 0⟩
def eD (x q : Str) (i : Nat) : ErD := ⟨x, q, defArgs (initOf i), defBody (initOf i), defScope (initOf i)⟩
def fnA : List He.DefD := [dD "is_whole" 18, dD "is_number" 19, dD "is_line" 20, dD "greatest_divisor" 23, dD "in_lowest_terms" 24, dD "is_any_fraction" 25, dD "is_fraction" 26, dD "is_chance" 27, dD "votes_in" 31, dD "by_votes" 32, dD "all_lots" 33, dD "are_chances" 34, dD "weights_of" 35, dD "look_at_share" 36, dD "best_counts" 37, dD "tried_votes" 38, dD "best_need" 39, dD "best_votes" 40, dD "_law_pool" 42, dD "_law_take" 43]
def fnB : List He.DefD := [dD "_law_one" 44, dD "_law_all_lots" 45, dD "_law_caught" 46, dD "_law_sum" 47, dD "_law_sure" 48, dD "_law_is_enough" 49, dD "_law_lowered" 50, dD "_law_chance" 51, dD "_law_weight" 52, dD "_law_up" 53, dD "_law_counts" 54, dD "_law_longer" 55, dD "_law_all_votes" 56, dD "_law_worth" 57, dD "_law_votes_due" 58, dD "_law_four_right" 59, dD "law" 60]
def fnL : List He.DefD := fnA ++ fnB
def faA : List He.Fa := [.glo "is_whole", .glo "is_number", .glo "is_line", .glo "greatest_divisor", .glo "in_lowest_terms", .glo "is_any_fraction", .glo "is_fraction", .glo "is_chance", .glo "votes_in", .glo "by_votes", .glo "all_lots", .glo "are_chances", .glo "weights_of", .glo "look_at_share", .glo "best_counts", .glo "tried_votes", .glo "best_need", .glo "best_votes", .glo "_law_pool", .glo "_law_take", .glo "_law_one", .glo "_law_all_lots", .glo "_law_caught", .glo "_law_sum", .glo "_law_sure", .glo "_law_is_enough", .glo "_law_lowered", .glo "_law_chance", .glo "_law_weight", .glo "_law_up", .glo "_law_counts", .glo "_law_longer", .glo "_law_all_votes", .glo "_law_worth", .glo "_law_votes_due", .glo "_law_four_right", .glo "law"]
def faB : List He.Fa := [.glo "NoCount", .glo "NoChances", .glo "NoPast", .glo "NoLot", .glo "NoChange", .glo "NothingBack", .glo "NoCopies", .glo "NoVotes", .glo "NoNeed", .glo "NoEdit", .glo "NoKey", .glo "NoName", .glo "NoMoment", .glo "TooMany"]
def faC : List He.Fa := [.free "isinstance", .free "int", .free "bool", .free "list", .free "tuple", .free "all", .free "abs", .free "len", .free "sum", .free "sorted", .free "range", .free "enumerate", .free "max", .free "min", .free "repr", .free "super"]
def faD : List He.Fa := [.int "MOST_PART" 20, .int "MOST_COPIES" 5, .int "MOST_VOTERS" 4, .int "MOST_TRIED" 3]
def faE : List He.Fa := [.exm "NoChances" "NoCount" false, .exm "NoChances" "NoPast" false, .exm "NoChances" "NoLot" false, .exm "NoChances" "NoChange" false, .exm "NoChances" "NothingBack" false, .exm "NoChances" "NoCopies" false, .exm "NoChances" "NoVotes" false, .exm "NoChances" "NoNeed" false]
def faL : List He.Fa := faA ++ (faB ++ (faC ++ (faD ++ faE)))
def tfL : List He.Defn := [("by_votes", none), ("all_lots", none), ("law", none)]
def erD : List ErD := [eD "NoCount" "NoCount.__init__" 7, eD "NoChances" "NoChances.__init__" 13]
def tbA (K : PySem.W.Frag) (x : Str) : Addr := (He.cT K (x, none)).2
def exL (K : PySem.W.Frag) : Bool := (erB K Pw "NoCount" "NoCount.__init__" && erB K Pw "NoChances" "NoChances.__init__") && (!decide (tbA K "by_votes" = tbA K "all_lots") && (!decide (tbA K "by_votes" = tbA K "law") && !decide (tbA K "all_lots" = tbA K "law")))
def looseA : List Str := ["StoreError", "NoPast", "NoMoment", "NoKey", "NoName", "NoChange", "NoCount", "NoCopies", "NoLot", "NoVotes", "NoNeed", "NoEdit", "NoChances", "NothingBack", "TooMany", "MOST_COPIES", "MOST_PART", "MOST_VOTERS", "MOST_TRIED", "is_whole", "is_number", "is_line", "greatest_divisor", "in_lowest_terms", "is_any_fraction", "is_fraction", "is_chance", "votes_in", "by_votes", "all_lots"]
def looseB : List Str := ["are_chances", "weights_of", "look_at_share", "best_counts", "tried_votes", "best_need", "best_votes", "_law_pool", "_law_take", "_law_one", "_law_all_lots", "_law_caught", "_law_sum", "_law_sure", "_law_is_enough", "_law_lowered", "_law_chance", "_law_weight", "_law_up", "_law_counts", "_law_longer", "_law_all_votes", "_law_worth", "_law_votes_due", "_law_four_right"]
def looseL : List Str := looseA ++ looseB
abbrev hkL : PySem.W.Hook := hookG 4 faL fnL tfL exL erD
def obL (s : PySem.W.SharedT) : AlG := obsG 4 faL fnL tfL exL erD (HandSHeadRun.getT s)
theorem obL_eq (s : PySem.W.SharedT) : obL s = hkL.obs s.abs := obsG_eq (HandSHeadRun.getT_eq s)
theorem runL (w : World) : HandSHeadRun.RunEq Rw (PySem.W.view Rw.prog [60]) hkL obL 30000 looseL w := by
  intro os
  kernel_rfl
end G
set_option Elab.async false
set_option linter.all false
set_option maxRecDepth 100000
set_option maxHeartbeats 4000000
namespace G
open PySem PySem.Spec PyProof.Rows L2
/-- a made error -/
structure EiMade (h h' : Heap) (e C d : Addr) (v : Value) : Prop where
  keep : ∀ b o, h.get? b = some o → h'.get? b = some o
  new : h.objs.size ≤ e
  obj : ∃ oe vs, h'.get? e = some oe ∧ oe.cls = .ref C ∧ oe.dict = some d ∧ oe.data = .fields vs ∧ vs[1]? = some .none
  dbig : h.objs.size ≤ d
  dne : d ≠ e
  ns : h'.Ns1 d (fun y => if y = "told" then some v else none)
section
variable {prog : Program} {w : World} {A : Around} {R : Result → Shared → Prop} {s : Shared} {K : PySem.W.Frag} {mg : Str → Option Value} {x : Str} {C fI : Addr}
theorem er_made (T : ErT K mg prog x C fI) {v : Value} (X : K.In s.heap) (hlim : s.heap.NoLimit) (hg : s.heap.Ns mainGlobals mg) (hb : ∃ mb, s.heap.Ns builtinsNs mb ∧ ∀ x : Str, x ≠ "__name__" → mb x = bootBuiltins x) (hroom : A.depth + 1 < recursionLimit)
    (hq : ∀ h' tk e d, EiMade s.heap h' e C d v → R (.ok (.ret (.ref e))) { s with heap := h', toks := tk }) :
    codeAny (model prog w) A (.call (.ref C) ⟨[v], []⟩) R s := by
  obtain ⟨nm, q, N, bs, bm, sn, sub, ab, col, dd, k0, k1, k2, k3, k5, hC, hbm⟩ := T.cls
  obtain ⟨mb, hb1, hb2⟩ := hb
  obtain ⟨hp, g, dr, tk, os⟩ := s
  have k : ∀ b o, hp.get? b = some o → ((hp.push (PySem.W.kdv_tup [v])).push (PySem.HandSPX.excO C hp.objs.size)).get? b = some o := fun b o e => Heap.get?_push_of_some _ (Heap.get?_push_of_some _ e)
  have hget : ((hp.push (PySem.W.kdv_tup [v])).push (PySem.HandSPX.excO C hp.objs.size)).get? (hp.objs.size + 1) = some (PySem.HandSPX.excO C hp.objs.size) := by heap_get
  have hnx : K.lookup (hp.objs.size + 1) = none := by
    cases e : K.lookup (hp.objs.size + 1) with
    | none => rfl
    | some o =>
      have z : hp.get? (hp.objs.size + 1) = some o := X _ _ e
      exact absurd (Nat.lt_of_succ_lt (Heap.lt_size z)) (Nat.lt_irrefl _)
  refine PySem.HandSPX.call_own F.excBase_ValueError (fun Y => PySem.HandSPX.refsVE_contains Y bm hbm) (X _ _ hC) (PySem.W.looks_findIn X T.iC) (fun self => PySem.W.bind_fn X self T.tC) (one_sz v) ?_
  refine er_init (s := ⟨(hp.push (PySem.W.kdv_tup [v])).push (PySem.HandSPX.excO C hp.objs.size), g, dr, tk, os⟩) T (X.keeps k) (hlim.keeps k) (hg.keeps k) ⟨mb, hb1.keeps k, hb2⟩ hget hnx ?_ fun h' tk' dx t1 ⟨k', hx, dn, dne, hns⟩ => ?_
  · show A.depth + 1 < recursionLimit
    exact hroom
  · have old : ∀ b o, hp.get? b = some o → h'.get? b = some o := fun b o e => k' b o (Nat.ne_of_lt (Nat.lt_succ_of_lt (Heap.lt_size e))) (k b o e)
    have z : hp.objs.size + 1 + 1 ≤ dx := by
      first
        | (simpa only [Heap.size_push] using dn)
        | exact dn
        | (have q := dn; rw [Heap.size_push, Heap.size_push] at q; exact q)
    exact ⟨rfl, hq h' tk' (hp.objs.size + 1) dx ⟨old, Nat.le_succ _, ⟨_, _, hx, rfl, rfl, rfl, rfl⟩, Nat.le_trans (Nat.le_trans (Nat.le_succ _) (Nat.le_succ _)) z, dne, hns⟩⟩
end
theorem relO_told {v : V} {v' : Value} (r : RelV v v') (f : Str) : RelO (List.lookup f [(("told" : Str), v)]) (if f = "told" then some v' else none) := by
  by_cases hw : f = "told"
  · subst hw
    rw [if_pos rfl]
    have q : List.lookup ("told" : Str) [(("told" : Str), v)] = some v := by simp [List.lookup]
    rw [q]
    exact r
  · rw [if_neg hw]
    have qw : (f == ("told" : Str)) = false := by simpa using hw
    have q2 : List.lookup f [(("told" : Str), v)] = none := by simp [List.lookup, qw]
    rw [q2]
    trivial
section
variable {X : Cx} {x : Str} {C fI : Addr}
/-- x(e) -/
def tMkEr (C : Addr) (ta : TA) : L2.St → Hp → XK → Prop := fun σ H Q => ta σ H fun vs H1 => ∃ v, vs = [v] ∧ ∀ d, H1 d = none → Q (.ref C) (some d) (upd H1 d (.xd [(("told" : Str), v)]))
theorem pmk_er {a : Expr} {ta : TA} {p pos : Pos} {k : Nat} (T : ErT X.K X.mg X.prog x C fI) (hr : Room k X.A) (ha : PA X [a] ta) (hdb : (x == ("__debug__" : Str)) = false := by decide) (hg : Gl X x := by rfl)
    (he : starEach (a :: []) X.env = (false, eval a X.env) :: starEach [] X.env := by rfl) (hpl : (backTo pos (starEach [] X.env)).any (·.1) = false := by rfl) :
    PMk X (.Call (.Name x p) [a] [] pos) (tMkEr C ta) := by
  intro pins s σ H Q I h
  refine wpAny_Call_Name_kw (ld_glob I hg T.gC ?_ hdb)
  refine PySem.W.callWith_K (h₀ := X.base) I.ok.mod.kin T.kC (thn (ha.run pos pins s σ H _ I h) fun us s1 hh => ?_) he hpl
  obtain ⟨vs, H1, I1, r1, v, ev, q1⟩ := hh
  subst ev
  refine ⟨I1.kIn, ?_⟩
  cases r1 with
  | cons rv rn =>
    rename_i v' us'
    cases rn
    show wpAny _ _ (call (.ref C) [v']) _ _ _
    have hlim := I1.nolimit
    have hgl := I1.ok.mod.glob.keeps I1.bk
    obtain ⟨mb, b1, b2⟩ := I1.ok.mod.blt
    have hbl := b1.keeps I1.bk
    obtain ⟨hp, g, dr, tk, os⟩ := s1
    refine wpAny_call (er_made T I1.kIn hlim hgl ⟨mb, hbl, b2⟩ (by have := hr.dp; omega) fun h' tk' e d M => ?_)
    show MkP X pins σ Q (.ref e) ⟨h', g, dr, tk', os⟩
    obtain ⟨oe, fv, hoe, hc, hd, hdat, h1⟩ := M.obj
    have hns := M.ns
    obtain ⟨G', g1, g2⟩ := restrict h' fun b => decide (b ≠ e)
    have gk : ∀ b, b ≠ e → G'.get? b = h'.get? b := fun b hb => g1 b (decide_eq_true hb)
    have ge : G'.get? e = none := g2 e (by simp)
    have old : ∀ b o, hp.get? b = some o → G'.get? b = some o := fun b o q => (gk b (Nat.ne_of_lt (Nat.lt_of_lt_of_le (Heap.lt_size q) M.new))).trans (M.keep b o q)
    have ob : ObjOk X.prog X.w (upd H1 d (.xd [(("told" : Str), v)])) G' d (.xd [(("told" : Str), v)]) :=
      ⟨_, hns.at (fun o q => (gk d M.dne).trans q), fun f => relO_told rv f⟩
    have J : Inv X pins σ (upd H1 d (.xd [(("told" : Str), v)])) ⟨G', g, dr, tk', os⟩ := I1.laid (t' := tk') old M.dbig ob
    refine ⟨e, oe, fv, ⟨G', g, dr, tk', os⟩, _, .ref C, some d, rfl, J, fun b o q => ?_, ge, hoe, ⟨hc, hd⟩, hdat, h1, ?_, rfl, I1.bare, raises_own T.exC T.tyC, q1 d (I1.hok.fresh M.dbig)⟩
    · by_cases hb : b = e
      · have q' : G'.get? b = some o := q
        rw [hb, ge] at q'; cases q'
      · exact (gk b hb).symm.trans q
    · rw [upd_ne (Ne.symm M.dne)]
      exact I1.hok.fresh M.new
/-- raise x(e) -/
theorem ps_raiseEr {a : Expr} {ta : TA} {W : WX} {p pos pos2 : Pos} {k : Nat} (hc : X.calm = true) (T : ErT X.K X.mg X.prog x C fI) (hr : Room k X.A) (tk : Takes X W) (ha : PA X [a] ta) (hdb : (x == ("__debug__" : Str)) = false := by decide) (hg : Gl X x := by rfl)
    (he : starEach (a :: []) X.env = (false, eval a X.env) :: starEach [] X.env := by rfl) (hpl : (backTo pos (starEach [] X.env)).any (·.1) = false := by rfl) :
    PS X (.Raise (some (.Call (.Name x p) [a] [] pos)) none pos2) (fun _ σ H => tMkEr C ta σ H fun cls d H' => W cls d σ H') := ps_raise hc tk (pmk_er T hr ha hdb hg he hpl)
/-- e.told, e the error that the suite holds (at a; its class cls, its dict d) -/
def tTold (C : Addr) (a : Addr) (cls : Value) (d : Option Addr) (te : TE) : TE := fun σ H Q => te σ H fun x H1 => x = .ref a ∧ cls = .ref C ∧ ∃ (dd : Addr) (v : V), d = some dd ∧ H1 dd = some (.xd [(("told" : Str), v)]) ∧ Q v H1
theorem pe_told {a : Addr} {oe : Obj} {cls : Value} {d : Option Addr} {pn : List (Addr × Obj)} {e : Expr} {te : TE} {pos : Pos} (T : ErT X.K X.mg X.prog x C fI) (hz : Zc cls d oe) (hf : ∃ vs, oe.data = .fields vs) (he : PE (X.suite a ((a, oe) :: pn)) e te)
    (hb : attributeBase e "told" X.env (eval e X.env) = eval e X.env := by rfl) :
    PE (X.suite a ((a, oe) :: pn)) (.Attribute e "told" pos) (tTold C a cls d te) := by
  refine ⟨fun pins s σ H Q I h => ?_⟩
  refine attr_of hb (thn (he.run pins s σ H _ I h) fun u s1 hh => ?_)
  obtain ⟨x, H1, I1, rx, ex, ec, dd, v, ed, ea, q⟩ := hh
  subst ex
  obtain rfl : u = Value.ref a := rx
  subst ec
  subst ed
  obtain ⟨ha, _⟩ := I1.pin (a, oe) (List.mem_append_left _ List.mem_cons_self)
  obtain ⟨vs, hd⟩ := hf
  have hx : ObjOk X.prog X.w H1 s1.heap dd (.xd [(("told" : Str), v)]) := I1.hok dd _ ea
  obtain ⟨mA, hns, hr⟩ := hx
  obtain ⟨od, ho, hl⟩ := lookIn_ns hns
  have l : List.lookup ("told" : Str) [(("told" : Str), v)] = some v := by simp [List.lookup]
  obtain ⟨u, hu, ru⟩ := RelO.some_of (v := v) (o := mA "told") (by rw [← l]; exact hr "told")
  have J : PySem.W.InstAt s1.heap a oe C (some od) := ⟨ha, hz.1, by unfold PySem.W.notCls; rw [hd] <;> rfl, by rw [hz.2]; exact ho⟩
  exact HandSPX.exc_get I1.kIn J T.ga T.gg T.exC (PySem.W.findObj_own T.hdC T.noN rfl (by rw [hl, hu])) (handed_of ru) ⟨v, H1, I1.tok _, ru, q⟩
end
end G
set_option Elab.async false
set_option linter.all false
set_option maxRecDepth 100000
set_option maxHeartbeats 4000000
namespace G
open PySem PySem.Spec PyProof.Rows L2
/-! ### the values of a dict whose keys are tuples -/
def ItvT (d : Addr) (o : Obj) (kvs : List (List Key × V)) : It :=
  ⟨fun i H => H d = some (.frz o (.dT kvs)) ∧ i < kvs.length, fun i H x H' => H' = H ∧ ∃ k, kvs[i]? = some (k, x), fun i H => H d = some (.frz o (.dT kvs)) ∧ kvs.length ≤ i⟩
section
variable {X : Cx} {pins : List (Addr × Obj)} {σ : L2.St} {H : Hp} {s : Shared} {d : Addr} {o : Obj}
theorem frzTv {kvs : List (List Key × V)} (I : Inv X pins σ H s) (h : H d = some (.frz o (.dT kvs))) :
    (d == sysModules) = false ∧ s.heap.get? d = some o ∧ o.ExactDict ∧ ∃ (es : Array DictEntry) (ep : Nat), o.data = .dict es ep ∧ es.size = kvs.length ∧
      ∀ (i : Nat) (k : List Key) (v : V), kvs[i]? = some (k, v) → ∃ hi : i < es.size, RelV v es[i].val := by
  obtain ⟨hd, z, hs, xs, pr, o', es, ep, ho, hx, hdt, he, _⟩ := I.hok d _ h
  have eo := hd.symm.trans ho
  cases eo
  have l1 : es.size = xs.length := size_of_entries he
  have l2 : kvs.length = xs.length := Paired.length pr
  refine ⟨hs, hd, hx, es, ep, hdt, by omega, fun i k v e => ?_⟩
  obtain ⟨b, hb, e1, e2, e3⟩ := paired_get pr e
  have q := entry_at he i
  rw [hb] at q
  obtain ⟨hi, q2⟩ := Array.getElem?_eq_some_iff.mp q
  exact ⟨hi, by rw [q2]; exact e3⟩
end
section
variable {P : Program} {w : World} {K : PySem.W.Frag} {tg : Expr} {d : Addr} {o : Obj} {es : Array DictEntry} {ep : Nat}
theorem turn_valsT {kvs : List (List Key × V)} (it : Addr) (hod : o.data = .dict es ep) : Turn P w K tg (ItvT d o kvs) [it] it (fun i h => h.IsValIter it d i kvs.length ep) := by
  refine ⟨List.mem_singleton.mpr rfl, fun i h st b hb => ?_, fun i h h' st k => ?_, ?_, ?_, fun A i s Q E st h => wpAny_pyIter_valiter st h⟩
  · rw [List.mem_singleton.mp hb]
    obtain ⟨oi, e, c, dd⟩ := st
    exact ⟨oi, e, fun v z => by rw [dd] at z; cases z⟩
  · obtain ⟨oi, e, r⟩ := st
    exact ⟨oi, k it (List.mem_singleton.mpr rfl) _ e, r⟩
  · intro X hP hw hK hc i pins s σ H E I hf st hg
    subst hP hw hK
    obtain ⟨f0, f1, f2, f3, f4, f5⟩ := hf it (List.mem_singleton.mpr rfl)
    obtain ⟨hs, hgd, hx, es', ep', hdt, hsz, ent⟩ := frzTv I hg.1
    obtain ⟨rfl, rfl⟩ := dict_ep hod hdt
    obtain ⟨⟨k, v⟩, hkv⟩ : ∃ p, kvs[i]? = some p := ⟨kvs[i]'hg.2, List.getElem?_eq_getElem hg.2⟩
    obtain ⟨hi, ru⟩ := ent i k v hkv
    rw [← hsz] at st
    refine wpAny_pyNext_values_item_raw st ⟨o, hgd, hx, hdt⟩ hi fun h' st' sb => ?_
    have I1 : Inv X pins σ H { s with heap := h' } := I.turned (t' := s.toks) (fun b ob hb e => (sb.2 b hb).trans e) f0 f1 f3 f4 f5
    obtain ⟨oi, e, c, dd⟩ := id st'
    refine ⟨es'[i].val, rfl, go_of (s := { s with heap := h' }) e c dd (by decide) ⟨v, H, I1, ru, ⟨rfl, k, hkv⟩, ?_, fun b hb => (hf b hb).1⟩⟩
    rw [← hsz]
    exact st'
  · intro X hP hw hK hc i pins s σ H E I hf st hg
    subst hP hw hK
    obtain ⟨f0, f1, f2, f3, f4, f5⟩ := hf it (List.mem_singleton.mpr rfl)
    obtain ⟨hs, hgd, hx, es', ep', hdt, hsz, ent⟩ := frzTv I hg.1
    obtain ⟨rfl, rfl⟩ := dict_ep hod hdt
    rw [← hsz] at st
    exact wpAny_pyNext_values_end_raw (I.ok.hd hc) st ⟨o, hgd, hx, hdt⟩ (by rw [hsz]; exact hg.2) fun h' eb => ⟨rfl, I.turned (t' := s.toks) (fun b ob hb e => eb b ob hb e) f0 f1 f3 f4 f5⟩
end
def iValsT (td : TE) : TI := fun σ H R => td σ H fun x H1 => ∃ d o kvs, x = .ref d ∧ H1 d = some (.frz o (.dT kvs)) ∧ R (ItvT d o kvs) H1
theorem pi_valuesT {X : Cx} {tg e : Expr} {td : TE} {apos cpos : Pos} (he : PE X e td) (hbase : attributeBase e "values" X.env (eval e X.env) = eval e X.env := by rfl) (hline : (apos.endLine == cpos.line) = true := by rfl) : PI X tg (.Call (.Attribute e "values" apos) [] [] cpos) (iValsT td) := by
  refine ⟨fun pins s σ H R I h => ?_⟩
  refine wpAny_Call_method (T := "dict") (id := "dict.values") hbase rfl hline F.plainAttrs_dict F.slot_dict_values F.type_dict_values (thn (he.run pins s σ H _ I h) fun u s1 ⟨x, H1, I1, rx, d, o, kvs, ex, hd, q⟩ => ?_)
  subst ex
  obtain rfl : u = Value.ref d := rx
  obtain ⟨hs, hgd, hx, es, ep, hdt, hsz, ent⟩ := frzTv I1 hd
  have raw : s1.heap.DictRaw d es ep := ⟨o, hgd, hx, hdt⟩
  refine ⟨raw.typeIs, ?_, ?_⟩
  · intro a z
    cases z
    exact ⟨o, hgd, hx.2.1⟩
  have I2 : Inv X pins σ H1 { s1 with heap := s1.heap.push { cls := .type "dict_values", data := .fields #[.ref d] } } := I1.kept (t' := s1.toks) fun b ob q => Heap.get?_push_of_some _ q
  have fin : wpAny (model X.prog X.w) X.A (pyIter (.ref s1.heap.objs.size)) (PIE X pins σ tg R) X.xe { s1 with heap := s1.heap.push { cls := .type "dict_values", data := .fields #[.ref d] } } := by
    refine wpAny_pyIter_values_raw (d := d) ⟨_, Heap.get?_push_size _ rfl, rfl, rfl⟩ (raw.at fun _ z => Heap.get?_push_of_some _ z) (pi_one (tk := s1.toks) I2 _ (turn_valsT _ hdt) ⟨_, Heap.get?_push_size _ rfl, rfl, ?_⟩ q)
    rw [hsz] <;> rfl
  show wpAny _ _ (callWith cpos (.builtin "dict.values") [.ref d] [] []) _ X.xe s1
  exact method_meetsIn F.slot_dict_values F.entry_dict_values rfl (PySem.evalArgs_none ⟨rfl, raw.typeIs, F.args_dict_values_1 _, _, meets_dict_values_raw d hs, ⟨es, ep, raw⟩, fin⟩)
end G
set_option Elab.async false
set_option linter.all false
set_option maxRecDepth 100000
set_option maxHeartbeats 4000000
namespace G
open PySem PySem.Spec PyProof.Rows L2
/-! ### defs that may raise -/
inductive Out
  | ok (d : PyData)
  | err (C : Addr) (d : PyData)
/-- what comes of it: data handed back, or an error of the class at C that was told d -/
def Comes (T : Tl) (H : Hp) (Q : VK) (E : XK) : Out → Prop
  | .ok d => ∀ v H', Up T H H' → Dx H' v d → Q v H'
  | .err C d => ∀ dd v H', Up T H H' → H' dd = some (.xd [(("told" : Str), v)]) → Dx H' v d → E (.ref C) (some dd) H'
def spO (T : Tl) (R : List PyData → Out → Prop) : Sp := fun vs H Q E => LamX.Tabs T H ∧ ∃ ds o, DxAll H vs ds ∧ R ds o ∧ Comes T H Q E o
structure FdX (P : Program) (w : World) (K : PySem.W.Frag) (mg : Str → Option Value) (base : Heap) (k : Nat) (x : Str) (sp : Sp) : Prop where
  ex : ∃ (f : Addr) (fd : FuncData) (ps : List Str), FnOk P w K mg base (L2.CX P w) k f fd ps sp ∧ mg x = some (.ref f) ∧ PySem.W.keepIn K (.ref f) = true ∧ Binds K fd ps []
def tO (T : Tl) (H0 : Hp) (w : Ow) (es : Es) (E : XK) (o : Out) : TS := fun D σ H => At T H0 w es σ H ∧ Comes T H0 D.rt E o
abbrev JO (X : Cx) (T : Tl) (H0 : Hp) (st : List Stmt) (w : Ow) (es : Es) (E : XK) (o : Out) : Prop := PSs X st (tO T H0 w es E o)
theorem Comes.from {T : Tl} {H H1 : Hp} {Q : VK} {E : XK} {o : Out} (u : Up T H H1) (c : Comes T H Q E o) : Comes T H1 Q E o := by
  cases o with
  | ok d => exact fun v H' u2 h => c v H' (u.trans u2) h
  | err C d => exact fun dd v H' u2 h1 h2 => c dd v H' (u.trans u2) h1 h2
section
variable {X : Cx} {T : Tl} {H0 : Hp} {w w1 : Ow} {es es1 : Es} {E : XK} {o o' : Out} {st : Stmt} {rest th : List Stmt} {a e t : Expr} {xs : List Expr} {d : PyData} {ds : List PyData} {p pos pos2 : Pos} {x : Str} {C fI : Addr} {k : Nat}
theorem jo_of (h : JR X T H0 rest w es (RD T H0 d)) : JO X T H0 rest w es E (.ok d) := weakSs h fun D σ H ⟨hA, q⟩ => ⟨hA, fun v H' ⟨u, h⟩ => q v H' u h⟩
theorem jo_ofN (h : JR X T H0 rest w es (RN T H0 ds)) : JO X T H0 rest w es E (.ok (.list ds)) := weakSs h fun D σ H ⟨hA, q⟩ => ⟨hA, fun v H' ⟨p, us, e, hv, u, hp, hd⟩ => by
  subst e
  exact q _ H' u (.lst (.inl hp) (dxa_mono cut_sub _ _ hd))⟩
theorem jo_cons (h1 : JS X T H0 st w es w1 es1) (h2 : JO X T H0 rest w1 es1 E o) : JO X T H0 (st :: rest) w es E o :=
  weakSs (pss_cons h1 h2) fun D σ H ⟨hA, q⟩ => ⟨hA, fun σ1 H1 hA1 _ _ => ⟨hA1, q⟩⟩
theorem jo_if {c : Bool} (hc : JT X T H0 w es t c) (h1 : c = true → JO X T H0 th w es E o) (h2 : c = false → JO X T H0 rest w es E o) : JO X T H0 (.If t th [] pos :: rest) w es E o := by
  cases c with
  | true => exact weakSs (pss_cons (ps_if hc (h1 rfl) pss_nil) pss_never) fun D σ H ⟨hA, q⟩ => ⟨hA, fun H1 u1 => iteT ⟨hA.lift u1, q⟩⟩
  | false => exact weakSs (pss_cons (ps_if hc (pss_never (sts := th)) pss_nil) (h2 rfl)) fun D σ H ⟨hA, q⟩ => ⟨hA, fun H1 u1 => iteF ⟨hA.lift u1, q⟩⟩
/-- raise x(a) -/
theorem jo_raise (hc : X.calm = true) (Er : ErT X.K X.mg X.prog x C fI) (hr : Room k X.A) (tk : Takes X (fun cls d _ H => E cls d H)) (ha : J X T H0 none es a d) (hdb : (x == ("__debug__" : Str)) = false := by decide) (hg : Gl X x := by rfl)
    (he : starEach (a :: []) X.env = (false, eval a X.env) :: starEach [] X.env := by rfl) (hpl : (backTo pos (starEach [] X.env)).any (·.1) = false := by rfl) :
    JO X T H0 [.Raise (some (.Call (.Name x p) [a] [] pos)) none pos2] none es E (.err C d) :=
  weakSs (pss_one (ps_raiseEr hc Er hr tk (ja_cons ha ja_nil he) hdb hg he hpl)) fun D σ H ⟨hA, q⟩ => ⟨hA, fun vs H1 u1 h1 => by
    cases h1 with
    | cons k1 k2 =>
      cases k2
      exact ⟨_, rfl, fun dd hd => q dd _ _ ((hA.up.trans u1).trans (Up.new hd)) upd_same (dx_mono (Up.new (T := T) hd).ext _ _ k1)⟩⟩
/-- x(..) of a def that may raise, as a statement -/
theorem jo_do {R : List PyData → Out → Prop} (F : FdX X.prog X.w X.K X.mg X.base k x (spO T R)) (hr : Room k X.A) (tk : Takes X (fun cls d _ H => E cls d H)) (ha : JA X T H0 none es (a :: xs) ds) (hR : R ds o') (h1 : ∀ d, o' = .ok d → JO X T H0 rest none es E o) (h2 : ∀ C d, o' = .err C d → o = o')
    (hg : Gl X x := by rfl) (hdb : (x == ("__debug__" : Str)) = false := by decide) (he : starEach (a :: xs) X.env = (false, eval a X.env) :: starEach xs X.env := by rfl) (hpl : (backTo pos (starEach xs X.env)).any (·.1) = false := by rfl)
    (hsw : swapsWith (.Call (.Name x p) (a :: xs) [] pos) none pos2.line X.env = pure false := by rfl) :
    JO X T H0 (.Expr (.Call (.Name x p) (a :: xs) [] pos) pos2 :: rest) none es E o := by
  obtain ⟨fa, fd, ps, G, hm, hk, hb⟩ := F.ex
  have hp := pe_call (E := E) (p := p) (pos := pos) G hr hg hm hk hb .nil (passes_call tk fun _ _ _ _ h => h) ha hdb he hpl
  cases o' with
  | ok d' =>
    refine weakSs (pss_cons (ps_expr (pos := pos2) hp hsw) (h1 d' rfl)) fun D σ H ⟨hA, q⟩ => ⟨hA, fun vs H1 u1 g1 => ?_⟩
    show spO T R (vs ++ []) H1 _ E
    rw [List.append_nil]
    exact ⟨(hA.lift u1).tab, ds, _, g1, hR, fun v H2 u2 g2 => ⟨(hA.lift u1).lift u2, q⟩⟩
  | err C d' =>
    have e := h2 C d' rfl
    subst e
    refine weakSs (pss_cons (ps_expr (pos := pos2) hp hsw) pss_never) fun D σ H ⟨hA, q⟩ => ⟨hA, fun vs H1 u1 g1 => ?_⟩
    show spO T R (vs ++ []) H1 _ E
    rw [List.append_nil]
    exact ⟨(hA.lift u1).tab, ds, _, g1, hR, fun dd v H2 u2 g2 g3 => q dd v H2 ((hA.up.trans u1).trans u2) g2 g3⟩
end
section
variable {P : Program} {w : World} {K : PySem.W.Frag} {mg : Str → Option Value} {base : Heap} {T : Tl} {k : Nat} {x : Str} {st : Stmt} {f : Addr} {fd : FuncData} {N ps : List Str}
theorem fd_O {R : List PyData → Out → Prop} (F : Fun K x x st f fd) (S : FnScope N ps (defScope st)) (hm : mg x = some (.ref f)) (hb : Binds K fd ps []) (hlen : ∀ ds o, R ds o → ds.length = ps.length)
    (body : ∀ (cdv : Value) (A : Around) (outer : List Env) (s : Shared) (H : Hp) (E : XK), Room k (A.deeper (envOfC x (defScope st) s.heap.objs.size f cdv)) → ∀ ds o, R ds o → JO (cxOf (L2.CX P w) P w K mg base N x (defScope st) f cdv A outer s H E) T H (defBody st) none (startE N ds) E o) :
    FdX P w K mg base (k + 1) x (spO T R) :=
  ⟨f, fd, ps, F.okX S (fun vs H Q E h => by
    obtain ⟨_, ds, d, h1, h2, _⟩ := h
    rw [dxa_len h1]
    exact hlen ds d h2) (fun cdv A outer s H vs Q E hr h => by
      obtain ⟨t, ds, o, h1, h2, q⟩ := h
      exact ⟨_, body cdv A outer s H E hr ds o h2, at_start t h1, q⟩), hm, F.kp, hb⟩
theorem FdX.mono {j : Nat} {sp : Sp} (F : FdX P w K mg base j x sp) (h : j ≤ k) : FdX P w K mg base k x sp := by
  obtain ⟨f, fd, ps, G, a, b, c⟩ := F.ex
  exact ⟨f, fd, ps, G.mono h, a, b, c⟩
/-! ### look_at_share -/
def RLook (CH : Addr) (ds : List PyData) (o : Out) : Prop := ∃ v, ds = [v] ∧ Fr v ∧ o = if chB v = true then .ok .none else .err CH v
theorem scLook : FnScope ["share"] ["share"] (defScope (topS 36)) := ⟨rfl, rfl, rfl, by decide +kernel, rfl, by decide +kernel, by decide +kernel⟩
theorem ok_look {CH fI : Addr} (F : Fun K "look_at_share" "look_at_share" (topS 36) f fd) (hm : mg "look_at_share" = some (.ref f)) (Er : ErT K mg P "NoChances" CH fI) (Y : Fd P w K mg base 4 "is_chance" (spD T (RFr chB))) : FdX P w K mg base 5 "look_at_share" (spO T (RLook CH)) := by
  refine ⟨f, fd, ["share"], F.okX scLook (fun vs H Q E h => by
    obtain ⟨_, ds, d, h1, ⟨v, h2, _⟩, _⟩ := h
    rw [dxa_len h1, h2]
    rfl) (fun cdv A outer s H vs Q E hr h => ?_), hm, F.kp, F.binds fun _ _ _ _ _ _ us hl => match us, hl with | [_], _ => rfl⟩
  obtain ⟨t, ds, o, h1, ⟨v, h2, hv, h3⟩, q⟩ := h
  subst h2 h3
  have hA := at_start (N := ["share"]) t h1
  cases hc : chB v with
  | true =>
    rw [hc] at q
    refine ⟨_, pss_one (ps_if (jt_as (d := !chB v) (jt_not (jt_val (j_call Y hr (ja_cons (jv 0 rfl) ja_nil) ⟨v, rfl, hv, rfl⟩))) (by rw [hc]; rfl : (!chB v) = false)) (pss_never (sts := _)) pss_nil), hA, fun H1 u1 => iteF ?_⟩
    exact q _ H1 u1 .non
  | false =>
    rw [hc] at q
    exact ⟨_, pss_one (ps_if (jt_as (d := !chB v) (jt_not (jt_val (j_call Y hr (ja_cons (jv 0 rfl) ja_nil) ⟨v, rfl, hv, rfl⟩))) (by rw [hc]; rfl : (!chB v) = true)) (jo_raise (E := E) (C := CH) (x := "NoChances") rfl Er hr (takes_of rfl rfl rfl rfl) (jv 0 rfl)) pss_nil), hA, fun H1 u1 => iteT ⟨hA.lift u1, q⟩⟩
end
end G
set_option Elab.async false
set_option linter.all false
set_option maxRecDepth 100000
set_option maxHeartbeats 4000000
namespace G
open PySem PySem.Spec PyProof.Rows L2
/-! ### best_counts: what it finds is what the law finds -/
def leastM (ws : List (List Int × Int)) (l : Int) : Int := ((ws.filter fun q => decide (l ≤ (q.1.length : Nat))).map (·.2)).sum
def cq (n u j : Nat) : Int × Int := ((1 + (j : Nat) : Int), (n : Int) + (u : Int) + 1 - (1 + (j : Nat)))
def cok (n : Nat) (q : Int × Int) : Bool := decide (1 ≤ q.2) && decide (q.2 ≤ n)
def cntL (n u i : Nat) : List (Int × Int) := ((List.range i).map (cq n u)).filter (cok n)
def gW (ws : List (List Int × Int)) (share q : Int × Int) : Int := mixM share (leastM ws q.1) (leastM ws q.2)
def topM (g : Int × Int → Int) (l : List (Int × Int)) : Int := maxM (-1 :: l.map g)
def bcM (n u : Nat) (up share : Int × Int) : List (Int × Int) :=
  let g := gW (weighM (List.replicate n up)) share
  (cntL n u n).filter fun q => g q == topM g (cntL n u n)
theorem cntL_succ (n u i : Nat) : cntL n u (i + 1) = cntL n u i ++ (if cok n (cq n u i) = true then [cq n u i] else []) := by
  unfold cntL
  rw [List.range_succ, List.map_append, List.filter_append]
  cases h : cok n (cq n u i) <;> simp [h]
theorem cntL_lt (n u i : Nat) : ∀ q ∈ cntL n u i, q.1 < 1 + (i : Nat) := fun q hq => by
  obtain ⟨h, _⟩ := List.mem_filter.mp hq
  obtain ⟨j, hj, rfl⟩ := List.mem_map.mp h
  have := List.mem_range.mp hj
  unfold cq
  dsimp only
  omega
theorem cntL_in (n u i : Nat) (hi : i ≤ n) : ∀ q ∈ cntL n u i, (1 ≤ q.1 ∧ q.1 ≤ n) ∧ 1 ≤ q.2 ∧ q.2 ≤ n := fun q hq => by
  obtain ⟨h, hc⟩ := List.mem_filter.mp hq
  obtain ⟨j, hj, rfl⟩ := List.mem_map.mp h
  have := List.mem_range.mp hj
  unfold cok at hc
  obtain ⟨h1, h2⟩ := Bool.and_eq_true_iff.mp hc
  have h1 := of_decide_eq_true h1
  have h2 := of_decide_eq_true h2
  refine ⟨?_, h1, h2⟩
  unfold cq
  dsimp only
  omega
theorem cntL_len (n u i : Nat) : (cntL n u i).length ≤ i := by
  unfold cntL
  refine Nat.le_trans (List.length_filter_le _ _) ?_
  rw [List.length_map, List.length_range]
  exact Nat.le_refl _
/-- sums do not ask for the order -/
theorem sum_perm {l m : List Int} (h : l.Perm m) : l.sum = m.sum := by
  induction h with
  | nil => rfl
  | cons x _ ih => rw [List.sum_cons, List.sum_cons, ih]
  | swap x y l => rw [List.sum_cons, List.sum_cons, List.sum_cons, List.sum_cons]; omega
  | trans _ _ ih1 ih2 => rw [ih1, ih2]
theorem least_up (n : Nat) (up : Int × Int) (l : Int) : leastM (weighM (List.replicate n up)) l = upM n up l := by
  unfold leastM weighM upM
  rw [List.length_replicate]
  have e : (((lotsP n).map fun lot => (lot, weightM (List.replicate n up) lot)).filter fun q => decide (l ≤ (q.1.length : Nat))).map (·.2)
      = ((lotsP n).filter fun lot => decide (l ≤ (lot.length : Nat))).map fun lot => weightM (List.replicate n up) lot := by
    rw [List.filter_map, List.map_map]
    rfl
  rw [e]
  exact sum_perm (((lotsP_perm n).filter _).map _)
theorem maxM_cons (a : Int) (l : List Int) (h : l ≠ []) : maxM (a :: l) = if maxM l ≤ a then a else maxM l := by
  cases l with
  | nil => exact absurd rfl h
  | cons b l => rfl
theorem topM_le (g : Int × Int → Int) (l : List (Int × Int)) : -1 ≤ topM g l ∧ ∀ q ∈ l, g q ≤ topM g l :=
  ⟨maxM_le _ _ List.mem_cons_self, fun q hq => maxM_le _ _ (List.mem_cons_of_mem _ (List.mem_map_of_mem hq))⟩
theorem topM_in (g : Int × Int → Int) (l : List (Int × Int)) : topM g l = -1 ∨ ∃ q ∈ l, g q = topM g l := by
  rcases List.mem_cons.mp (maxM_mem (-1 :: l.map g) (by simp)) with h | h
  · exact .inl h
  · obtain ⟨q, hq, e⟩ := List.mem_map.mp h
    exact .inr ⟨q, hq, e⟩
theorem topM_snoc (g : Int × Int → Int) (l : List (Int × Int)) (q : Int × Int) : topM g (l ++ [q]) = if g q > topM g l then g q else topM g l := by
  obtain ⟨h1, h2⟩ := topM_le g l
  obtain ⟨h3, h4⟩ := topM_le g (l ++ [q])
  have h5 := h4 q (by simp)
  have up : topM g l ≤ topM g (l ++ [q]) := by
    rcases topM_in g l with e | ⟨p, hp, e⟩
    · omega
    · have := h4 p (List.mem_append_left _ hp)
      omega
  rcases topM_in g (l ++ [q]) with e | ⟨p, hp, e⟩
  · split <;> omega
  · rcases List.mem_append.mp hp with hp | hp
    · have := h2 p hp
      split <;> omega
    · simp at hp
      subst hp
      split <;> omega
theorem ct_fold (n u : Nat) (up share : Int × Int) (g : Int × Int → Int) (hg : ∀ q, g q = mixM share (upM n up q.1) (upM n up q.2)) : ∀ i : Nat,
    (List.range i).foldl (ctStep n u up share) (-1, []) = (topM g (cntL n u i), (cntL n u i).filter fun q => g q == topM g (cntL n u i))
  | 0 => rfl
  | i + 1 => by
    rw [List.range_succ, List.foldl_append, ct_fold n u up share g hg i]
    show ctStep n u up share _ i = _
    rw [cntL_succ]
    generalize hl : cntL n u i = l
    obtain ⟨h1, h2⟩ := topM_le g l
    have ex := hg (cq n u i)
    unfold ctStep
    dsimp only
    by_cases c : cok n (cq n u i) = true
    · have c' : 1 ≤ (n : Int) + (u : Int) + 1 - (1 + (i : Nat)) ∧ (n : Int) + (u : Int) + 1 - (1 + (i : Nat)) ≤ n := by
        obtain ⟨a, b⟩ := Bool.and_eq_true_iff.mp c
        exact ⟨of_decide_eq_true a, of_decide_eq_true b⟩
      rw [if_pos c', if_pos c, topM_snoc, List.filter_append]
      have ex2 : mixM share (upM n up (1 + (i : Nat))) (upM n up ((n : Int) + (u : Int) + 1 - (1 + (i : Nat)))) = g (cq n u i) := ex.symm
      rw [ex2]
      generalize hx : g (cq n u i) = x
      by_cases c2 : x = topM g l
      · rw [if_neg (by omega), if_pos c2]
        congr 2
        have e2 : (g (cq n u i) == topM g l) = true := by rw [hx, c2]; exact beq_self_eq_true _
        rw [List.filter_cons, e2]
        rfl
      · by_cases c3 : topM g l < x
        · rw [if_pos c3, if_neg c2, if_pos c3]
          congr 1
          have e1 : l.filter (fun q => g q == x) = [] := by
            rw [List.filter_eq_nil_iff]
            intro q hq z
            have := h2 q hq
            have := eq_of_beq z
            omega
          have e2 : (g (cq n u i) == x) = true := by rw [hx]; exact beq_self_eq_true _
          rw [e1, List.nil_append, List.filter_cons, e2]
          rfl
        · rw [if_neg (by omega), if_neg c2, if_neg c3]
          congr 1
          have e1 : [cq n u i].filter (fun q => g q == topM g l) = [] := by
            rw [List.filter_eq_nil_iff]
            intro q hq z
            simp at hq
            subst hq
            have := eq_of_beq z
            omega
          rw [e1, List.append_nil]
    · have c' : ¬ (1 ≤ (n : Int) + (u : Int) + 1 - (1 + (i : Nat)) ∧ (n : Int) + (u : Int) + 1 - (1 + (i : Nat)) ≤ n) := fun ⟨a, b⟩ => c (by
        unfold cok cq
        dsimp only
        rw [decide_eq_true a, decide_eq_true b]
        rfl)
      rw [if_neg c', if_neg c, List.append_nil]
theorem bc_law (n u : Nat) (up share : Int × Int) : bcM n u up share = countsM n u up share := by
  unfold bcM countsM
  rw [ct_fold n u up share (gW (weighM (List.replicate n up)) share) (fun q => by unfold gW; rw [least_up, least_up]) n]
end G
set_option Elab.async false
set_option linter.all false
set_option maxRecDepth 100000
set_option maxHeartbeats 4000000
namespace G
open PySem PySem.Spec PyProof.Rows L2
/-! ### a dict of tuple keys in a slot, beside the data -/
structure AtF (T : Tl) (H0 : Hp) (es : Es) (σ : L2.St) (H : Hp) (m : Nat) (p : Addr) (kvs : List (List Key × V)) : Prop where
  at_ : At T H0 none es σ H
  off : Has (cut H p) σ es
  slot : σ[m]? = some (some (.ref p))
  vac : Vac H0 p
  obj : H p = some (.dT kvs)
section
variable {T : Tl} {H0 H H1 : Hp} {es : Es} {σ : L2.St} {m j : Nat} {p : Addr} {kvs kvs' : List (List Key × V)} {v : V} {d : PyData}
theorem AtF.lift (a : AtF T H0 es σ H m p kvs) (u : Up T H H1) : AtF T H0 es σ H1 m p kvs := ⟨a.at_.lift u, a.off.mono (cut_ext u.ext), a.slot, a.vac, u.ext _ _ a.obj fun _ z => by cases z⟩
theorem AtF.tupN (a : AtF T H0 es σ H m p kvs) : TupN H (cut H p) := tupN_cut a.obj (fun _ z => by cases z) (fun _ _ z => by cases z)
theorem AtF.set (a : AtF T H0 es σ H m p kvs) (n : m ≠ j) (f : flat d = true) (h : Dx H v d) : AtF T H0 (es.set j (some d)) (σ.set j (some v)) H m p kvs :=
  ⟨a.at_.set (fun _ _ z => nomatch z) h, a.off.set j (dx_flat a.tupN d v f h), by rw [List.getElem?_set_ne n.symm]; exact a.slot, a.vac, a.obj⟩
theorem AtF.put (a : AtF T H0 es σ H m p kvs) : AtF T H0 es σ (upd H p (.dT kvs')) m p kvs' := by
  have e : LamX.ExtN (cut H p) (upd H p (.dT kvs')) := fun b o q _ => by
    obtain ⟨n, q⟩ := cut_some q
    rw [upd_ne n]
    exact q
  have u : Up T H0 (upd H p (.dT kvs')) := a.at_.up.put a.vac a.obj (fun _ z => by cases z) (fun _ z => by cases z)
  exact ⟨⟨u, tabs_upd a.obj (fun _ z => by cases z) (fun _ z => by cases z) a.at_.tab, a.off.mono e, fun _ _ z => nomatch z⟩, by rw [cut_upd]; exact a.off, a.slot, a.vac, upd_same⟩
theorem AtF.make (a : At T H0 none es σ H) (hp : H p = none) (hm : m < es.length) : AtF T H0 (es.set m none) (σ.set m (some (.ref p))) (upd H p (.dT [])) m p [] := by
  have u : Up T H (upd H p (.dT [])) := Up.new hp
  refine ⟨(a.lift u).forget (fun _ _ z => nomatch z) _, ?_, List.getElem?_set_self (by rw [a.has.len]; exact hm), .of a.up hp, upd_same⟩
  rw [cut_upd, cut_id hp]
  exact a.has.wipe m _
end
/-- from the dict kvs and the slots es to kvs', es' -/
def tF (T : Tl) (H0 : Hp) (m : Nat) (es : Es) (kvs : List (List Key × V)) (es' : Es) (kvs' : List (List Key × V)) : TS := fun D σ H => ∃ p, AtF T H0 es σ H m p kvs ∧ ∀ σ' H', AtF T H0 es' σ' H' m p kvs' → D.nx σ' H'
abbrev JF (X : Cx) (T : Tl) (H0 : Hp) (m : Nat) (st : Stmt) (es : Es) (kvs : List (List Key × V)) (es' : Es) (kvs' : List (List Key × V)) : Prop := PS X st (tF T H0 m es kvs es' kvs')
abbrev JFs (X : Cx) (T : Tl) (H0 : Hp) (m : Nat) (st : List Stmt) (es : Es) (kvs : List (List Key × V)) (es' : Es) (kvs' : List (List Key × V)) : Prop := PSs X st (tF T H0 m es kvs es' kvs')
/-- whole numbers from lo on -/
def tIr2 (T : Tl) (H0 : Hp) (es : Es) (lo : Int) (n : Nat) : TI := fun σ H R => At T H0 none es σ H ∧ ∀ H1, Up T H H1 → R (Itr lo n) H1
section
variable {X : Cx} {T : Tl} {H0 : Hp} {m j : Nat} {es es1 es2 : Es} {kvs kv1 kv2 : List (List Key × V)} {st : Stmt} {rest body th : List Stmt} {a b e t : Expr} {d : PyData} {p pos pos' : Pos} {x : Str}
theorem jf_cons (h1 : JF X T H0 m st es kvs es1 kv1) (h2 : JFs X T H0 m rest es1 kv1 es2 kv2) : JFs X T H0 m (st :: rest) es kvs es2 kv2 :=
  weakSs (pss_cons h1 h2) fun D σ H ⟨p, hA, q⟩ => ⟨p, hA, fun σ1 H1 hA1 => ⟨p, hA1, q⟩⟩
theorem jf_one (h1 : JF X T H0 m st es kvs es1 kv1) : JFs X T H0 m [st] es kvs es1 kv1 := pss_one h1
theorem AtF.le {H : Hp} {σ : L2.St} {q : Addr} (a : AtF T H0 es σ H m q kvs) (h : Le es2 es) : AtF T H0 es2 σ H m q kvs := ⟨a.at_.le h, ⟨a.off.len.trans h.len.symm, fun i d e => a.off.dat i d (h.get e)⟩, a.slot, a.vac, a.obj⟩
theorem jf_le (h : JFs X T H0 m rest es kvs es1 kv1) (l : Le es2 es1) : JFs X T H0 m rest es kvs es2 kv1 := weakSs h fun D σ H ⟨p, hA, q⟩ => ⟨p, hA, fun σ1 H1 hA1 => q σ1 H1 (hA1.le l)⟩
theorem jf_set (hN : X.N.Nodup) (h : J X T H0 none es e d) (f : flat d = true) (n : m ≠ j) (hi : X.N[j]? = some x := by rfl) (hx : Loc X.env.scope x := by first | exact Or.inl rfl | exact Or.inr rfl)
    (hs : swapsWith e (some (.Name x pos')) pos.line X.env = pure false := by rfl) (hf : X.fn x = true ∨ X.env.scope.names.lookup x = some .local := by first | exact .inl rfl | exact .inr rfl) : JF X T H0 m (.Assign [.Name x pos'] e pos) es kvs (es.set j (some d)) kvs :=
  weakS (ps_set hN hi hx h hs hf) fun D σ H ⟨p, hA, q⟩ => ⟨hA.at_, fun v H1 u1 d1 => q _ H1 ((hA.lift u1).set n f d1)⟩
theorem jf_if {c : Bool} (hc : JT X T H0 none es t c) (h1 : c = true → JFs X T H0 m th es kvs es1 kv1) (h2 : c = false → es1 = es ∧ kv1 = kvs) : JF X T H0 m (.If t th [] pos) es kvs es1 kv1 := by
  cases c with
  | true => exact weakS (ps_if hc (h1 rfl) pss_nil) fun D σ H ⟨p, hA, q⟩ => ⟨hA.at_, fun H1 u1 => iteT ⟨p, hA.lift u1, q⟩⟩
  | false =>
    obtain ⟨rfl, rfl⟩ := h2 rfl
    exact weakS (ps_if hc (pss_never (sts := th)) pss_nil) fun D σ H ⟨p, hA, q⟩ => ⟨hA.at_, fun H1 u1 => iteF (q _ H1 (hA.lift u1))⟩
/-- x[a, b] = e, whole numbers -/
theorem jf_put {i k n : Int} {nn : Nat} {pp p2 p3 : Pos} (hu : X.A.units + 1 < cLine) (he : J X T H0 none es e (.int n)) (ha : J X T H0 none es a (.int i)) (hb : J X T H0 none es b (.int k)) (hz : kvs.length < 90000) (hN : X.N[m]? = some x)
    (hv : Vis X.env.scope x := by first | exact Or.inl rfl | exact Or.inr (Or.inl rfl) | exact Or.inr (Or.inr rfl)) (hd : (x == ("__debug__" : Str)) = false := by decide) (hcd : (x == ("__classdict__" : Str)) = false := by decide)
    (hs1 : starEach [a, b] X.env = (false, eval a X.env) :: starEach [b] X.env := by rfl) (hs2 : starEach [b] X.env = (false, eval b X.env) :: starEach [] X.env := by rfl)
    (hsw : swapsWith e (some (.Subscript (.Name x pp) (.Tuple [a, b] nn p2) p3)) pos.line X.env = pure false := by rfl) :
    JF X T H0 m (.Assign [.Subscript (.Name x pp) (.Tuple [a, b] nn p2) p3] e pos) es kvs es (putK kvs [.inl i, .inl k] (.int n)) :=
  weakS (ps_dput hu (pe_var (i := m) hN hv hd hcd) (pe_tup (pa_cons ha (pa_cons hb pa_nil hs2) hs1)) he hsw) fun D σ H ⟨p, hA, q⟩ => ⟨hA.at_, fun v H1 u1 d1 => by
    have A1 := hA.lift u1
    refine ⟨.ref p, A1.slot, A1.at_, fun v2 H2 u2 d2 => ?_⟩
    have A2 := A1.lift u2
    refine ⟨A2.at_, fun v3 H3 u3 d3 => ⟨line_of (by show 2 ≤ 100000; decide), fun t ht => ?_⟩⟩
    have A3 := (A2.lift u3).lift (Up.new (T := T) (o := .tup [v2, v3]) ht)
    have e1 := dx_int d1
    have e2 := dx_int d2
    have e3 := dx_int d3
    subst e1 e2 e3
    exact ⟨p, _, rfl, DPut.t (k := [.inl i, .inl k]) A3.obj upd_same (line_lt (by omega)), q _ _ A3.put⟩⟩
theorem ji_r2 {tg : Expr} {i k : Int} {n : Nat} (hm : X.mg "range" = none) (h1 : -100000 ≤ i ∧ i ≤ 100000) (h2 : -100000 ≤ k ∧ k ≤ 100000) (en : (k - i).toNat = n) (ha : J X T H0 none es a (.int i)) (hb : J X T H0 none es b (.int k)) (hg : Gl X "range" := by rfl)
    (he : starEach [a, b] X.env = (false, eval a X.env) :: starEach [b] X.env := by rfl) (he2 : starEach [b] X.env = (false, eval b X.env) :: starEach [] X.env := by rfl) : PI X tg (.Call (.Name "range" p) [a, b] [] pos) (tIr2 T H0 es i n) :=
  weakI (pi_range2 hg hm (ja_cons ha (ja_cons hb ja_nil he2) he) (by rw [he, he2]; rfl) (by rw [he2]; rfl)) fun σ H R ⟨hA, q⟩ => ⟨hA, fun vs H1 u1 d1 => by
    cases d1 with
    | cons k1 k2 =>
      cases k2 with
      | cons k2 k3 =>
        cases k3
        refine ⟨i, k, by rw [dx_int k1, dx_int k2], ⟨by omega, by omega, by omega, by omega⟩, ?_⟩
        rw [en]
        exact q H1 u1⟩
/-- for j in range(lo, ..) -/
theorem jf_for {tg iter : Expr} {lo : Int} {n : Nat} (E : Nat → Es) (kv : Nat → List (List Key × V)) (hp : PassesOwn (model X.prog X.w) X.A X.env X.xe) (hc : X.calm = true) (src : PI X tg iter (tIr2 T H0 (E 0) lo n)) (hg : PG X tg (gName j)) (nj : m ≠ j)
    (hb : ∀ i, i < n → JFs X T H0 m body ((E i).set j (some (.int (lo + (i : Nat))))) (kv i) (E (i + 1)) (kv (i + 1))) (hs : ∀ x, foldedSetIterable iter X.env x = pure x := by intro _; rfl) :
    JF X T H0 m (.For tg iter body [] pos) (E 0) (kv 0) (E n) (kv n) := by
  refine weakS (ps_for hp hc src hg (exSs (P := fun i : Nat => i < n) fun i hi => hb i hi) hs) fun D σ H ⟨p, hA, q⟩ => ⟨hA.at_, fun H1 u1 => ?_⟩
  refine for_it (g := gName j) (tb := fun D σ H => ∃ i : Nat, i < n ∧ tF T H0 m ((E i).set j (some (.int (lo + (i : Nat))))) (kv i) (E (i + 1)) (kv (i + 1)) D σ H) (D := D) walk_range (fun i σ' H' => AtF T H0 (E i) σ' H' m p (kv i)) (hA.lift u1) (fun _ _ _ _ _ => True.intro) (fun i x σ' Ha Hb hi pv hy => ?_) fun σ' H' pv => q σ' H' pv
  obtain ⟨e1, e2⟩ := hy
  subst e1 e2
  exact ⟨i, hi, p, pv.set nj rfl (.int _), fun σ3 H3 hA3 => hA3⟩
end
/-! ### the keys, one after the other -/
def kvF (g : Int × Int → Int) (l : List (Int × Int)) : List (List Key × V) := l.map fun q => ([.inl q.1, .inl q.2], .int (g q))
theorem kvF_len (g : Int × Int → Int) (l : List (Int × Int)) : (kvF g l).length = l.length := List.length_map _
theorem kvF_val (g : Int × Int → Int) (q : Int × Int) : ∀ l : List (Int × Int), valV (kvF g l) ([.inl q.1, .inl q.2] : List Key) = if q ∈ l then some (.int (g q)) else none
  | [] => rfl
  | r :: l => by
    have ih := kvF_val g q l
    show valV ((([.inl r.1, .inl r.2] : List Key), V.int (g r)) :: kvF g l) _ = _
    by_cases e : r = q
    · subst e
      rw [valV_pos rfl, if_pos List.mem_cons_self]
    · have n : ¬ (([.inl r.1, .inl r.2] : List Key) = [.inl q.1, .inl q.2]) := fun z => by
        injection z with z1 z2
        injection z2 with z2 _
        injection z1 with z1
        injection z2 with z2
        exact e (Prod.ext z1 z2)
      rw [valV_neg (p := (([.inl r.1, .inl r.2] : List Key), V.int (g r))) n, ih]
      by_cases hq : q ∈ l
      · rw [if_pos hq, if_pos (List.mem_cons_of_mem _ hq)]
      · rw [if_neg hq, if_neg fun z => (List.mem_cons.mp z).elim (fun y => e y.symm) hq]
theorem kvF_put (g : Int × Int → Int) (q : Int × Int) (l : List (Int × Int)) (h : q ∉ l) : putK (kvF g l) ([.inl q.1, .inl q.2] : List Key) (.int (g q)) = kvF g (l ++ [q]) := by
  rw [putK_new _ (by rw [kvF_val, if_neg h])]
  unfold kvF
  rw [List.map_append]
  rfl
end G
set_option Elab.async false
set_option linter.all false
set_option maxRecDepth 100000
set_option maxHeartbeats 4000000
namespace G
open PySem PySem.Spec PyProof.Rows L2
theorem walk_vT {d : Addr} {o : Obj} {kvs : List (List Key × V)} : Walk (ItvT d o kvs) kvs.length (fun H => H d = some (.frz o (.dT kvs))) (fun i H x H' => H' = H ∧ ∃ k, kvs[i]? = some (k, x)) :=
  ⟨fun _ _ hi q => ⟨q, hi⟩, fun _ q => ⟨q, Nat.le_refl _⟩, fun _ _ _ _ _ _ y => y⟩
theorem upd_upd {H : Hp} {a : Addr} {u v : HO} : upd (upd H a u) a v = upd H a v := by
  funext b
  by_cases e : b = a
  · rw [e, upd_same, upd_same]
  · rw [upd_ne e, upd_ne e, upd_ne e]
theorem upd_swap {H : Hp} {a b : Addr} {u v : HO} (n : a ≠ b) : upd (upd H a u) b v = upd (upd H b v) a u := by
  funext c
  by_cases e : c = a
  · rw [e, upd_same, upd_ne n, upd_same]
  · by_cases e2 : c = b
    · rw [e2, upd_same, upd_ne n.symm, upd_same]
    · rw [upd_ne e, upd_ne e2, upd_ne e2, upd_ne e]
theorem upd_id {H : Hp} {a : Addr} {u : HO} (h : H a = some u) : upd H a u = H := by
  funext b
  by_cases e : b = a
  · rw [e, upd_same, h]
  · rw [upd_ne e]
theorem yes_it {σ : L2.St} {H : Hp} {Q : Bool → Hp → Prop} (h : Q true H) : tYes σ H Q := h
section
variable {X : Cx} {T : Tl} {H0 : Hp} {m j i : Nat} {es : Es} {x y : Str}
/-- max([-1, *[int(y) for y in x.values()]]) -/
theorem pe_top (g : Int × Int → Int) (l : List (Int × Int)) {k : Nat} {scope : Scope} {p1 p2 p3 p4 p5 p6 p7 p8 p9 p10 p11 p12 p13 p14 : Pos} (hc : X.calm = true) (hN : X.N.Nodup) (hmx : X.mg "max" = none) (hl : l.length ≤ 1000) (mj : m ≠ j) (hNm : X.N[m]? = some x)
    (hvm : Vis X.env.scope x) (hdm : (x == ("__debug__" : Str)) = false) (hcm : (x == ("__classdict__" : Str)) = false) (ok : BlkOk X.N X.env.scope scope [(y, j)])
    (hgt : ∀ (s : Shared) (H : Hp) (C : Addr) (cl : List (Str × Addr)) (fp : List Addr), PG (X.blk s H scope (compEnvC scope cl C X.env) fp) (.Name y p7) (gName j))
    (hel : ∀ (s : Shared) (H : Hp) (C : Addr) (cl : List (Str × Addr)) (fp : List Addr), PE (X.blk s H scope (compEnvC scope cl C X.env) fp) (.Call (.Name "int" p4) [.Name y p5] [] p6) (fun σ H Q => ∃ i : Int, σ[j]? = some (some (.int i)) ∧ Q (.int i) H))
    (hbase : attributeBase (.Name x p8) "values" X.env (eval (.Name x p8) X.env) = eval (.Name x p8) X.env) (hline : (p9.endLine == p10.line) = true) (hg : Gl X "max" := by rfl) :
    PE X (.Call (.Name "max" p1) [.List [.UnaryOp .USub (.Constant (.int 1) k p2) p3, .Starred (.ListComp (.Call (.Name "int" p4) [.Name y p5] [] p6) [⟨.Name y p7, .Call (.Attribute (.Name x p8) "values" p9) [] [] p10, [], 0⟩] scope p11) p12] p13] [] p14)
      (fun σ H Q => ∃ p, AtF T H0 es σ H m p (kvF g l) ∧ j < σ.length ∧ ∀ H', Up T H H' → Q (.int (topM g l)) H') := by
  refine weakE (pe_callB (cr_max hc) hg hmx (by decide +kernel) (pa_cons (pe_lst (pa_cons (pe_un un_neg pe_int) (StX.pa_star (pe_lock (pe_lc (own := [(y, j)]) (g := gName j) hc hN (pi_valuesT (pe_var (i := m) hNm hvm hdm hcm) hbase hline) ok hgt (fun _ _ _ _ _ => pts_nil) hel)) pa_nil))) pa_nil) (by decide) (by decide)) fun σ H Q ⟨p, hA, hjl, q⟩ => ?_
  refine ⟨1, rfl, ?_⟩
  show ∃ d u, H d = some u ∧ _
  refine ⟨p, _, hA.obj, True.intro, fun od => ?_⟩
  refine ⟨.ref p, hA.slot, p, od, kvF g l, rfl, upd_same, fun D hD => ?_⟩
  have nD : D ≠ p := fun z => by rw [z, upd_same] at hD; cases hD
  have hD0 : H D = none := by rw [upd_ne nD] at hD; exact hD
  refine lc_it (g := gName j) (tt := tYes) (te := fun σ H Q => ∃ i : Int, σ[j]? = some (some (.int i)) ∧ Q (.int i) H) (vs := [j]) (σ := σ) (walk_vT (kvs := kvF g l)) (fun i H' => H' = upd (upd H p (.frz od (.dT (kvF g l)))) D (.lst (((l.map g).take i).map V.int))) (by rw [List.take_zero]; rfl) (fun i H' _ e => by rw [e, upd_ne nD.symm, upd_same]) (fun i x Ha Hb hi e hy => ?_) fun H' e => ?_
  · obtain ⟨e1, kk, e2⟩ := hy
    subst e1
    rw [kvF_len] at hi
    have hx : x = .int (g l[i]) := by
      unfold kvF at e2
      rw [List.getElem?_map, List.getElem?_eq_getElem hi] at e2
      exact (congrArg Prod.snd (Option.some.inj e2)).symm
    subst hx
    refine ⟨(wipe_in (vs := [j]) List.mem_cons_self).trans (wipe_idem _ _), ?_⟩
    refine yes_it ?_
    dsimp only
    rw [if_pos rfl]
    refine ⟨g l[i], ?_, _, by rw [e, upd_same], ?_, ?_⟩
    · refine List.getElem?_set_self ?_
      show j < (wipe σ [j]).length
      unfold wipe wipe
      rw [List.length_set]
      exact hjl
    · rw [List.length_map, List.length_take, List.length_map]
      exact line_lt (by omega)
    · rw [e, upd_upd, List.take_add_one, List.getElem?_map, List.getElem?_eq_getElem hi, List.map_append]
      rfl
  · rw [kvF_len, List.take_of_length_le (by rw [List.length_map]; exact Nat.le_refl _)] at e
    refine ⟨by rw [e, upd_ne nD.symm, upd_same], ?_⟩
    have e2 : upd H' p (.dT (kvF g l)) = upd H D (.lst ((l.map g).map V.int)) := by
      rw [e, upd_swap nD, upd_upd, upd_id hA.obj]
    rw [e2]
    refine ⟨D, (l.map g).map V.int, rfl, .inr (.inl (.inl upd_same)), ⟨?_, fun L hL => ?_⟩⟩
    · show (V.int (-1) :: ((l.map g).map V.int ++ [])).length ≤ _
      rw [List.append_nil, List.length_cons, List.length_map, List.length_map]
      exact line_of (by omega)
    · refine ⟨L, -1 :: l.map g, rfl, .inl (.inl (by rw [upd_same, List.append_nil]; rfl)), by simp, fun mx h1 h2 => ?_⟩
      have ez : mx = topM g l := Int.le_antisymm (maxM_le _ _ h1) (h2 _ (maxM_mem _ (by simp)))
      rw [ez]
      exact q _ ((Up.new hD0).trans (Up.new hL))
/-- [y for y in x if x[y] == z] -/
theorem pe_pick (g : Int × Int → Int) (l : List (Int × Int)) {tp : Int} {z : Str} {scope : Scope} {p1 p2 p3 p4 p5 p6 p7 : Pos} (hc : X.calm = true) (hN : X.N.Nodup) (hl : l.length ≤ 1000) (mj : m ≠ j) (ij : i ≠ j) (hNm : X.N[m]? = some x)
    (hvm : Vis X.env.scope x) (hdm : (x == ("__debug__" : Str)) = false) (hcm : (x == ("__classdict__" : Str)) = false) (ok : BlkOk X.N X.env.scope scope [(y, j)]) (hz : es[i]? = some (some (.int tp)))
    (hgt : ∀ (s : Shared) (H : Hp) (C : Addr) (cl : List (Str × Addr)) (fp : List Addr), PG (X.blk s H scope (compEnvC scope cl C X.env) fp) (.Name y p2) (gName j))
    (hte : ∀ (s : Shared) (H : Hp) (C : Addr) (cl : List (Str × Addr)) (fp : List Addr), PTs (X.blk s H scope (compEnvC scope cl C X.env) fp) [.Compare (.Subscript (.Name x p4) (.Name y p5) p6) [.Eq] [.Name z p7] p3]
      (fun σ H Q => ∃ (p b : Addr) (n t : Int), σ[m]? = some (some (.ref p)) ∧ σ[j]? = some (some (.ref b)) ∧ σ[i]? = some (some (.int t)) ∧ DGet H p (.ref b) (some (.int n)) ∧ Q (n == t) H))
    (hel : ∀ (s : Shared) (H : Hp) (C : Addr) (cl : List (Str × Addr)) (fp : List Addr), PE (X.blk s H scope (compEnvC scope cl C X.env) fp) (.Name y p1) (fun σ H Q => ∃ v, σ[j]? = some (some v) ∧ Q v H))
    {pp pos : Pos} (hs : ∀ v, foldedSetIterable (.Name x pp) X.env v = pure v) :
    PE X (.ListComp (.Name y p1) [⟨.Name y p2, .Name x pp, [.Compare (.Subscript (.Name x p4) (.Name y p5) p6) [.Eq] [.Name z p7] p3], 0⟩] scope pos)
      (fun σ H Q => ∃ p, AtF T H0 es σ H m p (kvF g l) ∧ j < σ.length ∧ ∀ D H' us, Vac H D → Up T H H' → H' D = some (.lst us) → DxAll (cut H' D) us ((l.filter fun q => g q == tp).map fr) → Q (.ref D) H') := by
  refine weakE (pe_lock (pe_lc (own := [(y, j)]) (g := gName j) hc hN (pi_keys (pe_var (i := m) hNm hvm hdm hcm)) ok hgt hte hel hs)) fun σ H Q ⟨p, hA, hjl, q⟩ => ?_
  refine ⟨p, _, hA.obj, True.intro, fun od => ?_⟩
  refine ⟨.ref p, hA.slot, p, od, rfl, .inr ⟨kvF g l, upd_same, fun D hD => ?_⟩⟩
  have nD : D ≠ p := fun z => by rw [z, upd_same] at hD; cases hD
  have hD0 : H D = none := by rw [upd_ne nD] at hD; exact hD
  refine lc_it (g := gName j) (tt := fun σ H Q => ∃ (p b : Addr) (n t : Int), σ[m]? = some (some (.ref p)) ∧ σ[j]? = some (some (.ref b)) ∧ σ[i]? = some (some (.int t)) ∧ DGet H p (.ref b) (some (.int n)) ∧ Q (n == t) H) (te := fun σ H Q => ∃ v, σ[j]? = some (some v) ∧ Q v H) (vs := [j]) (σ := σ) (walk_keysT (kvs := kvF g l)) (fun i H' => ∃ acc, H' = upd (upd H p (.frz od (.dT (kvF g l)))) D (.lst acc) ∧ DxAll H acc (((l.take i).filter fun q => g q == tp).map fr)) ⟨[], rfl, .nil⟩ (fun i H' _ ⟨acc, e, _⟩ => by rw [e, upd_ne nD.symm, upd_same]) (fun k0 x0 Ha Hb hi ⟨acc, e, hd⟩ hy => ?_) fun H' ⟨acc, e, hd⟩ => ?_
  · obtain ⟨e1, kk, v, b, e2, e3, e4⟩ := hy
    subst e1 e3
    rw [kvF_len] at hi
    have hk : kk = ([.inl l[k0].1, .inl l[k0].2] : List Key) := by
      unfold kvF at e2
      rw [List.getElem?_map, List.getElem?_eq_getElem hi] at e2
      exact (congrArg Prod.fst (Option.some.inj e2)).symm
    subst hk
    have hb : H b = some (.tup [.int l[k0].1, .int l[k0].2]) := by
      rw [e] at e4
      have n1 : b ≠ D := fun z => by rw [z, upd_same] at e4; cases e4
      have n2 : b ≠ p := fun z => by rw [z, upd_ne nD.symm, upd_same] at e4; cases e4
      rw [upd_ne n1, upd_ne n2] at e4
      exact e4
    have hw : (wipe σ [j]).length = σ.length := by
      unfold wipe wipe
      rw [List.length_set]
    have wm : (wipe σ [j])[m]? = some (some (.ref p)) := by
      unfold wipe wipe
      rw [List.getElem?_set_ne mj.symm]
      exact hA.slot
    obtain ⟨vt, hvt, dvt⟩ := hA.at_.has.dat i _ hz
    have evt := dx_int dvt
    subst evt
    have wi : (wipe σ [j])[i]? = some (some (.int tp)) := by
      unfold wipe wipe
      rw [List.getElem?_set_ne ij.symm]
      exact hvt
    refine ⟨(wipe_in (vs := [j]) List.mem_cons_self).trans (wipe_idem _ _), p, b, g l[k0], tp, ?_, ?_, ?_, .inr ⟨kvF g l, [.inl l[k0].1, .inl l[k0].2], b, .inr ⟨od, by rw [e, upd_ne nD.symm, upd_same]⟩, rfl, e4, ?_⟩, ?_⟩
    · show ((wipe σ [j]).set j _)[m]? = _
      rw [List.getElem?_set_ne mj.symm]
      exact wm
    · show ((wipe σ [j]).set j _)[j]? = _
      exact List.getElem?_set_self (by rw [hw]; exact hjl)
    · show ((wipe σ [j]).set j _)[i]? = _
      rw [List.getElem?_set_ne ij.symm]
      exact wi
    · rw [kvF_val, if_pos (List.getElem_mem hi)]
    · have tk : (l.take (k0 + 1)).filter (fun q => g q == tp) = (l.take k0).filter (fun q => g q == tp) ++ (if (g l[k0] == tp) = true then [l[k0]] else []) := filter_take (List.getElem?_eq_getElem hi)
      cases hp : g l[k0] == tp with
      | true =>
        refine iteT ⟨.ref b, List.getElem?_set_self (by show j < (wipe σ [j]).length; rw [hw]; exact hjl), acc, by rw [e, upd_same], ?_, acc ++ [.ref b], by rw [e, upd_upd], ?_⟩
        · rw [dxa_len hd, List.length_map]
          refine line_lt (Nat.lt_of_le_of_lt (List.length_filter_le _ _) (Nat.lt_of_le_of_lt (List.length_take_le _ _) (by omega)))
        · rw [tk, hp, if_pos rfl, List.map_append]
          exact dxa_snoc hd (.tup (.inl hb) (.cons (.int _) (.cons (.int _) .nil)))
      | false =>
        refine iteF ⟨acc, e, ?_⟩
        rw [tk, hp, if_neg (by decide), List.append_nil]
        exact hd
  · rw [kvF_len, List.take_length] at hd
    refine ⟨by rw [e, upd_ne nD.symm, upd_same], ?_⟩
    have e2 : upd H' p (.dT (kvF g l)) = upd H D (.lst acc) := by
      rw [e, upd_swap nD, upd_upd, upd_id hA.obj]
    rw [e2]
    refine q D _ acc (.none hD0) (Up.new hD0) upd_same ?_
    rw [cut_upd, cut_id hD0]
    exact hd
end
end G
set_option Elab.async false
set_option linter.all false
set_option maxRecDepth 100000
set_option maxHeartbeats 4000000
namespace G
open PySem PySem.Spec PyProof.Rows L2
def frOf : PyData → Int × Int
  | .tuple [.int a, .int b] => (a, b)
  | _ => (0, 0)
theorem ch_fr {d : PyData} (h : chB d = true) : d = fr (frOf d) ∧ SmallP (frOf d) ∧ 0 < (frOf d).2 ∧ (frOf d).2 ≤ 20 ∧ 0 ≤ (frOf d).1 ∧ (frOf d).1 ≤ (frOf d).2 := by
  unfold chB at h
  split at h
  · rename_i a b
    obtain ⟨h1, h2⟩ := Bool.and_eq_true_iff.mp h
    unfold fracB anyB at h1
    obtain ⟨h3, h4⟩ := Bool.and_eq_true_iff.mp h1
    obtain ⟨h5, h6⟩ := Bool.and_eq_true_iff.mp h4
    obtain ⟨h7, h8⟩ := Bool.and_eq_true_iff.mp h5
    obtain ⟨h9, _⟩ := Bool.and_eq_true_iff.mp h3
    have := of_decide_eq_true h2
    have := of_decide_eq_true h6
    have := of_decide_eq_true h7
    have := of_decide_eq_true h8
    have := of_decide_eq_true h9
    refine ⟨rfl, ?_⟩
    show SmallP (a, b) ∧ 0 < b ∧ b ≤ 20 ∧ 0 ≤ a ∧ a ≤ b
    refine ⟨⟨⟨?_, ?_⟩, ?_, ?_⟩, ?_, ?_, ?_, ?_⟩ <;> first | assumption | (dsimp only; omega)
  · cases h
def bcO (CC CH : Addr) (n u : Int) (up sh : PyData) : Out :=
  if isNum (.int n) 1 5 = true then
    if isNum (.int u) 0 n = true then
      if chB up = true then
        if chB sh = true then .ok (.list ((countsM n.toNat u.toNat (frOf up) (frOf sh)).map fr)) else .err CH sh
      else .err CH up
    else .err CC (.int u)
  else .err CC (.int n)
def RBc (CC CH : Addr) (ds : List PyData) (o : Out) : Prop := ∃ (n u : Int) (up sh : PyData), ds = [.int n, .int u, up, sh] ∧ Fr up ∧ Fr sh ∧ o = bcO CC CH n u up sh
abbrev bcE (n u : Nat) (up sh : Int × Int) (ws : List (List Int × Int)) : Es := [some (.int (n : Int)), some (.int (u : Int)), some (fr up), some (fr sh), some (.list (ws.map encW)), some (.int (underM 1 (List.replicate n up))), some (.list ((List.range (n + 1)).map fun i => .int (leastM ws (i : Nat)))), none, none, none, none, none, none, none, none, none]
abbrev nBc : List Str := ["count", "unruly", "up", "share", "weights", "under", "least", "found", "reads", "writes", "top", "size", "lot", "over", "worth", "pair"]
section
variable {P : Program} {w : World} {K : PySem.W.Frag} {mg : Str → Option Value} {base : Heap} {T : Tl} {f : Addr} {fd : FuncData} {CC CH fC fH : Addr}
theorem scBc : FnScope nBc ["count", "unruly", "up", "share"] (defScope (topS 37)) := ⟨rfl, rfl, rfl, by decide +kernel, rfl, by decide +kernel, by decide +kernel⟩
theorem least_at {ws : List (List Int × Int)} {n : Nat} {r : Int} (h0 : 1 ≤ r) (h1 : r ≤ n) : atI ((List.range (n + 1)).map fun i => PyData.int (leastM ws (i : Nat))) r = some (.int (leastM ws r)) := by
  have e : ixN ((List.range (n + 1)).map fun i => PyData.int (leastM ws (i : Nat))).length r = some r.toNat := by
    unfold ixN
    rw [List.length_map, List.length_range, if_pos (by omega), if_pos (by omega)]
  unfold atI
  rw [e, Option.bind_some, List.getElem?_map, List.getElem?_range (by omega)]
  show some (PyData.int (leastM ws ((r.toNat : Nat) : Int))) = _
  rw [Int.toNat_of_nonneg (by omega)]
/-- the way without an error -/
theorem bc_ok (B : Bz mg) (W : Fd P w K mg base 2 "weights_of" (spD T RWeights)) {cdv : Value} {A : Around} {outer : List Env} {s : Shared} {H : Hp} {E : XK} (hr : Room 5 (A.deeper (envOfC "best_counts" (defScope (topS 37)) s.heap.objs.size f cdv))) (n u : Nat) (up sh : Int × Int) (hn : 1 ≤ n ∧ n ≤ 5) (hu : u ≤ n) (h1 : SmallP up) (h2 : SmallP sh) :
    JR (cxOf (L2.CX P w) P w K mg base nBc "best_counts" (defScope (topS 37)) f cdv A outer s H E).nox T H ((defBody (topS 37)).drop 4) none (startE nBc [.int (n : Int), .int (u : Int), fr up, fr sh]) (RN T H ((countsM n u up sh).map fr)) := by
  rw [← bc_law]
  have hus : (cxOf (L2.CX P w) P w K mg base nBc "best_counts" (defScope (topS 37)) f cdv A outer s H E).nox.A.units + 1 < cLine := hu_of hr
  refine jr_cons (js_asg (ps_asg (j_call (W.mono (by decide)) hr (ja_cons (jn (jn_rep (jn_lst (ja_cons (jv 2 rfl) ja_nil)) (jv 0 rfl) (by show 1 * n ≤ _; omega) (by omega))) ja_nil) ⟨List.replicate n up, by rw [rep_enc], by rw [List.length_replicate]; omega, fun q hq => by rw [List.eq_of_mem_replicate hq]; exact h1, rfl⟩)
    (pg_tup rfl (pgs_cons (pg_name (i := 4) scBc.nd rfl (Or.inr rfl)) (pgs_cons (pg_name (i := 5) scBc.nd rfl (Or.inl rfl)) pgs_nil)))) tg_two (fun _ _ z => nomatch z)) ?_
  have hwl : (weighM (List.replicate n up)).length ≤ 1024 := by
    unfold weighM
    rw [List.length_map, (lotsP_perm _).length_eq, List.length_replicate]
    exact lots_le (by omega)
  generalize hws : weighM (List.replicate n up) = ws at hwl
  have hbc : bcM n u up sh = (cntL n u n).filter fun q => gW ws sh q == topM (gW ws sh) (cntL n u n) := by
    unfold bcM
    rw [hws]
  rw [hbc]
  refine jr_cons (js_asgN 6 (js_setLc1 (List.range (n + 1)) (fun i => .int (0 + (i : Nat))) (fun i => .int (leastM ws (i : Nat))) 6 11 rfl rfl scBc.nd rfl (ji_range1 (n := n + 1) B.range (by omega) (j_as (j_add (jv 0 rfl) j_int) rfl)) (blkOk_by (by kernel_rfl)) (fun s H C cl fp => pg_name (i := 11) scBc.nd rfl (Or.inr rfl))
    (fun a ha s H C cl fp => j_sum rfl B.sum (j_as (jn (jn_lc ws encW (fun t => decide ((0 + (a : Nat) : Int) ≤ (t.1.length : Nat))) (fun t => .int t.2) (fun t es => (es.set 12 (some (tup t.1))).set 13 (some (.int t.2))) (own := [("lot", 12), ("over", 13)]) (js := [12, 13]) rfl scBc.nd (ji_list (jv 4 rfl)) (blkOk_by (by kernel_rfl))
      (fun s H C cl fp => pg_tup rfl (pgs_cons (pg_name (i := 12) scBc.nd rfl (Or.inl rfl)) (pgs_cons (pg_name (i := 13) scBc.nd rfl (Or.inl rfl)) pgs_nil))) (fun a _ => tg_two) (fun j hj => by simpa using hj) (fun _ _ z => nomatch z)
      (fun b hb s H C cl fp => jts_one (jt_as (jt_ge (j_lenT B.len (jv 12 rfl)) (jv 11 rfl)) (by rw [List.length_map]))) (fun b hb _ s H C cl fp => jv 13 rfl) (fun b _ _ => rfl) (by omega))) (by rw [List.map_map, Int.zero_add]; rfl))) (fun a ha => rfl) (by rw [List.length_range]; omega))) ?_
  refine weakSs (pss_cons (ps_set (i := 7) scBc.nd rfl (Or.inr rfl) pe_dnewT) (pss_cons
    (jf_for (m := 7) (j := 8) (lo := 1) (n := n) (H0 := H) (T := T) (fun _ => bcE n u up sh ws) (fun i => kvF (gW ws sh) (cntL n u i)) PassesOwn.never rfl
      (ji_r2 B.range (i := 1) (k := (n : Int) + 1) (by omega) (by omega) (by omega) j_int (j_add (jv 0 rfl) j_int)) (pg_name (i := 8) scBc.nd rfl (Or.inl rfl)) (by decide) (fun i hi => ?_))
    (pss_cons (ps_set (i := 10) scBc.nd rfl (Or.inr rfl) (pe_top (es := bcE n u up sh ws) (T := T) (H0 := H) (m := 7) (j := 14) (gW ws sh) (cntL n u n) rfl scBc.nd B.max ?_ (by decide) rfl (Or.inr (Or.inl rfl)) (by decide) (by decide) (blkOk_by (by kernel_rfl)) (fun s H C cl fp => pg_name (i := 14) scBc.nd rfl (Or.inl rfl)) (fun s H C cl fp => ?_) rfl rfl))
      (pss_one (ps_ret (pe_pick (es := (bcE n u up sh ws).set 10 (some (.int (topM (gW ws sh) (cntL n u n))))) (T := T) (H0 := H) (m := 7) (j := 15) (i := 10) (gW ws sh) (cntL n u n) (tp := topM (gW ws sh) (cntL n u n)) rfl scBc.nd ?_ (by decide) (by decide) rfl (Or.inr (Or.inl rfl)) (by decide) (by decide) (blkOk_by (by kernel_rfl)) ?_ (fun s H C cl fp => pg_name (i := 15) scBc.nd rfl (Or.inl rfl)) (fun s H C cl fp => ?_) (fun s H C cl fp => ?_) (by intro _; rfl))))))) ?_
  · have hlen := cntL_len n u i
    show JFs _ _ _ _ _ _ _ _ (kvF (gW ws sh) (cntL n u (i + 1)))
    rw [cntL_succ]
    refine jf_cons (jf_set (j := 9) scBc.nd (j_sub (j_add (j_add (jv 0 rfl) (jv 1 rfl)) j_int) (jv 8 rfl)) rfl (by decide)) ?_
    have lz : Le (bcE n u up sh ws) ((((bcE n u up sh ws).set 8 (some (.int (1 + (i : Nat))))).set 9 (some (.int ((n : Int) + (u : Int) + 1 - (1 + (i : Nat))))))) :=
      Le.keep (Le.keep (Le.keep (Le.keep (Le.keep (Le.keep (Le.keep (Le.keep (Le.drop (Le.drop (Le.keep (Le.keep (Le.keep (Le.keep (Le.keep (Le.keep Le.nil)))))))))))))))
    by_cases c : cok n (cq n u i) = true
    · have hin : cq n u i ∈ cntL n u (i + 1) := by
        rw [cntL_succ, if_pos c]
        exact List.mem_append_right _ List.mem_cons_self
      obtain ⟨⟨a1, a2⟩, a3, a4⟩ := cntL_in n u (i + 1) hi _ hin
      have hno : cq n u i ∉ cntL n u i := fun z => by
        have := cntL_lt n u i _ z
        unfold cq at this
        dsimp only at this
        omega
      rw [if_pos c, ← kvF_put _ _ _ hno]
      exact jf_le (jf_one (jf_if (c := decide (1 ≤ (n : Int) + (u : Int) + 1 - (1 + (i : Nat))) && decide ((n : Int) + (u : Int) + 1 - (1 + (i : Nat)) ≤ n)) (jt_chainLe j_int (jv 9 rfl) (jv 0 rfl) (pt_chain op_le op_le j_int (jv 9 rfl) (jv 0 rfl)))
        (fun _ => jf_one (jf_put (i := (cq n u i).1) (k := (cq n u i).2) (n := gW ws sh (cq n u i)) hus
          (j_add (j_mul (mix_cmul h2 _).1 (j_ixT (jv 3 rfl) j_int rfl) (j_ixL (jv 6 rfl) (jv 8 rfl) (least_at a1 a2))) (j_mul (mix_cmul h2 _).2 (j_sub (j_ixT (jv 3 rfl) j_int rfl) (j_ixT (jv 3 rfl) j_int rfl)) (j_ixL (jv 6 rfl) (jv 9 rfl) (least_at a3 a4))))
          (jv 8 rfl) (jv 9 rfl) (by rw [kvF_len]; omega) rfl)) (fun z => absurd c (by
            have z' : cok n (cq n u i) = false := z
            rw [z']
            decide)))) lz
    · rw [if_neg c, List.append_nil]
      exact jf_le (jf_one (jf_if (c := decide (1 ≤ (n : Int) + (u : Int) + 1 - (1 + (i : Nat))) && decide ((n : Int) + (u : Int) + 1 - (1 + (i : Nat)) ≤ n)) (jt_chainLe j_int (jv 9 rfl) (jv 0 rfl) (pt_chain op_le op_le j_int (jv 9 rfl) (jv 0 rfl)))
        (fun z => absurd z c) (fun _ => ⟨rfl, rfl⟩))) lz
  · exact Nat.le_trans (cntL_len n u n) (by omega)
  · exact weakE (pe_callTy call_int1 rfl B.int (by decide +kernel) (pa_cons (pe_var (i := 14) rfl (Or.inl rfl)) pa_nil) (by decide) (by decide)) fun σ H Q ⟨k, e, q⟩ => ⟨.int k, e, .inl ⟨k, rfl, q⟩⟩
  · exact Nat.le_trans (cntL_len n u n) (by omega)
  · rfl
  · exact pts_one (weakT (pt_cmpR op_eq (pe_dget hus (pe_var (i := 7) rfl (Or.inr (Or.inl rfl))) (pe_var (i := 15) rfl (Or.inl rfl)) (fun _ _ => rfl)) (pe_var (i := 10) rfl (Or.inr (Or.inl rfl))) (nomark _)) fun σ H Q ⟨p, b, k, t, e1, e2, e3, g, q⟩ =>
      ⟨.ref p, e1, .ref b, e2, p, .int k, rfl, g, .int t, e3, rfl, k == t, by rw [dec_int], q⟩)
  · exact weakE (pe_var (i := 15) rfl (Or.inl rfl)) fun σ H Q h => h
  · intro D σ H1 ⟨hA, q⟩ p hp
    refine ⟨p, AtF.make (m := 7) hA hp (by show 7 < 16; decide), fun σ1 H2 A1 => ⟨p, A1, by rw [A1.at_.has.len]; show 14 < 16; decide, fun H3 u3 => ?_⟩⟩
    refine ⟨p, (A1.lift u3).set (by decide) rfl (.int _), ?_, fun Dd H4 us hv u4 hd hx => q _ H4 ⟨Dd, us, rfl, hv.back (A1.at_.up.trans u3), (A1.at_.up.trans u3).trans u4, hd, hx⟩⟩
    rw [List.length_set, A1.at_.has.len]
    show 15 < 16
    decide
end
end G
set_option Elab.async false
set_option linter.all false
set_option maxRecDepth 100000
set_option maxHeartbeats 4000000
namespace G
open PySem PySem.Spec PyProof.Rows L2
section
variable {P : Program} {w : World} {K : PySem.W.Frag} {mg : Str → Option Value} {base : Heap} {T : Tl} {f : Addr} {fd : FuncData} {CC CH fC fH : Addr}
theorem ok_bc (F : Fun K "best_counts" "best_counts" (topS 37) f fd) (hm : mg "best_counts" = some (.ref f)) (B : Bz mg) (C : Cz mg) (EC : ErT K mg P "NoCount" CC fC) (N : Fd P w K mg base 2 "is_number" (spD T RNumber)) (L : FdX P w K mg base 5 "look_at_share" (spO T (RLook CH))) (W : Fd P w K mg base 2 "weights_of" (spD T RWeights)) :
    FdX P w K mg base 6 "best_counts" (spO T (RBc CC CH)) := by
  refine fd_O F scBc hm (F.binds fun _ _ _ _ _ _ us hl => match us, hl with | [_, _, _, _], _ => rfl) (fun ds o h => by obtain ⟨_, _, _, _, rfl, _⟩ := h; rfl) fun cdv A outer s H E hr ds o h => ?_
  obtain ⟨n, u, up, sh, rfl, hup, hsh, rfl⟩ := h
  obtain ⟨u5, hu5, ru5⟩ := C.copies
  have tk : Takes (cxOf (L2.CX P w) P w K mg base nBc "best_counts" (defScope (topS 37)) f cdv A outer s H E) (fun cls d _ H => E cls d H) := takes_of rfl rfl rfl rfl
  unfold bcO
  refine jo_if (c := !isNum (.int n) 1 5) (jt_not (jt_val (j_call (N.mono (by decide)) hr (ja_cons (jv 0 rfl) (ja_cons j_int (ja_cons (j_glob rfl hu5 ru5) ja_nil))) ⟨.int n, 1, 5, rfl, fun _ z => (nomatch z), rfl⟩))) (fun hz => ?_) (fun hz => ?_)
  · have hz' : isNum (.int n) 1 5 = false := by simpa using hz
    rw [hz', if_neg (by decide)]
    exact jo_raise (x := "NoCount") rfl EC hr tk (jv 0 rfl)
  have hn : isNum (.int n) 1 5 = true := by simpa using hz
  rw [if_pos hn]
  refine jo_if (c := !isNum (.int u) 0 n) (jt_not (jt_val (j_call (N.mono (by decide)) hr (ja_cons (jv 1 rfl) (ja_cons j_int (ja_cons (jv 0 rfl) ja_nil))) ⟨.int u, 0, n, rfl, fun _ z => (nomatch z), rfl⟩))) (fun hz => ?_) (fun hz => ?_)
  · have hz' : isNum (.int u) 0 n = false := by simpa using hz
    rw [hz', if_neg (by decide)]
    exact jo_raise (x := "NoCount") rfl EC hr tk (jv 1 rfl)
  have hu : isNum (.int u) 0 n = true := by simpa using hz
  rw [if_pos hu]
  refine jo_do L hr tk (ja_cons (jv 2 rfl) ja_nil) ⟨up, rfl, hup, rfl⟩ (fun d e => ?_) (fun Ca d e => ?_)
  · have h1 : chB up = true := by
      cases q : chB up with
      | true => rfl
      | false => rw [q] at e; cases e
    rw [if_pos h1]
    refine jo_do L hr tk (ja_cons (jv 3 rfl) ja_nil) ⟨sh, rfl, hsh, rfl⟩ (fun d e => ?_) (fun Ca d e => ?_)
    · have h2 : chB sh = true := by
        cases q : chB sh with
        | true => rfl
        | false => rw [q] at e; cases e
      rw [if_pos h2]
      obtain ⟨n1, n2⟩ := Bool.and_eq_true_iff.mp hn
      obtain ⟨u1, u2⟩ := Bool.and_eq_true_iff.mp hu
      have n1 := of_decide_eq_true n1
      have n2 := of_decide_eq_true n2
      have u1 := of_decide_eq_true u1
      have u2 := of_decide_eq_true u2
      obtain ⟨eu, su, _⟩ := ch_fr h1
      obtain ⟨es, ss, _⟩ := ch_fr h2
      have en : n = ((n.toNat : Nat) : Int) := by omega
      have eu2 : u = ((u.toNat : Nat) : Int) := by omega
      have key := bc_ok (P := P) (w := w) (K := K) (mg := mg) (base := base) (T := T) (f := f) (cdv := cdv) (A := A) (outer := outer) (s := s) (H := H) (E := E) B W hr n.toNat u.toNat (frOf up) (frOf sh) ⟨by omega, by omega⟩ (by omega) su ss
      rw [← en, ← eu2, ← eu, ← es] at key
      exact jo_ofN (PSs.nox key)
    · cases q : chB sh with
      | true => rw [q, if_pos rfl] at e; cases e
      | false => rfl
  · cases q : chB up with
    | true => rw [q, if_pos rfl] at e; cases e
    | false => rfl
end
end G
set_option Elab.async false
set_option linter.all false
set_option maxRecDepth 100000
set_option maxHeartbeats 4000000
namespace G
open PySem PySem.Spec PyProof.Rows L2
/-! ### a lot without its largest: by sorting, and one after the other -/
def vAt (votes : List Int) (c : Int) : Int := votes.getD c.toNat 0
theorem maxM_perm {l : List Int} {d : Int} {r : List Int} (h : l.Perm (d :: r)) (hs : ∀ y ∈ r, y ≤ d) : maxM l = d := by
  have hne : l ≠ [] := fun z => by
    subst z
    exact absurd h.length_eq (by simp)
  have h1 := maxM_mem l hne
  have h2 := maxM_le l d (h.mem_iff.mpr List.mem_cons_self)
  rcases List.mem_cons.mp (h.mem_iff.mp h1) with e | e
  · exact e
  · have := hs _ e
    omega
theorem eraseIdx_idxOf (a : Int) : ∀ l : List Int, a ∈ l → l.eraseIdx (l.idxOf a) = l.erase a
  | [], h => nomatch h
  | b :: l, h => by
    by_cases e : b = a
    · subst e
      simp
    · have e2 : (b == a) = false := by simpa using e
      have hm : a ∈ l := (List.mem_cons.mp h).resolve_left fun z => e z.symm
      rw [List.idxOf_cons, e2, List.erase_cons, e2]
      show b :: l.eraseIdx (l.idxOf a) = b :: l.erase a
      rw [eraseIdx_idxOf a l hm]
theorem drop_perm {l : List Int} {d : Int} {r : List Int} (h : l.Perm (d :: r)) (hs : ∀ y ∈ r, y ≤ d) : (dropMax l).Perm r := by
  unfold dropMax
  rw [maxM_perm h hs, eraseIdx_idxOf d l (h.mem_iff.mpr List.mem_cons_self)]
  have := h.erase d
  rwa [List.erase_cons_head] at this
theorem leftM_perm (votes lot : List Int) (D : List Int) (hD : (lot.map fun c => vAt votes c).Perm D) (hs : D.Pairwise (fun a b => b ≤ a)) : ∀ k, k ≤ D.length → (leftM votes lot k).Perm (D.drop k)
  | 0, _ => by
    rw [List.drop_zero]
    exact hD
  | k + 1, hk => by
    have ih := leftM_perm votes lot D hD hs k (by omega)
    have e : D.drop k = D[k]'(by omega) :: D.drop (k + 1) := (List.drop_eq_getElem_cons (by omega))
    rw [e] at ih
    have hp : (D.drop k).Pairwise (fun a b => b ≤ a) := hs.sublist (List.drop_sublist _ _)
    rw [e] at hp
    exact drop_perm ih (List.pairwise_cons.mp hp).1
theorem byM_sorted (votes lot : List Int) : ((byM votes lot).map fun c => vAt votes c).Pairwise (fun a b => b ≤ a) := by
  unfold byM
  have e : PySem.W.dataLe false (voteKey votes) = fun p q => decide (-(vAt votes p) < -(vAt votes q) ∨ (-(vAt votes p) = -(vAt votes q) ∧ p ≤ q)) := PySem.W.dataLe_ii (fun c => -(vAt votes c)) (fun c => c)
  have hp : (lot.mergeSort (PySem.W.dataLe false (voteKey votes))).Pairwise (fun a b => PySem.W.dataLe false (voteKey votes) a b = true) := PySem.W.sort_pairwise (PySem.W.sortLe_total _ _ _) lot
  refine (List.pairwise_map.mpr (hp.imp fun {a b} h => ?_))
  rw [e] at h
  have h := of_decide_eq_true h
  omega
theorem sum_app (l m : List Int) : (l ++ m).sum = l.sum + m.sum := List.sum_append
theorem sure_eq (votes lot : List Int) (u : Nat) : sureP votes lot u = sureM votes lot u := by
  unfold sureP sureM
  have hD : (lot.map fun c => vAt votes c).Perm ((byM votes lot).map fun c => vAt votes c) := ((byM_perm votes lot).symm.map _)
  have hl : ((byM votes lot).map fun c => vAt votes c).length = lot.length := by
    rw [List.length_map]
    exact (byM_perm votes lot).length_eq
  have h := leftM_perm votes lot _ hD (byM_sorted votes lot) (min u lot.length) (by omega)
  rw [sum_perm h]
  have e1 : sumM votes lot = ((byM votes lot).map fun c => vAt votes c).sum := sum_perm hD
  have e2 : sumM votes ((byM votes lot).take u) = (((byM votes lot).map fun c => vAt votes c).take u).sum := by
    unfold sumM
    rw [List.map_take]
    rfl
  rw [e1, e2]
  generalize (byM votes lot).map (fun c => vAt votes c) = D at hl
  have e3 : D.drop (min u lot.length) = D.drop u := by
    by_cases c : u ≤ lot.length
    · rw [Nat.min_eq_left c]
    · rw [Nat.min_eq_right (by omega), List.drop_of_length_le (by omega), List.drop_of_length_le (by omega)]
  rw [e3]
  have e4 : D.sum = (D.take u).sum + (D.drop u).sum := by
    rw [← sum_app, List.take_append_drop]
  omega
/-! ### the last lot is all copies -/
def fullL (n : Nat) : List Int := (List.range n).map fun (i : Nat) => (i : Int)
theorem lots_full : ∀ (n : Nat) (lot : List Int), lot ∈ lotsM n → lot.length = n → lot = fullL n
  | 0, lot, h, _ => by
    simp [lotsM] at h
    subst h
    rfl
  | n + 1, lot, h, hl => by
    unfold lotsM at h
    rcases List.mem_append.mp h with h | h
    · have := (lots_in n lot h).2
      omega
    · obtain ⟨l, hm, rfl⟩ := List.mem_map.mp h
      have e := lots_full n l hm (by simpa using hl)
      unfold fullL
      rw [List.range_succ, List.map_append, e]
      rfl
theorem full_in : ∀ n : Nat, fullL n ∈ lotsM n
  | 0 => List.mem_cons_self
  | n + 1 => by
    unfold lotsM
    refine List.mem_append_right _ (List.mem_map.mpr ⟨fullL n, full_in n, ?_⟩)
    unfold fullL
    rw [List.range_succ, List.map_append]
    rfl
theorem full_len (n : Nat) : (fullL n).length = n := by
  unfold fullL
  rw [List.length_map, List.length_range]
theorem lotKey_le {a b : List Int} (h : PySem.W.dataLe false lotKey a b = true) : a.length ≤ b.length := by
  rw [PySem.W.dataLe_eq] at h
  by_cases c : a.length ≤ b.length
  · exact c
  · exfalso
    have h : (!PySem.W.dataLt (lotKey b) (lotKey a)) = true := h
    have e : PySem.W.dataLt (lotKey b) (lotKey a) = true := by
      unfold lotKey
      rw [PySem.W.dataLt_pair (by simp [PySem.W.alike]) (by unfold tup; rw [PySem.W.alike]; exact alike_ints _ _), PySem.W.dataLt_int]
      have e1 : PyData.eqv (.int ((b.length : Nat) : Int)) (.int ((a.length : Nat) : Int)) = false := by
        simp only [PyData.eqv, beq_eq_false_iff_ne]
        omega
      rw [e1, if_neg (by decide)]
      exact decide_eq_true (by omega)
    rw [e] at h
    cases h
theorem lotsP_last (n : Nat) : (lotsP n).getLast? = some (fullL n) := by
  have hp : (lotsP n).Pairwise (fun a b => PySem.W.dataLe false lotKey a b = true) := PySem.W.sort_pairwise (PySem.W.sortLe_total _ _ _) (lotsM n)
  have hm : fullL n ∈ lotsP n := (lotsP_perm n).mem_iff.mpr (full_in n)
  have hne : lotsP n ≠ [] := fun z => by rw [z] at hm; cases hm
  rw [List.getLast?_eq_some_getLast hne]
  congr 1
  have hl := List.getLast_mem hne
  have hlen : ((lotsP n).getLast hne).length = n := by
    have h1 := (lots_in n _ ((lotsP_perm n).mem_iff.mp hl)).2
    obtain ⟨i, hi, e⟩ := List.mem_iff_getElem.mp hm
    have hlast : (lotsP n).getLast hne = (lotsP n)[(lotsP n).length - 1]'(by have := List.length_pos_iff.mpr hne; omega) := List.getLast_eq_getElem _
    rcases Nat.lt_or_ge i ((lotsP n).length - 1) with c | c
    · have h2 := lotKey_le ((List.pairwise_iff_getElem.mp hp) i ((lotsP n).length - 1) hi (by have := List.length_pos_iff.mpr hne; omega) c)
      rw [e, full_len, ← hlast] at h2
      omega
    · have ei : i = (lotsP n).length - 1 := by omega
      subst ei
      rw [hlast, e, full_len]
  exact lots_full n _ ((lotsP_perm n).mem_iff.mp hl) hlen
end G
set_option Elab.async false
set_option linter.all false
set_option maxRecDepth 100000
set_option maxHeartbeats 4000000
namespace G
open PySem PySem.Spec PyProof.Rows L2
/-! ### the worth, by tallies and by lots -/
theorem wr_fold (some' : List Int) (need : Int) (u : Nat) (ups : List (Int × Int)) : ∀ (l : List (List Int)) (a : Int × Int), l.foldl (wrStep some' need u ups) a =
    (a.1 + ((l.filter fun lot => decide (need ≤ sumM some' lot)).map fun lot => weightM ups lot).sum, a.2 + ((l.filter fun lot => enoughM some' need u lot).map fun lot => weightM ups lot).sum)
  | [], a => by simp
  | lot :: l, a => by
    rw [List.foldl_cons, wr_fold some' need u ups l]
    unfold wrStep
    dsimp only
    rw [List.filter_cons, List.filter_cons]
    have f : ∀ (b : Bool) (w : Int), w * oneIf b = if b = true then w else 0 := fun b w => by cases b <;> simp [oneIf]
    rw [f, f]
    refine Prod.ext ?_ ?_
    · dsimp only
      by_cases h : decide (need ≤ sumM some' lot) = true
      · rw [if_pos h, if_pos h, List.map_cons, List.sum_cons]
        omega
      · rw [if_neg h, if_neg h]
        omega
    · dsimp only
      by_cases h : enoughM some' need u lot = true
      · rw [if_pos h, if_pos h, List.map_cons, List.sum_cons]
        omega
      · rw [if_neg h, if_neg h]
        omega
def tallyW (v : List Int) (u : Nat) (ups : List (Int × Int)) : List (Int × Int × Int) := (weighM ups).map (tallyM v u)
theorem writ_eq (v : List Int) (u : Nat) (ups : List (Int × Int)) (need : Int) (hv : v.length = ups.length) : writM (tallyW v u ups) need = (wrM v need u ups).1 := by
  unfold wrM
  rw [wr_fold]
  unfold writM tallyW weighM
  rw [hv]
  have e : ((((lotsP ups.length).map fun lot => (lot, weightM ups lot)).map (tallyM v u)).filter fun t => decide (need ≤ t.1)).map (·.2.2) = ((lotsP ups.length).filter fun lot => decide (need ≤ sumM v lot)).map fun lot => weightM ups lot := by
    rw [List.map_map, List.filter_map, List.map_map]
    rfl
  rw [e, sum_perm (((lotsP_perm ups.length).filter _).map _)]
  show _ = 0 + _
  omega
theorem read_eq (v : List Int) (u : Nat) (ups : List (Int × Int)) (need : Int) (hv : v.length = ups.length) : readM (tallyW v u ups) v.sum need = (wrM v need u ups).2 := by
  unfold wrM
  rw [wr_fold]
  unfold readM tallyW weighM
  rw [hv]
  have e : ((((lotsP ups.length).map fun lot => (lot, weightM ups lot)).map (tallyM v u)).filter fun t => decide (v.sum - need < t.2.1)).map (·.2.2) = ((lotsP ups.length).filter fun lot => enoughM v need u lot).map fun lot => weightM ups lot := by
    rw [List.map_map, List.filter_map, List.map_map]
    have e2 : ((fun t : Int × Int × Int => decide (v.sum - need < t.2.1)) ∘ (tallyM v u ∘ fun lot => (lot, weightM ups lot))) = fun lot => enoughM v need u lot := by
      funext lot
      show decide (v.sum - need < sureP v lot u) = decide (v.sum - need < sureM v lot u)
      rw [sure_eq]
    rw [e2]
    rfl
  rw [e, sum_perm (((lotsP_perm ups.length).filter _).map _)]
  show _ = 0 + _
  omega
theorem worth_eq (v : List Int) (u : Nat) (ups : List (Int × Int)) (share : Int × Int) (need : Int) (hv : v.length = ups.length) : mixM share (readM (tallyW v u ups) v.sum need) (writM (tallyW v u ups) need) = worthM v need u ups share := by
  unfold worthM
  rw [writ_eq v u ups need hv, read_eq v u ups need hv]
theorem last_eq (v : List Int) (u : Nat) (ups : List (Int × Int)) (need : Int) (hv : v.length = ups.length) : decide (v.sum - need < ((tallyW v u ups).getLastD (0, 0, 0)).2.1) = enoughM v need u ((List.range v.length).map fun (i : Nat) => (i : Int)) := by
  unfold tallyW weighM
  rw [List.getLastD_eq_getLast?, List.map_map, List.getLast?_map, lotsP_last]
  show decide (v.sum - need < sureP v (fullL ups.length) u) = _
  rw [sure_eq, ← hv]
  rfl
/-! ### no worth is below nothing -/
def GoodP (q : Int × Int) : Prop := 0 ≤ q.1 ∧ q.1 ≤ q.2
theorem weight_ge (lot : List Int) : ∀ (l : List ((Int × Int) × Nat)) (a : Int), 0 ≤ a → (∀ q ∈ l, GoodP q.1) → 0 ≤ l.foldl (wStep lot) a
  | [], a, h, _ => h
  | q :: l, a, h, hg => by
    rw [List.foldl_cons]
    refine weight_ge lot l _ ?_ fun p hp => hg p (List.mem_cons_of_mem _ hp)
    obtain ⟨h1, h2⟩ := hg q List.mem_cons_self
    unfold wStep facM
    split
    · exact Int.mul_nonneg h h1
    · exact Int.mul_nonneg h (by omega)
theorem weightM_ge (ups : List (Int × Int)) (lot : List Int) (hg : ∀ q ∈ ups, GoodP q) : 0 ≤ weightM ups lot :=
  weight_ge lot _ 1 (by decide) fun q hq => hg q.1 (List.fst_mem_of_mem_zipIdx hq)
theorem sum_ge : ∀ l : List Int, (∀ x ∈ l, 0 ≤ x) → 0 ≤ l.sum
  | [], _ => Int.le_refl _
  | a :: l, h => by
    rw [List.sum_cons]
    have := sum_ge l fun x hx => h x (List.mem_cons_of_mem _ hx)
    have := h a List.mem_cons_self
    omega
theorem worth_ge (v : List Int) (u : Nat) (ups : List (Int × Int)) (share : Int × Int) (need : Int) (hg : ∀ q ∈ ups, GoodP q) (hs : GoodP share) : 0 ≤ worthM v need u ups share := by
  unfold worthM wrM mixM
  rw [wr_fold]
  have h1 := sum_ge (((lotsM v.length).filter fun lot => decide (need ≤ sumM v lot)).map fun lot => weightM ups lot) fun x hx => by
    obtain ⟨lot, _, rfl⟩ := List.mem_map.mp hx
    exact weightM_ge ups lot hg
  have h2 := sum_ge (((lotsM v.length).filter fun lot => enoughM v need u lot).map fun lot => weightM ups lot) fun x hx => by
    obtain ⟨lot, _, rfl⟩ := List.mem_map.mp hx
    exact weightM_ge ups lot hg
  obtain ⟨h3, h4⟩ := hs
  dsimp only
  refine Int.add_nonneg (Int.mul_nonneg h3 (by omega)) (Int.mul_nonneg (by omega) (by omega))
/-! ### the best need, the best votes -/
def beatV : Option (Int × List Int × Int) → Int → Bool
  | none, _ => true
  | some p, x => decide (p.1 < x)
def pickS (b : Option (Int × List Int × Int)) (v : List Int) : Option (Int × Int) → Option (Int × List Int × Int)
  | none => b
  | some q => if beatV b q.1 = true then some (q.1, v, q.2) else b
def bvS (u : Nat) (ws : List (List Int × Int)) (share : Int × Int) (b : Option (Int × List Int × Int)) (v : List Int) : Option (Int × List Int × Int) := pickS b v (needM v u ws share)
def bvM (ups : List (Int × Int)) (u : Nat) (share : Int × Int) : Option (Int × List Int × Int) := (allVotesM ups.length).foldl (bvS u (weighM ups) share) none
def bvOut (under : Int) : Option (Int × List Int × Int) → Best
  | none => none
  | some (x, v, nd) => some (v, nd, lowM x.toNat under.toNat)
def stOf (under : Int) : Option (Int × List Int × Int) → Int × Best
  | none => (-1, none)
  | some q => (q.1, some (q.2.1, q.2.2, lowM q.1.toNat under.toNat))
def nOf (under : Int) (v : List Int) (a : Int × Best) : Option (Int × Int) → Int × Best
  | none => a
  | some q => if a.1 < q.1 then (q.1, some (v, q.2, lowM q.1.toNat under.toNat)) else a
def ndF (v : List Int) (u : Nat) (ups : List (Int × Int)) (share : Int × Int) (n : Nat) : Option (Int × Int) := (List.range n).foldl (ndStep (tallyW v u ups) ((tallyW v u ups).getLastD (0, 0, 0)) v.sum share) none
section
variable (u : Nat) (ups : List (Int × Int)) (share : Int × Int) (under : Int)
theorem ndF_succ (v : List Int) (hv : v.length = ups.length) (n : Nat) : ndF v u ups share (n + 1) =
    if enoughM v (1 + (n : Nat)) u ((List.range v.length).map fun (i : Nat) => (i : Int)) = true then (if beatB (ndF v u ups share n) (worthM v (1 + (n : Nat)) u ups share) = true then some (worthM v (1 + (n : Nat)) u ups share, (1 + (n : Nat) : Int)) else ndF v u ups share n) else ndF v u ups share n := by
  have hc := last_eq v u ups (1 + (n : Nat)) hv
  have hx := worth_eq v u ups share (1 + (n : Nat)) hv
  show (List.range (n + 1)).foldl _ none = _
  rw [List.range_succ, List.foldl_append]
  show ndStep (tallyW v u ups) ((tallyW v u ups).getLastD (0, 0, 0)) v.sum share (ndF v u ups share n) n = _
  generalize ndF v u ups share n = b
  unfold ndStep
  dsimp only
  rw [hx]
  by_cases c : enoughM v (1 + (n : Nat)) u ((List.range v.length).map fun (i : Nat) => (i : Int)) = true
  · rw [c] at hc
    rw [if_pos c, if_pos (of_decide_eq_true hc)]
  · have c' : enoughM v (1 + (n : Nat)) u ((List.range v.length).map fun (i : Nat) => (i : Int)) = false := by simpa using c
    rw [c'] at hc
    rw [if_neg c, if_neg (of_decide_eq_false hc)]
theorem n_in (v : List Int) (a : Int × Best) (x : Int) (n : Nat) (c : enoughM v (1 + (n : Nat)) u ((List.range v.length).map fun (i : Nat) => (i : Int)) = true) (hx : worthM v (1 + (n : Nat)) u ups share = x) :
    nStep u ups share under v a n = if a.1 < x then (x, some (v, (1 + (n : Nat) : Int), lowM x.toNat under.toNat)) else a := by
  unfold nStep
  dsimp only
  rw [if_pos c, hx]
theorem n_out (v : List Int) (a : Int × Best) (n : Nat) (c : ¬ enoughM v (1 + (n : Nat)) u ((List.range v.length).map fun (i : Nat) => (i : Int)) = true) : nStep u ups share under v a n = a := by
  unfold nStep
  dsimp only
  rw [if_neg c]
theorem need_fold (v : List Int) (hv : v.length = ups.length) (a : Int × Best) : ∀ n : Nat, (List.range n).foldl (nStep u ups share under v) a = nOf under v a (ndF v u ups share n)
  | 0 => rfl
  | n + 1 => by
    rw [List.range_succ, List.foldl_append, need_fold v hv a n, ndF_succ u ups share v hv n]
    generalize ndF v u ups share n = b
    show nStep u ups share under v _ n = _
    by_cases c : enoughM v (1 + (n : Nat)) u ((List.range v.length).map fun (i : Nat) => (i : Int)) = true
    · rw [if_pos c]
      generalize hx : worthM v (1 + (n : Nat)) u ups share = x
      cases b with
      | none =>
        have e : nOf under v a none = a := rfl
        rw [e, n_in u ups share under v a x n c hx]
        rfl
      | some q =>
        by_cases c1 : a.1 < q.1
        · have e : nOf under v a (some q) = (q.1, some (v, q.2, lowM q.1.toNat under.toNat)) := if_pos c1
          rw [e, n_in u ups share under v _ x n c hx]
          by_cases c2 : q.1 < x
          · rw [if_pos c2, if_pos (show beatB (some q) x = true from decide_eq_true c2)]
            exact (if_pos (show a.1 < x by omega)).symm
          · rw [if_neg c2, if_neg (show ¬ beatB (some q) x = true from fun z => c2 (of_decide_eq_true z)), e]
        · have e : nOf under v a (some q) = a := if_neg c1
          rw [e, n_in u ups share under v _ x n c hx]
          by_cases c2 : q.1 < x
          · rw [if_pos (show beatB (some q) x = true from decide_eq_true c2)]
            rfl
          · rw [if_neg (show ¬ beatB (some q) x = true from fun z => c2 (of_decide_eq_true z)), e, if_neg (by omega)]
    · rw [if_neg c, n_out u ups share under v _ n c]
theorem need_ge (v : List Int) (hv : v.length = ups.length) (hg : ∀ q ∈ ups, GoodP q) (hs : GoodP share) : ∀ (n : Nat) (q : Int × Int), ndF v u ups share n = some q → 0 ≤ q.1
  | 0, q, h => nomatch h
  | n + 1, q, h => by
    have ih := need_ge v hv hg hs n
    have h0 := worth_ge v u ups share (1 + (n : Nat)) hg hs
    rw [ndF_succ u ups share v hv n] at h
    split at h
    · split at h
      · cases h
        exact h0
      · exact ih q h
    · exact ih q h
theorem pick_st (b : Option (Int × List Int × Int)) (v : List Int) (t : Option (Int × Int)) (ht : ∀ q, t = some q → 0 ≤ q.1) : nOf under v (stOf under b) t = stOf under (pickS b v t) := by
  cases t with
  | none => rfl
  | some q =>
    have hq := ht q rfl
    cases b with
    | none => exact if_pos (show (-1 : Int) < q.1 by omega)
    | some p =>
      by_cases c : p.1 < q.1
      · have e1 : nOf under v (stOf under (some p)) (some q) = (q.1, some (v, q.2, lowM q.1.toNat under.toNat)) := if_pos c
        have e2 : pickS (some p) v (some q) = some (q.1, v, q.2) := if_pos (decide_eq_true c)
        rw [e1, e2]
        rfl
      · have e1 : nOf under v (stOf under (some p)) (some q) = stOf under (some p) := if_neg c
        have e2 : pickS (some p) v (some q) = some p := if_neg fun z => c (of_decide_eq_true z)
        rw [e1, e2]
theorem pick_ge (b : Option (Int × List Int × Int)) (v : List Int) (t : Option (Int × Int)) (ht : ∀ q, t = some q → 0 ≤ q.1) (hb : ∀ q, b = some q → 0 ≤ q.1) : ∀ q, pickS b v t = some q → 0 ≤ q.1 := by
  intro q hq
  cases t with
  | none => exact hb q hq
  | some p =>
    have hq : (if beatV b p.1 = true then some (p.1, v, p.2) else b) = some q := hq
    split at hq
    · cases hq
      exact ht p rfl
    · exact hb q hq
theorem bv_fold (hg : ∀ q ∈ ups, GoodP q) (hs : GoodP share) : ∀ (l : List (List Int)) (b : Option (Int × List Int × Int)), (∀ v ∈ l, v.length = ups.length) → (∀ q, b = some q → 0 ≤ q.1) →
    l.foldl (vStep u ups share under) (stOf under b) = stOf under (l.foldl (bvS u (weighM ups) share) b) ∧ ∀ q, l.foldl (bvS u (weighM ups) share) b = some q → 0 ≤ q.1
  | [], b, _, hb => ⟨rfl, hb⟩
  | v :: l, b, hl, hb => by
    have hv := hl v List.mem_cons_self
    have hn := need_ge u ups share v hv hg hs v.sum.toNat
    rw [List.foldl_cons, List.foldl_cons]
    have e1 : vStep u ups share under (stOf under b) v = stOf under (bvS u (weighM ups) share b v) := by
      unfold vStep
      rw [need_fold u ups share under v hv]
      exact pick_st under b v (ndF v u ups share v.sum.toNat) hn
    rw [e1]
    exact bv_fold hg hs l _ (fun w hw => hl w (List.mem_cons_of_mem _ hw)) (pick_ge b v (ndF v u ups share v.sum.toNat) hn hb)
end
theorem bv_both (ups : List (Int × Int)) (u : Nat) (share : Int × Int) (hg : ∀ q ∈ ups, GoodP q) (hs : GoodP share) : votesDueM ups u share = bvOut (underM share.2 ups) (bvM ups u share) ∧ ∀ q, bvM ups u share = some q → 0 ≤ q.1 := by
  obtain ⟨h1, h2⟩ := bv_fold u ups share (underM share.2 ups) hg hs (allVotesM ups.length) none (fun v hv => (votes_in _ v (List.mem_filter.mp hv).1).1) (fun _ z => nomatch z)
  refine ⟨?_, h2⟩
  unfold votesDueM
  have e : ((-1 : Int), (none : Best)) = stOf (underM share.2 ups) none := rfl
  rw [e, h1]
  show (stOf _ (bvM ups u share)).2 = _
  cases bvM ups u share with
  | none => rfl
  | some q => rfl
theorem under_mul (b c : Int) : ∀ ups : List (Int × Int), underM (b * c) ups = underM b ups * c
  | [] => rfl
  | q :: ups => by
    show underM (b * c * q.2) ups = underM (b * q.2) ups * c
    rw [← under_mul (b * q.2) c ups]
    congr 1
    rw [Int.mul_assoc, Int.mul_comm c, ← Int.mul_assoc]
theorem under_one (c : Int) (ups : List (Int × Int)) : underM 1 ups * c = underM c ups := by
  rw [← under_mul, Int.one_mul]
end G
set_option Elab.async false
set_option linter.all false
set_option maxRecDepth 100000
set_option maxHeartbeats 4000000
namespace G
open PySem PySem.Spec PyProof.Rows L2
def bvD : Option (Int × List Int × Int) → PyData
  | none => .none
  | some q => .tuple [.int q.1, tup q.2.1, .int q.2.2]
abbrev nBv : List Str := ["ups", "unruly", "share", "weights", "under", "best", "votes", "told"]
theorem votes_sum {n : Nat} (hn : n ≤ 4) {v : List Int} (h : v ∈ allVotesM n) : v.length = n ∧ 0 ≤ v.sum ∧ v.sum ≤ 12 := by
  obtain ⟨h1, h2⟩ := votes_in n v (List.mem_filter.mp h).1
  have := sum_in v h2
  omega
theorem weigh_in (ups : List (Int × Int)) : ∀ q ∈ weighM ups, (∀ c ∈ q.1, 0 ≤ c ∧ c < ups.length) ∧ q.1.length ≤ ups.length := fun q hq => by
  obtain ⟨lot, hl, rfl⟩ := List.mem_map.mp hq
  exact lots_in _ lot ((lotsP_perm _).mem_iff.mp hl)
theorem weigh_len {ups : List (Int × Int)} (h : ups.length ≤ 10) : (weighM ups).length ≤ 1024 ∧ weighM ups ≠ [] := by
  have e : (weighM ups).length = (lotsM ups.length).length := by
    unfold weighM
    rw [List.length_map, (lotsP_perm _).length_eq]
  refine ⟨by rw [e]; exact lots_le h, fun z => ?_⟩
  rw [z] at e
  have := List.length_pos_of_mem (full_in ups.length)
  rw [← e] at this
  exact absurd this (by decide)
section
variable {P : Program} {w : World} {K : PySem.W.Frag} {mg : Str → Option Value} {base : Heap} {T : Tl} {f : Addr} {fd : FuncData} {CC CH fC fH : Addr}
theorem scBv : FnScope nBv ["ups", "unruly", "share"] (defScope (topS 40)) := ⟨rfl, rfl, rfl, by decide +kernel, rfl, by decide +kernel, by decide +kernel⟩
/-- the way without an error -/
theorem bv_ok (B : Bz mg) (W : Fd P w K mg base 2 "weights_of" (spD T RWeights)) (V : Fd P w K mg base 1 "tried_votes" (spD T RVotes)) (Nd : Fd P w K mg base 2 "best_need" (spD T RNeed)) (Lo : Fd P w K mg base 2 "in_lowest_terms" (spD T RLow))
    {cdv : Value} {A : Around} {outer : List Env} {s : Shared} {H : Hp} {E : XK} (hr : Room 5 (A.deeper (envOfC "best_votes" (defScope (topS 40)) s.heap.objs.size f cdv))) (ups : List (Int × Int)) (u : Nat) (sh : Int × Int) (hn : ups.length ≤ 4) (h1 : ∀ q ∈ ups, SmallP q) (h2 : SmallP sh) (g1 : ∀ q ∈ ups, GoodP q) (g2 : GoodP sh)
    (hu1 : 0 < underM sh.2 ups) (hu2 : underM sh.2 ups < 1000000) :
    JR (cxOf (L2.CX P w) P w K mg base nBv "best_votes" (defScope (topS 40)) f cdv A outer s H E).nox T H ((defBody (topS 40)).drop 3) none (startE nBv [.list (ups.map fr), .int (u : Int), fr sh]) (RD T H (bestD (votesDueM ups u sh))) := by
  obtain ⟨law, hge⟩ := bv_both ups u sh g1 g2
  rw [law]
  obtain ⟨hwl, hwn⟩ := weigh_len (ups := ups) (by omega)
  have hwi := weigh_in ups
  refine jr_cons (js_asg (ps_asg (j_call (W.mono (by decide)) hr (ja_cons (jv 0 rfl) ja_nil) ⟨ups, rfl, by omega, h1, rfl⟩)
    (pg_tup rfl (pgs_cons (pg_name (i := 3) scBv.nd rfl (Or.inl rfl)) (pgs_cons (pg_name (i := 4) scBv.nd rfl (Or.inl rfl)) pgs_nil)))) tg_two (fun _ _ z => nomatch z)) ?_
  refine jr_cons (js_set 5 scBv.nd j_non) ?_
  unfold bvM at hge ⊢
  generalize weighM ups = ws at hwl hwn hwi hge ⊢
  refine jr_cons (js_for (ds := (allVotesM ups.length).map tup) (js := [6]) (g := gName 6) (fun i => [some (.list (ups.map fr)), some (.int (u : Int)), some (fr sh), some (.list (ws.map encW)), some (.int (underM 1 ups)), some (bvD (((allVotesM ups.length).take i).foldl (bvS u ws sh) none)), none, none]) (fun _ => none)
    (fun d es => es.set 6 (some d)) PassesOwn.never rfl (ji_list (j_call (V.mono (by decide)) hr (ja_cons (j_lenL B.len (jv 0 rfl)) ja_nil) ⟨ups.length, by rw [List.length_map], hn, rfl⟩)) (pg_name (i := 6) scBv.nd rfl (Or.inl rfl)) (fun d _ => tg_name) (fun _ _ _ z => nomatch z) (fun i d hd => ?_)) ?_
  · have hi : i < (allVotesM ups.length).length := by
      have := (List.getElem?_eq_some_iff.mp hd).1
      rwa [List.length_map] at this
    obtain ⟨v, hv⟩ : ∃ v, (allVotesM ups.length)[i]? = some v := ⟨_, List.getElem?_eq_getElem hi⟩
    rw [List.getElem?_map, hv] at hd
    cases hd
    obtain ⟨v1, v2, v3⟩ := votes_sum hn (List.mem_of_getElem? hv)
    rw [fold_more (g := bvS u ws sh) hv]
    generalize ((allVotesM ups.length).take i).foldl (bvS u ws sh) none = b
    refine js_cons (js_set 7 scBv.nd (j_call (Nd.mono (by decide)) hr (ja_cons (jv 6 rfl) (ja_cons (jv 1 rfl) (ja_cons (jv 3 rfl) (ja_cons (jv 2 rfl) ja_nil)))) ⟨v, u, ws, sh, rfl, hwn, by omega, fun q hq => ⟨fun c hc => by have := (hwi q hq).1 c hc; omega, by have := (hwi q hq).2; omega⟩, by omega, ⟨v2, by omega⟩, h2, rfl⟩)) ?_
    unfold bvS
    generalize needM v u ws sh = t
    have lz : ∀ (x y z : Option PyData), Le [some (.list (ups.map fr)), some (.int (u : Int)), some (fr sh), some (.list (ws.map encW)), some (.int (underM 1 ups)), x, none, none] [some (.list (ups.map fr)), some (.int (u : Int)), some (fr sh), some (.list (ws.map encW)), some (.int (underM 1 ups)), x, y, z] :=
      fun x y z => Le.keep (Le.keep (Le.keep (Le.keep (Le.keep (Le.keep (Le.drop (Le.drop Le.nil)))))))
    cases t with
    | none => exact js_le (js_one (js_if (k := false) (jt_bo (jw_and (x := false) (y := false) (jt_notN (x := .none) (jv 7 rfl)) (fun z => nomatch z))) (fun z => nomatch z) (fun _ => ⟨rfl, rfl⟩))) (lz _ _ _)
    | some q =>
      cases b with
      | none => exact js_le (js_one (js_if (k := true) (jt_bo (jw_and (x := true) (y := true) (jt_notN (x := .tuple [.int q.1, .int q.2]) (jv 7 rfl)) (fun _ => jw_and1 (jt_bo (jw_or (x := true) (y := true) (jt_isN (x := .none) (jv 5 rfl)) (fun z => nomatch z))))))
          (fun _ => js_one (js_set 5 scBv.nd (d := bvD (some (q.1, v, q.2))) (j_tup (ja_cons (j_ixT (d := .int q.1) (i := 0) (jv 7 rfl) j_int rfl) (ja_cons (jv 6 rfl) (ja_cons (j_ixT (d := .int q.2) (i := 1) (jv 7 rfl) j_int rfl) ja_nil)))))) (fun z => nomatch z))) (lz _ _ _)
      | some p =>
        by_cases c : p.1 < q.1
        · have e : pickS (some p) v (some q) = some (q.1, v, q.2) := if_pos (decide_eq_true c)
          rw [e]
          exact js_le (js_one (js_if (k := true && (false || decide (p.1 < q.1))) (jt_bo (jw_and (x := true) (y := false || decide (p.1 < q.1)) (jt_notN (x := .tuple [.int q.1, .int q.2]) (jv 7 rfl)) (fun _ => jw_and1 (jt_bo (jw_or (x := false) (y := decide (p.1 < q.1)) (jt_isN (x := .tuple [.int p.1, tup p.2.1, .int p.2.2]) (jv 5 rfl)) (fun _ => jw_or1 (jt_gt (j_ixT (d := .int q.1) (i := 0) (jv 7 rfl) j_int rfl) (j_ixT (d := .int p.1) (i := 0) (jv 5 rfl) j_int rfl))))))))
            (fun _ => js_one (js_set 5 scBv.nd (d := bvD (some (q.1, v, q.2))) (j_tup (ja_cons (j_ixT (d := .int q.1) (i := 0) (jv 7 rfl) j_int rfl) (ja_cons (jv 6 rfl) (ja_cons (j_ixT (d := .int q.2) (i := 1) (jv 7 rfl) j_int rfl) ja_nil)))))) (fun z => by rw [decide_eq_true c] at z; cases z))) (lz _ _ _)
        · have e : pickS (some p) v (some q) = some p := if_neg fun z => c (of_decide_eq_true z)
          rw [e]
          exact js_le (js_one (js_if (k := true && (false || decide (p.1 < q.1))) (jt_bo (jw_and (x := true) (y := false || decide (p.1 < q.1)) (jt_notN (x := .tuple [.int q.1, .int q.2]) (jv 7 rfl)) (fun _ => jw_and1 (jt_bo (jw_or (x := false) (y := decide (p.1 < q.1)) (jt_isN (x := .tuple [.int p.1, tup p.2.1, .int p.2.2]) (jv 5 rfl)) (fun _ => jw_or1 (jt_gt (j_ixT (d := .int q.1) (i := 0) (jv 7 rfl) j_int rfl) (j_ixT (d := .int p.1) (i := 0) (jv 5 rfl) j_int rfl))))))))
            (fun z => absurd (by simpa using z) c) (fun _ => ⟨rfl, rfl⟩))) (lz _ _ _)
  · rw [List.length_map, List.take_length]
    generalize (allVotesM ups.length).foldl (bvS u ws sh) none = b at hge
    cases b with
    | none => exact jr_if (k := true) (jt_isN (x := .none) (jv 5 rfl)) (fun _ => jr_ret j_non rfl) (fun z => nomatch z)
    | some q =>
      have hq := hge q rfl
      have e0 : q.1 = ((q.1.toNat : Nat) : Int) := by omega
      have eu : underM 1 ups * sh.2 = (((underM sh.2 ups).toNat : Nat) : Int) := by rw [under_one]; omega
      refine jr_if (k := false) (jt_isN (x := .tuple [.int q.1, tup q.2.1, .int q.2.2]) (jv 5 rfl)) (fun z => nomatch z) fun _ => ?_
      exact jr_ret (j_tup (ja_cons (j_ixT (d := tup q.2.1) (i := 1) (jv 5 rfl) j_int rfl) (ja_cons (j_ixT (d := .int q.2.2) (i := 2) (jv 5 rfl) j_int rfl) (ja_cons (j_call (Lo.mono (by decide)) hr (ja_cons (j_ixT (d := .int q.1) (i := 0) (jv 5 rfl) j_int rfl) (ja_cons (j_mul (cmulR (by obtain ⟨_, a, b⟩ := h2; omega)) (jv 4 rfl) (j_ixT (jv 2 rfl) j_int rfl)) ja_nil))
        ⟨q.1.toNat, (underM sh.2 ups).toNat, by rw [← eu, ← e0], by omega, by omega, rfl⟩) ja_nil)))) rfl
end
end G
set_option Elab.async false
set_option linter.all false
set_option maxRecDepth 100000
set_option maxHeartbeats 4000000
namespace G
open PySem PySem.Spec PyProof.Rows L2
def upsOk (ups : List PyData) : Bool := (decide (1 ≤ (ups.length : Int)) && decide ((ups.length : Int) ≤ 4)) && ups.all chB
def bvO (CC CH : Addr) (ups : List PyData) (un sh : PyData) : Out :=
  if upsOk ups = true then
    if isNum un 0 (ups.length : Nat) = true then
      if chB sh = true then .ok (bestD (votesDueM (ups.map frOf) (match un with | .int u => u.toNat | _ => 0) (frOf sh))) else .err CH sh
    else .err CC un
  else .err CH (.list ups)
def RBv (CC CH : Addr) (ds : List PyData) (o : Out) : Prop := ∃ (ups : List PyData) (un sh : PyData), ds = [.list ups, un, sh] ∧ (∀ v ∈ ups, Fr v) ∧ ups.length ≤ 1000 ∧ (∀ kv, un ≠ .dict kv) ∧ Fr sh ∧ (underM (frOf sh).2 (ups.map frOf) < 1000000) ∧ o = bvO CC CH ups un sh
theorem under_pos : ∀ (ups : List (Int × Int)) (c : Int), 0 < c → (∀ q ∈ ups, 0 < q.2) → 0 < underM c ups
  | [], c, h, _ => h
  | q :: ups, c, h, hu => under_pos ups (c * q.2) (Int.mul_pos h (hu q List.mem_cons_self)) fun p hp => hu p (List.mem_cons_of_mem _ hp)
section
variable {P : Program} {w : World} {K : PySem.W.Frag} {mg : Str → Option Value} {base : Heap} {T : Tl} {f : Addr} {fd : FuncData} {CC CH fC fH : Addr}
theorem ok_bv (F : Fun K "best_votes" "best_votes" (topS 40) f fd) (hm : mg "best_votes" = some (.ref f)) (B : Bz mg) (C : Cz mg) (EC : ErT K mg P "NoCount" CC fC) (EH : ErT K mg P "NoChances" CH fH) (Li : Fd P w K mg base 1 "is_line" (spD T RLine)) (Ch : Fd P w K mg base 5 "are_chances" (spD T RChs)) (N : Fd P w K mg base 2 "is_number" (spD T RNumber))
    (L : FdX P w K mg base 5 "look_at_share" (spO T (RLook CH))) (W : Fd P w K mg base 2 "weights_of" (spD T RWeights)) (V : Fd P w K mg base 1 "tried_votes" (spD T RVotes)) (Nd : Fd P w K mg base 2 "best_need" (spD T RNeed)) (Lo : Fd P w K mg base 2 "in_lowest_terms" (spD T RLow)) :
    FdX P w K mg base 6 "best_votes" (spO T (RBv CC CH)) := by
  refine fd_O F scBv hm (F.binds fun _ _ _ _ _ _ us hl => match us, hl with | [_, _, _], _ => rfl) (fun ds o h => by obtain ⟨_, _, _, rfl, _⟩ := h; rfl) fun cdv A outer s H E hr ds o h => ?_
  obtain ⟨ups, un, sh, rfl, hups, hlen, hun, hsh, hund, rfl⟩ := h
  obtain ⟨u4, hu4, ru4⟩ := C.voters
  have tk : Takes (cxOf (L2.CX P w) P w K mg base nBv "best_votes" (defScope (topS 40)) f cdv A outer s H E) (fun cls d _ H => E cls d H) := takes_of rfl rfl rfl rfl
  unfold bvO
  have hc : (!(decide (1 ≤ (ups.length : Int)) && decide ((ups.length : Int) ≤ 4)) || !ups.all chB) = !upsOk ups := by
    unfold upsOk
    cases decide (1 ≤ (ups.length : Int)) && decide ((ups.length : Int) ≤ 4) <;> cases ups.all chB <;> rfl
  refine jo_if (c := !upsOk ups) (jt_as (jt_bo (jw_or (x := false) (y := !(decide (1 ≤ (ups.length : Int)) && decide ((ups.length : Int) ≤ 4)) || !ups.all chB) (jt_not (x := true) (jt_val (j_call (Li.mono (by decide)) hr (ja_cons (jv 0 rfl) ja_nil) ⟨.list ups, rfl, fun _ z => (nomatch z), rfl⟩)))
    fun _ => jw_or (jt_not (jt_chainLe j_int (j_lenL B.len (jv 0 rfl)) (j_glob rfl hu4 ru4) (pt_chain op_le op_le j_int (j_lenL B.len (jv 0 rfl)) (j_glob rfl hu4 ru4)))) fun _ => jw_or1 (jt_not (jt_val (j_call Ch hr (ja_cons (jv 0 rfl) (ja_cons (j_lenL B.len (jv 0 rfl)) ja_nil)) ⟨ups, rfl, hups, hlen, rfl⟩))))) hc) (fun hz => ?_) (fun hz => ?_)
  · have hz' : upsOk ups = false := by simpa using hz
    rw [hz', if_neg (by decide)]
    exact jo_raise (x := "NoChances") rfl EH hr tk (jv 0 rfl)
  have hok : upsOk ups = true := by simpa using hz
  rw [if_pos hok]
  refine jo_if (c := !isNum un 0 (ups.length : Nat)) (jt_not (jt_val (j_call (N.mono (by decide)) hr (ja_cons (jv 1 rfl) (ja_cons j_int (ja_cons (j_lenL B.len (jv 0 rfl)) ja_nil))) ⟨un, 0, (ups.length : Nat), rfl, hun, rfl⟩))) (fun hz => ?_) (fun hz => ?_)
  · have hz' : isNum un 0 (ups.length : Nat) = false := by simpa using hz
    rw [hz', if_neg (by decide)]
    exact jo_raise (x := "NoCount") rfl EC hr tk (jv 1 rfl)
  have hu : isNum un 0 (ups.length : Nat) = true := by simpa using hz
  rw [if_pos hu]
  refine jo_do L hr tk (ja_cons (jv 2 rfl) ja_nil) ⟨sh, rfl, hsh, rfl⟩ (fun d e => ?_) (fun Ca d e => ?_)
  · have h2 : chB sh = true := by
      cases q : chB sh with
      | true => rfl
      | false => rw [q] at e; cases e
    rw [if_pos h2]
    obtain ⟨n0, hall⟩ := Bool.and_eq_true_iff.mp hok
    obtain ⟨n1, n2⟩ := Bool.and_eq_true_iff.mp n0
    have n2 := of_decide_eq_true n2
    have hch : ∀ v ∈ ups, chB v = true := List.all_eq_true.mp hall
    cases un with
    | int u =>
      obtain ⟨u1, u2⟩ := Bool.and_eq_true_iff.mp hu
      have u1 := of_decide_eq_true u1
      have eu : u = ((u.toNat : Nat) : Int) := by omega
      obtain ⟨es, ss, s1, s2, s3, s4⟩ := ch_fr h2
      have eups : ups = (ups.map frOf).map fr := by
        rw [List.map_map]
        conv => lhs; rw [← List.map_id ups]
        exact List.map_congr_left fun v hv => (ch_fr (hch v hv)).1
      have sm : ∀ q ∈ ups.map frOf, SmallP q := fun q hq => by
        obtain ⟨v, hv, rfl⟩ := List.mem_map.mp hq
        exact (ch_fr (hch v hv)).2.1
      have gd : ∀ q ∈ ups.map frOf, GoodP q := fun q hq => by
        obtain ⟨v, hv, rfl⟩ := List.mem_map.mp hq
        exact (ch_fr (hch v hv)).2.2.2.2
      have pos : 0 < underM (frOf sh).2 (ups.map frOf) := under_pos _ _ s1 fun q hq => by
        obtain ⟨v, hv, rfl⟩ := List.mem_map.mp hq
        exact (ch_fr (hch v hv)).2.2.1
      have key := bv_ok (P := P) (w := w) (K := K) (mg := mg) (base := base) (T := T) (f := f) (cdv := cdv) (A := A) (outer := outer) (s := s) (H := H) (E := E) B W V Nd Lo hr (ups.map frOf) u.toNat (frOf sh) (by rw [List.length_map]; omega) sm ss gd ⟨s3, s4⟩ pos hund
      rw [← eups, ← eu, ← es] at key
      exact jo_of (PSs.nox key)
    | dict kv => exact absurd rfl (hun kv)
    | _ => cases hu
  · cases q : chB sh with
    | true => rw [q, if_pos rfl] at e; cases e
    | false => rfl
end
end G
set_option Elab.async false
set_option linter.all false
set_option maxRecDepth 100000
set_option maxHeartbeats 4000000
namespace G
open PySem PySem.Spec PyProof.Rows L2
/-! ### a tracked list put aside while an expression is evaluated -/
section
variable {X : Cx} {pins : List (Addr × Obj)} {σ σ' : L2.St} {H H1 : Hp} {s s1 : Shared} {l : Addr} {us : List V}
/-- what is known of the list that is put aside -/
structure Aside (X : Cx) (pins : List (Addr × Obj)) (H : Hp) (l : Addr) (us : List V) (its : List Value) (n : Nat) : Prop where
  len : us.length ≤ sizeLine
  vals : Vals us its
  new : ∀ o, X.s_0.heap.get? l = some o → X.H_0 l = none → l ∉ X.ex → False
  loc : l ≠ X.env.locals
  fs : l ∉ X.fs
  cel : ∀ x c, X.env.cells.lookup x = some c → c ≠ l
  pin : ∀ p ∈ X.pn ++ pins, p.1 ≠ l
theorem hide (I : Inv X pins σ H s) (h : H l = some (.lst us)) : ∃ its n, Aside X pins H l us its n ∧ Inv X ((l, { cls := .type "list", data := .seq its.toArray n }) :: pins) σ (cut H l) s := by
  obtain ⟨hz, its, n, rv, ho⟩ := I.hok l _ h
  have nN : ∀ {b : Addr}, H b = none → b ≠ l := fun {b} e z => by rw [z, h] at e; cases e
  have n1 : l ≠ X.env.locals := fun z => nN I.free z.symm
  have n2 : l ∉ X.fs := fun hm => by
    obtain ⟨_, o, ho2, _⟩ := I.ok.funs.mem hm
    exact nN (I.base.free l o ho2 (I.ok.frf l hm) fun z => I.ok.exfs l z hm) rfl
  refine ⟨its, n, ⟨hz, rv, fun o e1 e2 e3 => nN (I.base.free l o e1 e2 e3) rfl, n1, n2, fun x c e => nN (I.freeC x c e), fun p hp => nN (I.pin p hp).2.1⟩, ?_⟩
  have cc : ∀ {b : Addr} {u : HO}, H b = some u → (∀ xs, u ≠ .lst xs) → cut H l b = some u := fun {b u} e q => by
    rw [cut_ne fun z => by rw [z, h] at e; exact q us (Option.some.inj e).symm]
    exact e
  refine ⟨I.ok, I.os, I.bare, ⟨I.base.keep, I.base.slot, fun b o e1 e2 e3 => ?_, I.base.there, fun b xs e => cc (I.base.tups b xs e) (fun _ z => by cases z), fun b o u e => cc (I.base.frzs b o u e) (fun _ z => by cases z), fun b ps e => ?_⟩, I.loc, I.cell, ?_, fun x c e => ?_, fun p hp => ?_, fun b u e => ?_, I.len⟩
  · rw [cut_ne (nN (I.base.free b o e1 e2 e3))]
    exact I.base.free b o e1 e2 e3
  · obtain ⟨more, q⟩ := I.base.tbls b ps e
    exact ⟨more, cc q (fun _ z => by cases z)⟩
  · rw [cut_ne n1.symm]
    exact I.free
  · rw [cut_ne (nN (I.freeC x c e))]
    exact I.freeC x c e
  · rcases List.mem_append.mp hp with hp | hp
    · obtain ⟨a1, a2, a3⟩ := I.pin p (List.mem_append_left _ hp)
      exact ⟨a1, by rw [cut_ne (nN a2)]; exact a2, a3⟩
    · rcases List.mem_cons.mp hp with e | hp
      · subst e
        exact ⟨ho, cut_same, n1, n2, fun v z => by cases z⟩
      · obtain ⟨a1, a2, a3⟩ := I.pin p (List.mem_append_right _ hp)
        exact ⟨a1, by rw [cut_ne (nN a2)]; exact a2, a3⟩
  · obtain ⟨n3, e⟩ := cut_some e
    exact (I.hok b u e).stay (fun _ _ _ q => q) (fun c q => cc q (fun _ z => by cases z)) fun c xs q => cc q (fun _ z => by cases z)
theorem unhide {its : List Value} {n : Nat} (A : Aside X pins H l us its n) (I : Inv X ((l, { cls := .type "list", data := .seq its.toArray n }) :: pins) σ H1 s) : H1 l = none ∧ Inv X pins σ (upd H1 l (.lst us)) s := by
  obtain ⟨ho, hn, _⟩ := I.pin (l, { cls := .type "list", data := .seq its.toArray n }) (List.mem_append_right _ List.mem_cons_self)
  have hn : H1 l = none := hn
  have uu : ∀ {b : Addr} {u : HO}, H1 b = some u → upd H1 l (.lst us) b = some u := fun {b u} e => by
    rw [upd_ne (ne_of_none e hn)]
    exact e
  refine ⟨hn, ⟨I.ok, I.os, I.bare, ⟨I.base.keep, I.base.slot, fun b o e1 e2 e3 => ?_, I.base.there, fun b xs e => uu (I.base.tups b xs e), fun b o u e => uu (I.base.frzs b o u e), fun b ps e => ?_⟩, I.loc, I.cell, ?_, fun x c e => ?_, fun p hp => ?_, fun b u e => ?_, I.len⟩⟩
  · rw [upd_ne fun z => by rw [z] at e1 e2 e3; exact A.new o e1 e2 e3]
    exact I.base.free b o e1 e2 e3
  · obtain ⟨more, q⟩ := I.base.tbls b ps e
    exact ⟨more, uu q⟩
  · rw [upd_ne A.loc.symm]
    exact I.free
  · rw [upd_ne (A.cel x c e)]
    exact I.freeC x c e
  · obtain ⟨a1, a2, a3⟩ := I.pin p ((List.mem_append.mp hp).elim (fun z => List.mem_append_left _ z) fun z => List.mem_append_right _ (List.mem_cons_of_mem _ z))
    exact ⟨a1, by rw [upd_ne (A.pin p hp)]; exact a2, a3⟩
  · by_cases hb : b = l
    · subst hb
      rw [upd_same] at e
      cases e
      exact ⟨A.len, its, n, A.vals, ho⟩
    · rw [upd_ne hb] at e
      exact (I.hok b u e).stay (fun _ _ _ q => q) (fun c q => uu q) fun c xs q => uu q
end
theorem pe_frame {X : Cx} {e : Expr} {t : TE} (h : PE X e t) : PE X e (fun σ H Q => ∃ l us, H l = some (.lst us) ∧ t σ (cut H l) fun v H1 => H1 l = none → Q v (upd H1 l (.lst us))) := by
  refine ⟨fun pins s σ H Q I ⟨l, us, hl, q⟩ => ?_⟩
  obtain ⟨its, n, A, I1⟩ := hide I hl
  refine wpAny_mono (h.run _ s σ _ _ I1 q) (fun u s1 ⟨v, H1, J, r, q1⟩ => ?_) fun _ _ z => z
  obtain ⟨hn, J1⟩ := unhide A J
  exact ⟨v, _, J1, r, q1 hn⟩
theorem pt_frame {X : Cx} {e : Expr} {t : TT} (h : PT X e t) : PT X e (fun σ H Q => ∃ l us, H l = some (.lst us) ∧ t σ (cut H l) fun b H1 => H1 l = none → Q b (upd H1 l (.lst us))) := by
  refine ⟨fun pins s σ H Q I ⟨l, us, hl, q⟩ => ?_⟩
  obtain ⟨its, n, A, I1⟩ := hide I hl
  refine wpAny_mono (h.run _ s σ _ _ I1 q) (fun b s1 ⟨H1, J, q1⟩ => ?_) fun _ _ z => z
  obtain ⟨hn, J1⟩ := unhide A J
  exact ⟨_, J1, q1 hn⟩
/-! ### the source of draws: two whole numbers in a list -/
abbrev Pool := Int × Int
def poolV (s : Pool) : List V := [.int s.1, .int s.2]
/-- the list at l, in slot m, is the source s; all else is data beside it -/
structure AtP (T : Tl) (Hb : Hp) (m : Nat) (l : Addr) (es : Es) (s : Pool) (σ : L2.St) (H : Hp) : Prop where
  at_ : At T Hb none es σ (cut H l)
  slot : σ[m]? = some (some (.ref l))
  obj : H l = some (.lst (poolV s))
theorem upd_cut {H : Hp} {l : Addr} {o : HO} : upd (cut H l) l o = upd H l o := by
  funext b
  by_cases e : b = l
  · rw [e, upd_same, upd_same]
  · rw [upd_ne e, upd_ne e, cut_ne e]
theorem cut_updn {H : Hp} {l : Addr} {o : HO} (h : H l = none) : cut (upd H l o) l = H := by rw [cut_upd, cut_id h]
section
variable {X : Cx} {T : Tl} {Hb : Hp} {m : Nat} {l : Addr} {es es1 es2 : Es} {s s1 s2 : Pool}
theorem AtP.go {σ : L2.St} {H H1 : Hp} (a : AtP T Hb m l es s σ H) (u : Up T (cut H l) H1) (hn : H1 l = none) (s' : Pool) : AtP T Hb m l es s' σ (upd H1 l (.lst (poolV s'))) :=
  ⟨by rw [cut_updn hn]; exact a.at_.lift u, a.slot, upd_same⟩
/-- e is worth d; the source goes from s to s' -/
def tPe (T : Tl) (Hb : Hp) (m : Nat) (l : Addr) (es : Es) (s s' : Pool) (d : PyData) : TE := fun σ H Q => AtP T Hb m l es s σ H ∧ ∀ v H', AtP T Hb m l es s' σ H' → Up T (cut H l) (cut H' l) → Dx (cut H' l) v d → Q v H'
def tPa (T : Tl) (Hb : Hp) (m : Nat) (l : Addr) (es : Es) (s s' : Pool) (ds : List PyData) : TA := fun σ H Q => AtP T Hb m l es s σ H ∧ ∀ vs H', AtP T Hb m l es s' σ H' → Up T (cut H l) (cut H' l) → DxAll (cut H' l) vs ds → Q vs H'
def tPt (T : Tl) (Hb : Hp) (m : Nat) (l : Addr) (es : Es) (s s' : Pool) (b : Bool) : TT := fun σ H Q => AtP T Hb m l es s σ H ∧ ∀ H', AtP T Hb m l es s' σ H' → Up T (cut H l) (cut H' l) → Q b H'
def tPs (T : Tl) (Hb : Hp) (m : Nat) (l : Addr) (es : Es) (s : Pool) (es' : Es) (s' : Pool) : TS := fun D σ H => AtP T Hb m l es s σ H ∧ ∀ σ' H', AtP T Hb m l es' s' σ' H' → D.nx σ' H'
def tPr (T : Tl) (Hb : Hp) (m : Nat) (l : Addr) (es : Es) (s : Pool) (ret : V → Hp → Prop) : TS := fun D σ H => AtP T Hb m l es s σ H ∧ ∀ v H', ret v H' → D.rt v H'
abbrev JPe (X : Cx) (T : Tl) (Hb : Hp) (m : Nat) (l : Addr) (es : Es) (s : Pool) (e : Expr) (s' : Pool) (d : PyData) : Prop := PE X e (tPe T Hb m l es s s' d)
abbrev JPa (X : Cx) (T : Tl) (Hb : Hp) (m : Nat) (l : Addr) (es : Es) (s : Pool) (e : List Expr) (s' : Pool) (ds : List PyData) : Prop := PA X e (tPa T Hb m l es s s' ds)
abbrev JPt (X : Cx) (T : Tl) (Hb : Hp) (m : Nat) (l : Addr) (es : Es) (s : Pool) (e : Expr) (s' : Pool) (b : Bool) : Prop := PT X e (tPt T Hb m l es s s' b)
abbrev JPs (X : Cx) (T : Tl) (Hb : Hp) (m : Nat) (l : Addr) (st : Stmt) (es : Es) (s : Pool) (es' : Es) (s' : Pool) : Prop := PS X st (tPs T Hb m l es s es' s')
abbrev JPss (X : Cx) (T : Tl) (Hb : Hp) (m : Nat) (l : Addr) (st : List Stmt) (es : Es) (s : Pool) (es' : Es) (s' : Pool) : Prop := PSs X st (tPs T Hb m l es s es' s')
abbrev JPr (X : Cx) (T : Tl) (Hb : Hp) (m : Nat) (l : Addr) (st : List Stmt) (es : Es) (s : Pool) (ret : V → Hp → Prop) : Prop := PSs X st (tPr T Hb m l es s ret)
variable {a b e t : Expr} {xs : List Expr} {rest body th : List Stmt} {st : Stmt} {d d' : PyData} {ds : List PyData} {pos p : Pos} {x : Str}
theorem jp_of (h : J X T Hb none es e d) : JPe X T Hb m l es s e s d :=
  weakE (pe_frame h) fun σ H Q ⟨hA, q⟩ => ⟨l, poolV s, hA.obj, hA.at_, fun v H1 u1 d1 hn => q v _ (hA.go u1 hn s) (by rw [cut_updn hn]; exact u1) (by rw [cut_updn hn]; exact d1)⟩
theorem jpt_of {k : Bool} (h : JT X T Hb none es e k) : JPt X T Hb m l es s e s k :=
  weakT (pt_frame h) fun σ H Q ⟨hA, q⟩ => ⟨l, poolV s, hA.obj, hA.at_, fun H1 u1 hn => q _ (hA.go u1 hn s) (by rw [cut_updn hn]; exact u1)⟩
theorem jpa_nil : JPa X T Hb m l es s [] s [] := weakA pa_nil fun σ H Q ⟨hA, q⟩ => q [] H hA Up.refl .nil
theorem jpa_cons (ha : JPe X T Hb m l es s a s1 d) (hr : JPa X T Hb m l es s1 xs s2 ds) (hs : starEach (a :: xs) X.env = (false, eval a X.env) :: starEach xs X.env := by rfl) : JPa X T Hb m l es s (a :: xs) s2 (d :: ds) :=
  weakA (pa_cons ha hr hs) fun σ H Q ⟨hA, q⟩ => ⟨hA, fun v H1 A1 u1 d1 => ⟨A1, fun vs H2 A2 u2 d2 => q _ H2 A2 (u1.trans u2) (.cons (dx_mono u2.ext _ _ d1) d2)⟩⟩
theorem jp_as (h : JPe X T Hb m l es s e s1 d) (q : d = d') : JPe X T Hb m l es s e s1 d' := q ▸ h
theorem jp_op {op : Operator} {g : Int → Int → Int} {i j : Int} (ho : OpR X (binaryOp op) (rI0 fun i j => .int (g i j))) (ha : JPe X T Hb m l es s a s1 (.int i)) (hb : JPe X T Hb m l es s1 b s2 (.int j)) : JPe X T Hb m l es s (.BinOp a op b pos) s2 (.int (g i j)) :=
  weakE (pe_op ho ha hb) fun σ H Q ⟨hA, q⟩ => ⟨hA, fun u H1 A1 u1 d1 => ⟨A1, fun v H2 A2 u2 d2 => ⟨i, j, dx_int d1, dx_int d2, q _ H2 A2 (u1.trans u2) (.int _)⟩⟩⟩
theorem jp_add {i j : Int} (ha : JPe X T Hb m l es s a s1 (.int i)) (hb : JPe X T Hb m l es s1 b s2 (.int j)) : JPe X T Hb m l es s (.BinOp a .Add b pos) s2 (.int (i + j)) := jp_op op_add ha hb
theorem jpt_eq {i j : Int} (ha : JPe X T Hb m l es s a s1 (.int i)) (hb : JPe X T Hb m l es s1 b s2 (.int j)) : JPt X T Hb m l es s (.Compare a [.Eq] [b] pos) s2 (i == j) :=
  weakT (pt_cmpR op_eq ha hb (nomark _)) fun σ H Q ⟨hA, q⟩ => ⟨hA, fun u H1 A1 u1 d1 => ⟨A1, fun v H2 A2 u2 d2 => by
    rw [dx_int d1, dx_int d2]
    exact ⟨rfl, i == j, by rw [dec_int], q H2 A2 (u1.trans u2)⟩⟩⟩
theorem jp_ixL {i : Int} (ha : JPe X T Hb m l es s a s1 (.list ds)) (hb : JPe X T Hb m l es s1 b s2 (.int i)) (h : atI ds i = some d) (hs : PlainIx b := by exact fun _ _ => rfl) : JPe X T Hb m l es s (.Subscript a b pos) s2 d :=
  weakE (pe_ix ix_list ha hb hs) fun σ H Q ⟨hA, q⟩ => ⟨hA, fun u H1 A1 u1 d1 => ⟨A1, fun v H2 A2 u2 d2 => by
    obtain ⟨p, us, e, hl, hd⟩ := dx_lst d1
    obtain ⟨v', e1, e2⟩ := dxa_at (dxa_mono u2.ext _ _ hd) h
    exact ⟨p, us, i, v', e, dx_int d2, .inl (rdl_mono cut_sub (rdl_mono u2.ext hl)), e1, q v' H2 A2 (u1.trans u2) e2⟩⟩⟩
/-- x(source, ..) -/
def spS (T : Tl) (R : List PyData → Pool → Pool → PyData → Prop) : Sp := fun vs H Q _ => LamX.Tabs T H ∧ ∃ l s vs' ds s' d, vs = .ref l :: vs' ∧ H l = some (.lst (poolV s)) ∧ DxAll (cut H l) vs' ds ∧ R ds s s' d ∧
  ∀ v H1, Up T (cut H l) H1 → H1 l = none → Dx H1 v d → Q v (upd H1 l (.lst (poolV s')))
theorem tabs_cut {H : Hp} {l : Addr} {us : List V} (t : LamX.Tabs T H) (h : H l = some (.lst us)) : LamX.Tabs T (cut H l) := fun p hp => by
  obtain ⟨ps, a1, a2, a3⟩ := t p hp
  have n : ∀ {b : Addr} {u : HO}, H b = some u → (∀ xs, u ≠ .lst xs) → cut H l b = some u := fun {b u} e q => by
    rw [cut_ne fun z => by rw [z, h] at e; exact q us (Option.some.inj e).symm]
    exact e
  refine ⟨ps, n a1 (fun _ z => by cases z), a2, fun pos cv hc => ?_⟩
  obtain ⟨c, e1, e2⟩ := a3 pos cv hc
  exact ⟨c, e1, n e2 fun xs z => by unfold LamX.CodeO at z; cases z⟩
theorem tabs_put {H : Hp} {l : Addr} {o : HO} (t : LamX.Tabs T H) (h : H l = none) : LamX.Tabs T (upd H l o) := t.ext fun b u e => by
  rw [upd_ne (ne_of_none e h)]
  exact e
theorem AtP.tabs {σ : L2.St} {H : Hp} (a : AtP T Hb m l es s σ H) : LamX.Tabs T H := by
  have h := tabs_put (o := .lst (poolV s)) a.at_.tab (cut_same (H := H) (l := l))
  rw [upd_cut, upd_id a.obj] at h
  exact h
theorem jp_call {R : List PyData → Pool → Pool → PyData → Prop} {k : Nat} {y : Str} {pp : Pos} (F : Fd X.prog X.w X.K X.mg X.base k x (spS T R)) (hr : Room k X.A) (ha : JPa X T Hb m l es s xs s1 ds) (hR : R ds s1 s2 d) (hN : X.N[m]? = some y := by rfl)
    (hvs : Vis X.env.scope y := by first | exact Or.inl rfl | exact Or.inr (Or.inl rfl) | exact Or.inr (Or.inr rfl)) (hd : (y == ("__debug__" : Str)) = false := by decide) (hcd : (y == ("__classdict__" : Str)) = false := by decide) (hg : Gl X x := by rfl) (hdb : (x == ("__debug__" : Str)) = false := by decide)
    (he : starEach (.Name y pp :: xs) X.env = (false, eval (.Name y pp) X.env) :: starEach xs X.env := by rfl) (hpl : (backTo pos (starEach xs X.env)).any (·.1) = false := by rfl) : JPe X T Hb m l es s (.Call (.Name x p) (.Name y pp :: xs) [] pos) s2 d := by
  obtain ⟨fa, fd, ps, F0, hm, hk, hb⟩ := F.ex
  refine weakE (pe_call F0 hr hg hm hk hb .nil pass0 (pa_cons (pe_var (i := m) hN hvs hd hcd) ha he) hdb he hpl) fun σ H Q ⟨hA, q⟩ => ⟨.ref l, hA.slot, hA, fun vs H1 A1 u1 h1 => ?_⟩
  show spS T R ((.ref l :: vs) ++ []) H1 Q E0
  rw [List.append_nil]
  refine ⟨A1.tabs, l, s1, vs, ds, s2, d, rfl, A1.obj, h1, hR, fun v H2 u2 hn d2 => q v _ (A1.go u2 hn s2) ?_ ?_⟩
  · rw [cut_updn hn]
    exact u1.trans u2
  · rw [cut_updn hn]
    exact d2
/-! ### statements beside the source -/
theorem AtP.set {σ : L2.St} {H : Hp} {v : V} {j : Nat} (a : AtP T Hb m l es s σ H) (n : m ≠ j) (h : Dx (cut H l) v d) : AtP T Hb m l (es.set j (some d)) s (σ.set j (some v)) H :=
  ⟨a.at_.set (fun _ _ z => nomatch z) h, by rw [List.getElem?_set_ne n.symm]; exact a.slot, a.obj⟩
theorem AtP.le {σ : L2.St} {H : Hp} (a : AtP T Hb m l es s σ H) (h : Le es2 es) : AtP T Hb m l es2 s σ H := ⟨a.at_.le h, a.slot, a.obj⟩
theorem jps_nil : JPss X T Hb m l [] es s es s := weakSs pss_nil fun D σ H ⟨hA, q⟩ => q σ H hA
theorem jps_cons (h1 : JPs X T Hb m l st es s es1 s1) (h2 : JPss X T Hb m l rest es1 s1 es2 s2) : JPss X T Hb m l (st :: rest) es s es2 s2 :=
  weakSs (pss_cons h1 h2) fun D σ H ⟨hA, q⟩ => ⟨hA, fun σ1 H1 hA1 => ⟨hA1, q⟩⟩
theorem jps_le (h : JPss X T Hb m l rest es s es1 s1) (k : Le es2 es1) : JPss X T Hb m l rest es s es2 s1 := weakSs h fun D σ H ⟨hA, q⟩ => ⟨hA, fun σ' H' A' => q σ' H' (A'.le k)⟩
theorem jpr_cons {ret : V → Hp → Prop} (h1 : JPs X T Hb m l st es s es1 s1) (h2 : JPr X T Hb m l rest es1 s1 ret) : JPr X T Hb m l (st :: rest) es s ret :=
  weakSs (pss_cons h1 h2) fun D σ H ⟨hA, q⟩ => ⟨hA, fun σ1 H1 hA1 => ⟨hA1, q⟩⟩
theorem jps_set (j : Nat) {pos' : Pos} (hN : X.N.Nodup) (h : JPe X T Hb m l es s e s1 d) (n : m ≠ j := by decide) (hi : X.N[j]? = some x := by rfl) (hx : Loc X.env.scope x := by first | exact Or.inl rfl | exact Or.inr rfl)
    (hs : swapsWith e (some (.Name x pos')) pos.line X.env = pure false := by rfl) (hf : X.fn x = true ∨ X.env.scope.names.lookup x = some .local := by first | exact .inl rfl | exact .inr rfl) : JPs X T Hb m l (.Assign [.Name x pos'] e pos) es s (es.set j (some d)) s1 :=
  weakS (ps_set hN hi hx h hs hf) fun D σ H ⟨hA, q⟩ => ⟨hA, fun v H1 A1 u1 d1 => q _ H1 (A1.set n d1)⟩
theorem jpr_if {k : Bool} {ret : V → Hp → Prop} (hc : JPt X T Hb m l es s t s1 k) (h1 : k = true → JPr X T Hb m l th es s1 ret) (h2 : k = false → JPr X T Hb m l rest es s1 ret) : JPr X T Hb m l (.If t th [] pos :: rest) es s ret := by
  cases k with
  | true => exact weakSs (pss_cons (ps_if hc (h1 rfl) pss_nil) pss_never) fun D σ H ⟨hA, q⟩ => ⟨hA, fun H1 A1 u1 => iteT ⟨A1, q⟩⟩
  | false => exact weakSs (pss_cons (ps_if hc (pss_never (sts := th)) pss_nil) (h2 rfl)) fun D σ H ⟨hA, q⟩ => ⟨hA, fun H1 A1 u1 => iteF ⟨A1, q⟩⟩
theorem jps_skip (hc : JPt X T Hb m l es s t s1 false) : JPs X T Hb m l (.If t th [] pos) es s es s1 :=
  weakS (ps_if hc (pss_never (sts := th)) pss_nil) fun D σ H ⟨hA, q⟩ => ⟨hA, fun H1 A1 u1 => iteF (q σ H1 A1)⟩
theorem jpr_ret {ret : V → Hp → Prop} (h : JPe X T Hb m l es s e s1 d) (hq : ∀ v σ H', AtP T Hb m l es s1 σ H' → Dx (cut H' l) v d → ret v H') : JPr X T Hb m l [.Return (some e) pos] es s ret :=
  weakSs (pss_one (ps_ret h)) fun D σ H ⟨hA, q⟩ => ⟨hA, fun v H1 A1 u1 d1 => q v H1 (hq v σ H1 A1 d1)⟩
end
end G
set_option Elab.async false
set_option linter.all false
set_option maxRecDepth 100000
set_option maxHeartbeats 4000000
namespace G
open PySem PySem.Spec PyProof.Rows L2
section
variable {X : Cx} {T : Tl} {Hb : Hp} {m : Nat} {l : Addr} {es es1 es2 : Es} {s s1 s2 : Pool} {a b e : Expr} {pos p : Pos} {i j : Int}
theorem jp_opC {op : Operator} {C : Int → Int → Prop} {g : Int → Int → Int} (ho : OpR X (binaryOp op) (rI C fun i j => .int (g i j))) (hc : C i j) (ha : JPe X T Hb m l es s a s1 (.int i)) (hb : JPe X T Hb m l es s1 b s2 (.int j)) : JPe X T Hb m l es s (.BinOp a op b pos) s2 (.int (g i j)) :=
  weakE (pe_op ho ha hb) fun σ H Q ⟨hA, q⟩ => ⟨hA, fun u H1 A1 u1 d1 => ⟨A1, fun v H2 A2 u2 d2 => ⟨i, j, dx_int d1, dx_int d2, hc, q _ H2 A2 (u1.trans u2) (.int _)⟩⟩⟩
theorem jp_mul (hc : CMul i j) (ha : JPe X T Hb m l es s a s1 (.int i)) (hb : JPe X T Hb m l es s1 b s2 (.int j)) : JPe X T Hb m l es s (.BinOp a .Mult b pos) s2 (.int (i * j)) := jp_opC op_mul hc ha hb
theorem jp_fdiv (hc : CDiv i j) (ha : JPe X T Hb m l es s a s1 (.int i)) (hb : JPe X T Hb m l es s1 b s2 (.int j)) : JPe X T Hb m l es s (.BinOp a .FloorDiv b pos) s2 (.int (i / j)) := jp_opC op_fdiv hc ha hb
theorem jp_mod (hc : 0 < j) (ha : JPe X T Hb m l es s a s1 (.int i)) (hb : JPe X T Hb m l es s1 b s2 (.int j)) : JPe X T Hb m l es s (.BinOp a .Mod b pos) s2 (.int (i % j)) := jp_opC op_mod hc ha hb
theorem jp_intI (hm : X.mg "int" = none) (ha : JPe X T Hb m l es s a s1 (.int i)) (hg : Gl X "int" := by rfl) (he : starEach (a :: []) X.env = (false, eval a X.env) :: starEach [] X.env := by rfl) : JPe X T Hb m l es s (.Call (.Name "int" p) [a] [] pos) s1 (.int i) :=
  weakE (pe_callTy call_int1 hg hm (by decide +kernel) (pa_cons ha pa_nil he) (by decide) (by decide) he rfl) fun σ H Q ⟨hA, q⟩ => ⟨hA, fun v H1 A1 u1 d1 => .inl ⟨i, by rw [dx_int d1], q _ H1 A1 u1 (.int _)⟩⟩
theorem jpt_gt (ha : JPe X T Hb m l es s a s1 (.int i)) (hb : JPe X T Hb m l es s1 b s2 (.int j)) : JPt X T Hb m l es s (.Compare a [.Gt] [b] pos) s2 (decide (j < i)) :=
  weakT (pt_cmpR op_gt ha hb (nomark _)) fun σ H Q ⟨hA, q⟩ => ⟨hA, fun u H1 A1 u1 d1 => ⟨A1, fun v H2 A2 u2 d2 => ⟨i, j, dx_int d1, dx_int d2, _, rfl, q H2 A2 (u1.trans u2)⟩⟩⟩
def pget (s : Pool) (k : Nat) : Int := if k = 0 then s.1 else s.2
def pset (s : Pool) (k : Nat) (x : Int) : Pool := if k = 0 then (x, s.2) else (s.1, x)
theorem pool_at (s : Pool) {k : Nat} (hk : k < 2) : atI (poolV s) (k : Int) = some (.int (pget s k)) := by
  match k, hk with
  | 0, _ => rfl
  | 1, _ => rfl
theorem pool_set (s : Pool) {k : Nat} (hk : k < 2) (x : Int) : (poolV s).set k (.int x) = poolV (pset s k x) := by
  match k, hk with
  | 0, _ => rfl
  | 1, _ => rfl
/-- source[k] -/
theorem jp_src (k : Nat) {jj : Nat} {y : Str} {pp p2 : Pos} (hk : k < 2) (hN : X.N[m]? = some y := by rfl) (hvs : Vis X.env.scope y := by first | exact Or.inl rfl | exact Or.inr (Or.inl rfl) | exact Or.inr (Or.inr rfl)) (hd : (y == ("__debug__" : Str)) = false := by decide) (hcd : (y == ("__classdict__" : Str)) = false := by decide) :
    JPe X T Hb m l es s (.Subscript (.Name y pp) (.Constant (.int (k : Int)) jj p2) pos) s (.int (pget s k)) :=
  weakE (pe_ix ix_list (pe_var (i := m) hN hvs hd hcd) pe_int (fun _ _ => rfl)) fun σ H Q ⟨hA, q⟩ => ⟨.ref l, hA.slot, l, poolV s, (k : Int), .int (pget s k), rfl, rfl, .inl (.inl hA.obj), pool_at s hk, q _ H hA Up.refl (.int _)⟩
/-- source[k] = e -/
theorem jps_src (k : Nat) {jj : Nat} {y : Str} {pp p2 p3 : Pos} (hk : k < 2) (he : JPe X T Hb m l es s e s1 (.int i)) (hN : X.N[m]? = some y := by rfl) (hvs : Vis X.env.scope y := by first | exact Or.inl rfl | exact Or.inr (Or.inl rfl) | exact Or.inr (Or.inr rfl)) (hd : (y == ("__debug__" : Str)) = false := by decide) (hcd : (y == ("__classdict__" : Str)) = false := by decide)
    (hs : swapsWithSole [.Subscript (.Name y pp) (.Constant (.int (k : Int)) jj p2) p3] e pos.line X.env = pure false := by rfl) (hw : swappedStores [.Subscript (.Name y pp) (.Constant (.int (k : Int)) jj p2) p3] e X.env = pure none := by rfl)
    (h1 : (assignEach [.Subscript (.Name y pp) (.Constant (.int (k : Int)) jj p2) p3] X.env).map (·.2) = [assign (.Subscript (.Name y pp) (.Constant (.int (k : Int)) jj p2) p3) X.env] := by rfl) :
    JPs X T Hb m l (.Assign [.Subscript (.Name y pp) (.Constant (.int (k : Int)) jj p2) p3] e pos) es s es (pset s1 k i) :=
  weakS (ps_asg he (pg_sub (pe_var (i := m) hN hvs hd hcd) pe_int set_list) hs hw h1) fun D σ H ⟨hA, q⟩ => ⟨hA, fun v H1 A1 u1 d1 => by
    have ev := dx_int d1
    subst ev
    refine ⟨.ref l, A1.slot, l, poolV s1, (k : Int), k, rfl, rfl, A1.obj, ?_, q σ _ ?_⟩
    · match k, hk with
      | 0, _ => rfl
      | 1, _ => rfl
    · rw [pool_set s1 hk, ← upd_cut]
      exact A1.go Up.refl cut_same _⟩
end
/-! ### defs that draw -/
def startP (N : List Str) (ds : List PyData) : Es := none :: (ds.map some ++ List.replicate (N.length - 1 - ds.length) none)
theorem at_startP {T : Tl} {H : Hp} {l : Addr} {N : List Str} {vs : List V} {ds : List PyData} {s : Pool} (t : LamX.Tabs T H) (ho : H l = some (.lst (poolV s))) (h : DxAll (cut H l) vs ds) : AtP T (cut H l) 0 l (startP N ds) s (L2.start N (.ref l :: vs)) H := by
  refine ⟨⟨Up.refl, tabs_cut t ho, ⟨?_, fun i d e => ?_⟩, fun _ _ z => nomatch z⟩, rfl, ho⟩
  · unfold L2.start startP
    rw [List.length_append, List.length_map, List.length_replicate, List.length_cons, List.length_cons, List.length_append, List.length_map, List.length_replicate, dxa_len h]
    omega
  · cases i with
    | zero => exact nomatch (show some (none : Option PyData) = some (some d) from e)
    | succ i =>
      have e : (ds.map some ++ List.replicate (N.length - 1 - ds.length) none)[i]? = some (some d) := e
      by_cases hi : i < ds.length
      · rw [List.getElem?_append_left (by rw [List.length_map]; exact hi), List.getElem?_map] at e
        cases q : ds[i]? with
        | none =>
          rw [q] at e
          cases e
        | some d' =>
          rw [q] at e
          have e' : d' = d := Option.some.inj (Option.some.inj e)
          subst e'
          obtain ⟨v, h1, h2⟩ := dxa_get h q
          refine ⟨v, ?_, h2⟩
          show (((V.ref l :: vs).map some) ++ _)[i + 1]? = _
          rw [List.getElem?_append_left (by rw [List.length_map, List.length_cons, dxa_len h]; omega), List.getElem?_map, List.getElem?_cons_succ, h1]
          rfl
      · rw [List.getElem?_append_right (by rw [List.length_map]; omega)] at e
        have z := List.mem_of_getElem? e
        rw [List.mem_replicate] at z
        cases z.2
/-- what such a def hands back -/
def RS (T : Tl) (Hb : Hp) (l : Addr) (s' : Pool) (d : PyData) : V → Hp → Prop := fun v H' => ∃ H1, Up T Hb H1 ∧ H1 l = none ∧ H' = upd H1 l (.lst (poolV s')) ∧ Dx H1 v d
theorem rs_of {T : Tl} {Hb : Hp} {m : Nat} {l : Addr} {es : Es} {s : Pool} {σ : L2.St} {H : Hp} {v : V} {d : PyData} (a : AtP T Hb m l es s σ H) (h : Dx (cut H l) v d) : RS T Hb l s d v H :=
  ⟨cut H l, a.at_.up, cut_same, by rw [upd_cut, upd_id a.obj], h⟩
section
variable {P : Program} {w : World} {K : PySem.W.Frag} {mg : Str → Option Value} {base : Heap} {T : Tl} {k : Nat} {x : Str} {st : Stmt} {f : Addr} {fd : FuncData} {N ps : List Str}
theorem fd_S {R : List PyData → Pool → Pool → PyData → Prop} (F : Fun K x x st f fd) (S : FnScope N ps (defScope st)) (hm : mg x = some (.ref f)) (hb : Binds K fd ps []) (hlen : ∀ ds s s' d, R ds s s' d → ds.length + 1 = ps.length)
    (body : ∀ (cdv : Value) (A : Around) (outer : List Env) (s : Shared) (H : Hp) (E : XK), Room k (A.deeper (envOfC x (defScope st) s.heap.objs.size f cdv)) → ∀ (l : Addr) ds sp sp' d, R ds sp sp' d →
      JPr (cxOf CX0 P w K mg base N x (defScope st) f cdv A outer s H E).nox T (cut H l) 0 l (defBody st) (startP N ds) sp (RS T (cut H l) l sp' d)) :
    Fd P w K mg base (k + 1) x (spS T R) :=
  ⟨f, fd, ps, F.ok S (fun vs H Q E h => by
    obtain ⟨_, l, sp, vs', ds, sp', d, e, h1, h2, h3, _⟩ := h
    rw [e, List.length_cons, dxa_len h2]
    exact hlen ds sp sp' d h3) (fun cdv A outer s H vs Q E hr h => by
      obtain ⟨t, l, sp, vs', ds, sp', d, e, h1, h2, h3, q⟩ := h
      subst e
      exact ⟨_, body cdv A outer s H E hr l ds sp sp' d h3, at_startP t h1 h2, fun v H' ⟨H1, u, hn, e, dd⟩ => by
        subst e
        exact q v H1 u hn dd⟩), hm, F.kp, hb⟩
/-! ### _law_take -/
def takeM (s : Pool) (top : Int) : Int × Pool :=
  if 0 < s.1 then (s.1 % top, (s.1 / top, s.2))
  else
    let z := (s.2 * 39373 + 7) % 2147483647
    (z * z % 2147483629 / 32 % top, (s.1, z))
theorem takeM_in (s : Pool) (top : Int) (h : 0 < top) : 0 ≤ (takeM s top).1 ∧ (takeM s top).1 < top := by
  unfold takeM
  split
  · exact ⟨Int.emod_nonneg _ (by omega), Int.emod_lt_of_pos _ h⟩
  · exact ⟨Int.emod_nonneg _ (by omega), Int.emod_lt_of_pos _ h⟩
def RTake (ds : List PyData) (s s' : Pool) (d : PyData) : Prop := ∃ top : Int, ds = [.int top] ∧ 0 < top ∧ top ≤ 1000 ∧ s' = (takeM s top).2 ∧ d = .int (takeM s top).1
theorem scTake : FnScope ["_law_source", "_law_top", "_law_told"] ["_law_source", "_law_top"] (defScope (topS 43)) := ⟨rfl, rfl, rfl, by decide +kernel, rfl, by decide +kernel, by decide +kernel⟩
theorem ok_take (F : Fun K "_law_take" "_law_take" (topS 43) f fd) (hm : mg "_law_take" = some (.ref f)) (B : Bz mg) : Fd P w K mg base 1 "_law_take" (spS T RTake) := by
  refine fd_S F scTake hm (F.binds fun _ _ _ _ _ _ us hl => match us, hl with | [_, _], _ => rfl) (fun ds s s' d h => by obtain ⟨_, rfl, _⟩ := h; rfl) fun cdv A outer s H E hr l ds sp sp' d h => ?_
  obtain ⟨top, rfl, h0, h1, rfl, rfl⟩ := h
  obtain ⟨x, y⟩ := sp
  refine jpr_if (k := decide (0 < x)) (jpt_gt (jp_src 0 (by decide)) (jp_of j_int)) (fun hx => ?_) (fun hx => ?_)
  · have hx := of_decide_eq_true hx
    have e : takeM (x, y) top = (x % top, (x / top, y)) := if_pos hx
    rw [e]
    refine jpr_cons (jps_set 2 scTake.nd (jp_mod h0 (jp_intI B.int (jp_src 0 (by decide))) (jp_of (jv 1 rfl)))) ?_
    refine jpr_cons (jps_src 0 (by decide) (jp_fdiv ⟨by omega, by omega⟩ (jp_src 0 (by decide)) (jp_of (jv 1 rfl)))) ?_
    exact jpr_ret (jp_of (jv 2 rfl)) fun v σ H' a hd => rs_of a hd
  · have hx := of_decide_eq_false hx
    have e : takeM (x, y) top = ((y * 39373 + 7) % 2147483647 * ((y * 39373 + 7) % 2147483647) % 2147483629 / 32 % top, (x, (y * 39373 + 7) % 2147483647)) := if_neg hx
    rw [e]
    refine jpr_cons (jps_src 1 (by decide) (jp_mod (by decide) (jp_intI B.int (jp_add (jp_mul (cmulR (by decide)) (jp_src 1 (by decide)) (jp_of j_int)) (jp_of j_int))) (jp_of j_int))) ?_
    refine jpr_ret (s1 := pset (x, y) 1 ((y * 39373 + 7) % 2147483647)) (jp_mod h0 (jp_intI B.int (jp_fdiv ⟨by decide, by decide⟩ (jp_mod (by decide) (jp_intI B.int (jp_mul ?_ (jp_src 1 (by decide)) (jp_src 1 (by decide)))) (jp_of j_int)) (jp_of j_int))) (jp_of (jv 1 rfl))) fun v σ H' a hd => rs_of a hd
    have z1 : 0 ≤ (y * 39373 + 7) % 2147483647 := Int.emod_nonneg _ (by decide)
    have z2 : (y * 39373 + 7) % 2147483647 < 2147483647 := Int.emod_lt_of_pos _ (by decide)
    show CMul ((y * 39373 + 7) % 2147483647) ((y * 39373 + 7) % 2147483647)
    unfold CMul
    omega
/-! ### _law_one, _law_chance -/
def ROne (ds : List PyData) (s s' : Pool) (d : PyData) : Prop := ∃ items : List PyData, ds = [.list items] ∧ 0 < items.length ∧ items.length ≤ 1000 ∧ s' = (takeM s (items.length : Nat)).2 ∧ atI items (takeM s (items.length : Nat)).1 = some d
theorem scOne : FnScope ["_law_source", "_law_things"] ["_law_source", "_law_things"] (defScope (topS 44)) := ⟨rfl, rfl, rfl, by decide +kernel, rfl, by decide +kernel, by decide +kernel⟩
theorem ok_one (F : Fun K "_law_one" "_law_one" (topS 44) f fd) (hm : mg "_law_one" = some (.ref f)) (B : Bz mg) (Tk : Fd P w K mg base 1 "_law_take" (spS T RTake)) : Fd P w K mg base 2 "_law_one" (spS T ROne) := by
  refine fd_S F scOne hm (F.binds fun _ _ _ _ _ _ us hl => match us, hl with | [_, _], _ => rfl) (fun ds s s' d h => by obtain ⟨_, rfl, _⟩ := h; rfl) fun cdv A outer s H E hr l ds sp sp' d h => ?_
  obtain ⟨items, rfl, h0, h1, rfl, h2⟩ := h
  exact jpr_ret (jp_ixL (jp_of (jv 1 rfl)) (jp_call Tk hr (jpa_cons (jp_of (j_lenL B.len (jv 1 rfl))) jpa_nil) ⟨_, rfl, by omega, by omega, rfl, rfl⟩) h2) fun v σ H' a hd => rs_of a hd
def chanceM (s : Pool) : (Int × Int) × Pool :=
  let under := 1 + (takeM s 5).1
  let over := takeM (takeM s 5).2 (under + 1)
  (lowM over.1.toNat under.toNat, over.2)
def RChance (ds : List PyData) (s s' : Pool) (d : PyData) : Prop := ds = [] ∧ s' = (chanceM s).2 ∧ d = fr (chanceM s).1
theorem scChanceL : FnScope ["_law_source", "_law_under"] ["_law_source"] (defScope (topS 51)) := ⟨rfl, rfl, rfl, by decide +kernel, rfl, by decide +kernel, by decide +kernel⟩
end
end G
set_option Elab.async false
set_option linter.all false
set_option maxRecDepth 100000
set_option maxHeartbeats 4000000
namespace G
open PySem PySem.Spec PyProof.Rows L2
section
variable {X : Cx} {T : Tl} {Hb : Hp} {m : Nat} {l : Addr} {es es1 es2 : Es} {s s1 s2 : Pool} {a b e : Expr} {xs : List Expr} {pos p : Pos} {i j : Int} {ds : List PyData} {d : PyData} {x : Str}
theorem up_cut {H1 H2 : Hp} {us vs : List V} (t : LamX.Tabs T H1) (h1 : H1 l = some (.lst us)) (h2 : H2 l = some (.lst vs)) (u : Up T H1 H2) : Up T (cut H1 l) (cut H2 l) := ⟨cut_ext u.ext, fun _ => tabs_cut (u.tab t) h2⟩
theorem AtP.stay {σ : L2.St} {H1 H2 : Hp} (a : AtP T Hb m l es s σ H1) (u : Up T H1 H2) : H2 l = some (.lst (poolV s)) := u.ext _ _ a.obj fun _ z => by cases z
theorem AtP.lift {σ : L2.St} {H1 H2 : Hp} (a : AtP T Hb m l es s σ H1) (u : Up T H1 H2) : AtP T Hb m l es s σ H2 := ⟨a.at_.lift (up_cut a.tabs a.obj (a.stay u) u), a.slot, a.stay u⟩
/-- x(.. draws ..), x a def that does not know of the source -/
theorem jp_callD {R : List PyData → PyData → Prop} {k : Nat} (F : Fd X.prog X.w X.K X.mg X.base k x (spD T R)) (hr : Room k X.A) (ha : JPa X T Hb m l es s (a :: xs) s1 ds) (hR : R ds d) (f : flat d = true) (hg : Gl X x := by rfl) (hdb : (x == ("__debug__" : Str)) = false := by decide)
    (he : starEach (a :: xs) X.env = (false, eval a X.env) :: starEach xs X.env := by rfl) (hpl : (backTo pos (starEach xs X.env)).any (·.1) = false := by rfl) : JPe X T Hb m l es s (.Call (.Name x p) (a :: xs) [] pos) s1 d := by
  obtain ⟨fa, fd, ps, F0, hm, hk, hb⟩ := F.ex
  refine weakE (pe_call F0 hr hg hm hk hb .nil pass0 ha hdb he hpl) fun σ H Q ⟨hA, q⟩ => ⟨hA, fun vs H1 A1 u1 h1 => ?_⟩
  show spD T R (vs ++ []) H1 Q E0
  rw [List.append_nil]
  exact ⟨A1.tabs, ds, d, dxa_mono cut_sub _ _ h1, hR, fun v H2 u2 d2 => q v H2 (A1.lift u2) (u1.trans (up_cut A1.tabs A1.obj (A1.stay u2) u2)) (dx_flat (tupN_cut (A1.stay u2) (fun _ z => by cases z) (fun _ _ z => by cases z)) d v f d2)⟩
end
theorem chance_all : ∀ b : Fin 6, ∀ a : Fin 7, 1 ≤ b.val → a.val ≤ b.val → chB (fr (lowM a.val b.val)) = true ∧ (lowM a.val b.val).2 ≤ 5 := by decide +kernel
theorem chance_in (s : Pool) : ∃ a b : Nat, (1 + (takeM s 5).1 = (b : Int) ∧ 1 ≤ b ∧ b ≤ 5) ∧ ((takeM (takeM s 5).2 ((b : Int) + 1)).1 = (a : Int) ∧ a ≤ b) ∧ chanceM s = (lowM a b, (takeM (takeM s 5).2 ((b : Int) + 1)).2) := by
  have h1 := takeM_in s 5 (by decide)
  have h2 := takeM_in (takeM s 5).2 (1 + (takeM s 5).1 + 1) (by omega)
  have e : (((1 + (takeM s 5).1).toNat : Nat) : Int) = 1 + (takeM s 5).1 := Int.toNat_of_nonneg (by omega)
  have e2 : (((takeM (takeM s 5).2 (1 + (takeM s 5).1 + 1)).1.toNat : Nat) : Int) = (takeM (takeM s 5).2 (1 + (takeM s 5).1 + 1)).1 := Int.toNat_of_nonneg h2.1
  refine ⟨(takeM (takeM s 5).2 (1 + (takeM s 5).1 + 1)).1.toNat, (1 + (takeM s 5).1).toNat, ⟨e.symm, by omega, by omega⟩, ⟨?_, by omega⟩, ?_⟩
  · rw [e, e2]
  · rw [e]
    rfl
theorem chance_ok (s : Pool) : chB (fr (chanceM s).1) = true ∧ (chanceM s).1.2 ≤ 5 := by
  obtain ⟨a, b, ⟨_, h1, h2⟩, ⟨_, h3⟩, e⟩ := chance_in s
  rw [e]
  exact chance_all ⟨b, by omega⟩ ⟨a, by omega⟩ h1 h3
section
variable {P : Program} {w : World} {K : PySem.W.Frag} {mg : Str → Option Value} {base : Heap} {T : Tl} {k : Nat} {x : Str} {st : Stmt} {f : Addr} {fd : FuncData} {N ps : List Str}
theorem ok_chanceL (F : Fun K "_law_chance" "_law_chance" (topS 51) f fd) (hm : mg "_law_chance" = some (.ref f)) (Tk : Fd P w K mg base 1 "_law_take" (spS T RTake)) (Lo : Fd P w K mg base 1 "_law_lowered" (spD T RLow)) : Fd P w K mg base 2 "_law_chance" (spS T RChance) := by
  refine fd_S F scChanceL hm (F.binds fun _ _ _ _ _ _ us hl => match us, hl with | [_], _ => rfl) (fun ds s s' d h => by obtain ⟨rfl, _⟩ := h; rfl) fun cdv A outer s H E hr l ds sp sp' d h => ?_
  obtain ⟨rfl, rfl, rfl⟩ := h
  obtain ⟨a, b, ⟨hb, b1, b2⟩, ⟨ha, a1⟩, e⟩ := chance_in sp
  rw [e]
  refine jpr_cons (jps_set 1 scChanceL.nd (jp_as (jp_add (jp_of j_int) (jp_call Tk hr (jpa_cons (jp_of j_int) jpa_nil) ⟨5, rfl, by decide, by decide, rfl, rfl⟩)) (by rw [hb]))) ?_
  exact jpr_ret (jp_callD Lo hr (jpa_cons (jp_as (jp_call Tk hr (jpa_cons (jp_of (j_add (jv 1 rfl) j_int)) jpa_nil) ⟨_, rfl, by omega, by omega, rfl, rfl⟩) (by rw [ha])) (jpa_cons (jp_of (jv 1 rfl)) jpa_nil)) ⟨a, b, rfl, by omega, by omega, rfl⟩ rfl) fun v σ H' q hd => rs_of q hd
/-! ### _law_pool -/
theorem atI_zero {n : Int} {ns : List Int} : atI (List.map V.int (n :: ns)) 0 = some (V.int n) := atI_nat (xs := List.map V.int (n :: ns)) (j := 0) rfl
theorem iteYes {c A B : Prop} [Decidable c] (hc : c) (h : A) : if c then A else B := by
  rw [if_pos hc]
  exact h
theorem iteNo {c A B : Prop} [Decidable c] (hc : ¬ c) (h : B) : if c then A else B := by
  rw [if_neg hc]
  exact h
def cellM (ns : List Int) : Int := ns.getD 0 0
def bigM (c : Int) : Int := if -1 - c > c then -1 - c else c
def poolM (ns : List Int) : Pool :=
  let big := bigM (cellM ns)
  (big * (if decide ((10 : Int) ^ (18 : Int).toNat ≤ big) = true then 1 else 0), (big % 2147483629 + 7919 * 0 * 0 + 31 * 0 + 17) * 48271 % 2147483647)
def spPool (T : Tl) (K : PySem.W.Frag) : Sp := fun vs H Q _ => LamX.Tabs T H ∧ ∃ (a : Addr) (ns : List Int), vs = [.ref a, .int 0] ∧ SqL K H a (ns.map .int) ∧ ∀ p H', H' p = some (.lst (poolV (poolM ns))) → Up T H (cut H' p) → Q (.ref p) H'
theorem scPool : FnScope ["_law_script", "_law_k", "_law_cell", "_law_big", "_law_mixed"] ["_law_script", "_law_k"] (defScope (topS 42)) := ⟨rfl, rfl, rfl, by decide +kernel, rfl, by decide +kernel, by decide +kernel⟩
theorem ok_pool (F : Fun K "_law_pool" "_law_pool" (topS 42) f fd) (hm : mg "_law_pool" = some (.ref f)) (B : Bz mg) : Fd P w K mg base 1 "_law_pool" (spPool T K) := by
  refine ⟨f, fd, ["_law_script", "_law_k"], F.ok scPool (fun vs H Q E h => by
    obtain ⟨_, a, ns, e, _⟩ := h
    rw [e]
    rfl) (fun cdv A outer s H vs Q E hr h => ?_), hm, F.kp, F.binds fun _ _ _ _ _ _ us hl => match us, hl with | [_, _], _ => rfl⟩
  obtain ⟨t, a, ns, e, hs, q⟩ := h
  subst e
  have nd := scPool.nd
  have rest : JR (cxOf CX0 P w K mg base ["_law_script", "_law_k", "_law_cell", "_law_big", "_law_mixed"] "_law_pool" (defScope (topS 42)) f cdv A outer s H E).nox T H ((defBody (topS 42)).drop 2) none [none, some (.int 0), some (.int (cellM ns)), none, none] (RN T H [.int (poolM ns).1, .int (poolM ns).2]) := by
    refine jr_cons (js_set 3 nd (j_max2 rfl B.max (j_intI B.int (jv 2 rfl)) (j_intI B.int (j_sub (j_neg j_int) (jv 2 rfl))))) ?_
    refine jr_cons (js_set 4 nd (j_mod (by decide) (j_intI B.int (j_mul (cmulR (by decide)) (j_add (j_add (j_add (j_mod (by decide) (j_intI B.int (jv 3 rfl)) j_int) (j_mul (cmulR (by decide)) (j_mul (cmulR (by decide)) j_int (jv 1 rfl)) (jv 1 rfl))) (j_mul (cmulR (by decide)) j_int (jv 1 rfl))) j_int) j_int)) j_int)) ?_
    refine jr_retN (jn_lst (ja_cons (j_mul ?_ (jv 3 rfl) (j_intB B.int (j_ge (jv 3 rfl) (j_opC op_pow ⟨by decide, by decide, by decide⟩ j_int j_int)))) (ja_cons (jv 4 rfl) ja_nil))) rfl
    exact cmulR (oneIf_small _)
  refine ⟨fun D σ H' => (At T H none [none, some (.int 0), none, none, none] σ H' ∧ σ[0]? = some (some (.ref a)) ∧ SqL K H' a (ns.map .int)) ∧ ∀ v H', RN T H [.int (poolM ns).1, .int (poolM ns).2] v H' → D.rt v H', ?_, ?_⟩
  · refine weakSs (pss_cons (u := fun D σ H' => (At T H none [none, some (.int 0), some (.int 0), none, none] σ H' ∧ σ[0]? = some (some (.ref a)) ∧ SqL K H' a (ns.map .int)) ∧ ∀ v H', RN T H [.int (poolM ns).1, .int (poolM ns).2] v H' → D.rt v H') (ps_set (i := 2) nd rfl (Or.inl rfl) pe_int) ?_) ?_
    · refine weakSs (pss_cons (ps_if (pt_cmpR op_lt (pv 1) (pe_callB call_len_seq rfl B.len (by decide +kernel) (pa_cons (pv 0) pa_nil)) (nomark _)) (pss_one (ps_set (i := 2) nd rfl (Or.inl rfl) (pe_ix ix_list (pv 0) (pv 1) (fun _ _ => rfl)))) pss_nil) rest) fun D σ H' ⟨⟨hA, h0, hl⟩, hq⟩ => ?_
      obtain ⟨u1, v1, d1⟩ := hA.has.dat 1 _ rfl
      have e1 := dx_int d1
      subst e1
      refine ⟨.int 0, v1, .ref a, h0, a, ns.map .int, rfl, .inl hl, 0, _, rfl, rfl, _, rfl, ?_⟩
      have hb : ∀ i v, σ[i]? = some v → i < σ.length := fun i v e => (List.getElem?_eq_some_iff.mp e).1
      cases ns with
      | nil => exact iteNo (by decide) ⟨hA, hq⟩
      | cons n ns =>
        refine iteYes (decide_eq_true (by simp only [List.map_cons, List.length_cons]; omega)) ⟨.ref a, h0, .int 0, v1, a, _, 0, .int n, rfl, rfl, hl, atI_zero, ?_⟩
        exact ⟨At.set (j := 2) hA (fun _ _ z => nomatch z) (.int n), hq⟩
    · exact fun D σ H' ⟨⟨hA, h0, hl⟩, hq⟩ => ⟨⟨At.set (j := 2) hA (fun _ _ z => nomatch z) (.int 0), by rw [List.getElem?_set_ne (by decide)]; exact h0, hl⟩, hq⟩
  · refine ⟨⟨⟨Up.refl, t, ⟨rfl, fun i d e => ?_⟩, fun _ _ z => nomatch z⟩, rfl, hs⟩, fun v H' ⟨p, us, e, hv, u, hp, hd⟩ => ?_⟩
    · match i, e with
      | 1, e =>
        obtain rfl : PyData.int 0 = d := Option.some.inj (Option.some.inj e)
        exact ⟨_, rfl, .int 0⟩
      | 0, e => exact nomatch e
      | 2, e => exact nomatch e
      | 3, e => exact nomatch e
      | 4, e => exact nomatch e
      | _ + 5, e => exact nomatch e
    · subst e
      have eu : us = poolV (poolM ns) := by
        have z := dxa_ints (ns := [(poolM ns).1, (poolM ns).2]) hd
        exact z
      subst eu
      exact q p H' hp ⟨fun b o h hn => by
        by_cases hb : b = p
        · subst hb
          obtain ⟨ps, z⟩ := hv o h
          exact absurd z (hn ps)
        · rw [cut_ne hb]
          exact u.ext b o h hn, fun _ => tabs_cut (u.tab t) hp⟩
end
end G
set_option Elab.async false
set_option linter.all false
set_option maxRecDepth 100000
set_option maxHeartbeats 4000000
namespace G
open PySem PySem.Spec PyProof.Rows L2
/-! ### repr of data, where no repr is under way -/
structure Shw (d : PyData) : Prop where
  sh : d.showable = true
  nd : d.hasDict = false
  dp : d.depth ≤ 8
  len : d.shown.length ≤ sizeLine
def rShow : List V → Hp → VK → Prop := fun xs H Q => ∃ v d, xs = [v] ∧ Dx H v d ∧ Shw d ∧ Q (.str d.shown) H
theorem call_reprD {X : Cx} (hg : X.A.guards = some []) (hu : X.A.units + 16 < cLine) : CallR X (.builtin "repr") rShow := by
  intro pins s σ H xs us Q I r h
  obtain ⟨v, d, rfl, hd, hs, q⟩ := h
  obtain ⟨u, rfl, ru⟩ := vals1 r
  have dp := hs.dp
  obtain ⟨as, R⟩ := Dp.reads I d v u (dx_dp d v hd) ru
  have big : ∀ a : Addr, u = .ref a → wpAny (model X.prog X.w) X.A (call (.builtin "repr") [u]) (EP X pins σ Q) X.xe s := fun a e => by
    subst e
    exact repr_of_reads' R hs.sh (PyData.noDict_hsm hs.nd) hg (by omega) (fun _ _ e => e) (fun h' u tk hk => ⟨.str _, H, I.kept hk, ⟨_, rfl⟩, q⟩) hs.len
  cases R with
  | none => exact PySem.P.repr_of_none ⟨.str _, H, I.tok _, ⟨_, rfl⟩, q⟩
  | bool b => exact PySem.P.repr_of_bool ⟨.str _, H, I.tok _, ⟨_, rfl⟩, q⟩
  | int i t => exact PySem.P.repr_of_int (of_decide_eq_true hs.sh) ⟨.str _, H, I.tok _, ⟨_, rfl⟩, q⟩
  | str x t => exact PySem.P.repr_of_str ⟨.str _, H, I.tok _, ⟨_, rfl⟩, q⟩ hs.len
  | list _ _ _ _ => exact big _ rfl
  | tuple _ _ _ _ => exact big _ rfl
  | dict _ _ _ _ _ => exact big _ rfl
section
variable {X : Cx} {T : Tl} {H0 : Hp} {w : Ow} {es : Es} {a : Expr} {d : PyData} {pos p : Pos}
theorem j_repr (hgd : X.A.guards = some []) (hu : X.A.units + 16 < cLine) (hm : X.mg "repr" = none) (ha : J X T H0 w es a d) (hs : Shw d) (hg : Gl X "repr" := by rfl) (he : starEach (a :: []) X.env = (false, eval a X.env) :: starEach [] X.env := by rfl) : J X T H0 w es (.Call (.Name "repr" p) [a] [] pos) (.str d.shown) :=
  j_bi (call_reprD hgd hu) hm (ja_cons ha ja_nil he) (fun σ H vs Q hA h q => by
    cases h with
    | cons h1 h2 =>
      cases h2
      exact ⟨_, d, rfl, dx_mono bs_sub _ _ h1, hs, q _ H Up.refl (.str _)⟩) (by decide +kernel) hg (by decide) (by decide) he
end
/-! ### a def that is run where no repr is under way -/
structure FnG (P : Program) (w : World) (K : PySem.W.Frag) (mg : Str → Option Value) (base : Heap) (CX : CXT) (k : Nat) (f : Addr) (ps : List Str) (sp : Sp) : Prop where
  count : ∀ vs H Q E, sp vs H Q E → vs.length = ps.length
  go : ∀ (A : Around) (outer : List Env) (s : Shared) (H : Hp) (us : List Value) (vs : List V) (Q : VK) (E : XK), A.guards = some [] → Room k A → Env0 P w K mg base A outer s H → Vals vs us → sp vs H Q E →
    codeAny (model P w) A (.call (.ref f) ⟨us, []⟩) (CR CX outer P w H s Q E) s
theorem fnG_of {P : Program} {w : World} {K : PySem.W.Frag} {mg : Str → Option Value} {base : Heap} {CX : CXT} {x : Str} {st : Stmt} {f c : Addr} {fd : FuncData} {N ps : List Str} {k : Nat} {sp : Sp} (F : FunC K x st f fd c) (S : FnScope N ps (defScope st)) (hb : Binds K fd ps [])
    (count : ∀ vs H Q E, sp vs H Q E → vs.length = ps.length)
    (body : ∀ (A : Around) (outer : List Env) (s : Shared) (H : Hp) (vs : List V) (Q : VK) (E : XK), A.guards = some [] → Room k (A.deeper (envOfC x (defScope st) s.heap.objs.size f (.ref c))) → sp vs H Q E →
      ∃ t, PSs (cxOf CX P w K mg base N x (defScope st) f (.ref c) A outer s H E) (defBody st) t ∧ t { nx := fun _ H' => Q .non H', rt := Q } (L2.start N vs) H) : FnG P w K mg base CX (k + 1) f ps sp := by
  obtain ⟨oc, od, kV, doc, pm, an, ct, osl, efd, lk, hcd⟩ := F.ex
  refine ⟨count, fun A outer s H us vs Q E hgd room e0 rel want => ?_⟩
  have nvs := count vs H Q E want
  have kept : ∀ b o, base.get? b = some o → s.heap.get? b = some o := fun b o e => (e0.bs b o e).1
  have Kin := e0.mod.kin.keeps kept
  have bd := hb s us Kin (by rw [List.append_nil, ← rel.length]; exact nvs)
  rw [List.append_nil] at bd
  subst efd
  obtain ⟨t, run, start⟩ := body A outer s H vs Q E hgd (room.deeper _) want
  refine codeAny_call_function room.depth (Kin f _ lk) rfl S.co S.gen rfl (PySem.W.codeRec_of Kin hcd) (bd _ _ _ _ (wpAny_newFunctionEnv_cells S.kind (fun p hp => ?_) fun env ee s1 made => ?_))
  · obtain ⟨n, v⟩ := p
    rcases S.par n (List.of_mem_zip hp).1 with q | q
    · exact Or.inl q
    · exact Or.inr ⟨q, PySem.W.cellsFrom_some _ _ _ (Or.inl q)⟩
  · subst ee
    refine ⟨(e0.mod.nolimit.keeps kept).keeps made.toInCall.keep, codeAny_func (wpAny_mono (run.run [] s1 _ H _ (inv_start S room.hd e0 nvs rel made) start) (fun r s2 h2 => ?_) fun _ _ z => z)⟩
    match r, h2 with
    | .ret u, ⟨v, σ', H', J, rv, q⟩ => exact ⟨v, H', J.os, J.bare, J.base, J.hok, rv, q⟩
    | .next, ⟨σ', H', J, q⟩ => exact ⟨.non, H', J.os, J.bare, J.base, J.hok, rfl, q⟩
    | .brk, ⟨_, _, _, q⟩ => exact q.elim
    | .cont, ⟨_, _, _, q⟩ => exact q.elim
section
variable {X : Cx} {CX : CXT} {k : Nat} {f : Addr} {ps : List Str} {sp : Sp} {E : XK} {x : Str} {p pos : Pos} {e : Expr} {es : List Expr} {t : TA}
theorem pe_callG (F : FnG X.prog X.w X.K X.mg X.base CX k f ps sp) (hgd : X.A.guards = some []) (hr : Room k X.A) (hg : Gl X x) (hm : X.mg x = some (.ref f)) (hk : PySem.W.keepIn X.K (.ref f) = true) (hx : Passes CX X E)
    (ha : PA X (e :: es) t) (hdb : (x == ("__debug__" : Str)) = false := by decide) (he : starEach (e :: es) X.env = (false, eval e X.env) :: starEach es X.env := by rfl) (hpl : (backTo pos (starEach es X.env)).any (·.1) = false := by rfl) :
    PE X (.Call (.Name x p) (e :: es) [] pos) (tCall sp [] E t) := by
  refine ⟨fun pins s σ H Q I h => ?_⟩
  refine wpAny_Call_Name_kw (ld_glob I hg hm (PySem.W.callWith_K (h₀ := X.base) I.ok.mod.kin hk (thn (ha.run pos pins s σ H _ I h) fun us s1 ⟨vs, H1, I1, r, q⟩ => ⟨I1.kIn, ?_⟩) he hpl) hdb)
  have q : sp (vs ++ []) H1 Q E := q
  rw [List.append_nil] at q
  refine wpAny_call (codeAny_mono (F.go X.A X.stack s1 H1 us vs Q E hgd hr I1.env0 r q) fun c s2 hc => ?_)
  match c, hc with
  | .error e, hc => exact hx pins σ H1 s1 e s2 I1 hc
  | .ok (.ret u), hc => exact I1.after hc
  | .ok .next, hc => exact hc.elim
  | .ok .brk, hc => exact hc.elim
  | .ok .cont, hc => exact hc.elim
end
end G
set_option Elab.async false
set_option linter.all false
set_option maxRecDepth 100000
set_option maxHeartbeats 4000000
namespace G
open PySem PySem.Spec PyProof.Rows L2
/-! ### several except clauses that name the error -/
abbrev Sui := Addr → Value → Option Addr → TS
/-- behind a suite the name is unbound -/
def Ends.named (D : Ends) (i : Nat) : Ends := { nx := fun σ H => D.nx (σ.set i none) H, rt := D.rt, bk := fun σ H => D.bk (σ.set i none) H, ct := fun σ H => D.ct (σ.set i none) H }
/-- the first clause that fits has the error; one fits -/
def wFits (K : PySem.W.Frag) (i : Nat) (D : Ends) : List (Value × Sui) → WX
  | [] => fun _ _ _ _ => False
  | q :: r => fun cls d σ H => ∃ fits : Bool, PySem.W.exmOne K cls q.1 = some fits ∧ if fits = true then ∀ a, H a = none → q.2 a cls d (Ends.named D i) (σ.set i (some (.ref a))) H else wFits K i D r cls d σ H
/-- the clauses and what their suites do -/
inductive Clauses (X : Cx) (n : Str) : List ExceptHandler → List (Value × Sui) → Prop
  | nil : Clauses X n [] []
  | cons {x : Str} {q : Value × Sui} {b₀ : Stmt} {suite : List Stmt} {np p2 : Pos} {hds : List ExceptHandler} {l : List (Value × Sui)} : Names X x q.1 →
      (∀ (a : Addr) (oe : Obj) (cls : Value) (d : Option Addr) (pn : List (Addr × Obj)), Zc cls d oe → (∃ vs, oe.data = .fields vs) → PSs (X.suite a ((a, oe) :: pn)) (b₀ :: suite) (q.2 a cls d)) → Clauses X n hds l →
      Clauses X n (.ExceptHandler (some (.Name x np)) (some n) (b₀ :: suite) p2 :: hds) (q :: l)
/-- what the try's body may leave behind where it raises -/
abbrev caughtBy (X : Cx) (pins : List (Addr × Obj)) (D : Ends) (hds : List ExceptHandler) : Value → Shared → Prop := fun e s1 =>
  wpAny (model X.prog X.w) X.A (noteFrame e X.env) (fun _ s2 => wpAny (model X.prog X.w) X.A (setFlight e none) (fun _ s3 => wpAny (model X.prog X.w) X.A (handleBy e X.env hds) (SP X pins D) X.xe s3) X.xe s2) X.xe s1
theorem ps_tryAll {X : Cx} {n : Str} {i : Nat} {body : List Stmt} {h1 : ExceptHandler} {hds : List ExceptHandler} {l : List (Value × Sui)} {pos : Pos} {tb : WX → TS} (top : X.stack = X.env :: X.outer) (fr : X.env.frame = some X.env.locals) (nd : X.N.Nodup) (at_ : X.N[i]? = some n) (kd : X.env.kindOf n = some .local)
    (hb : ∀ (W : WX) (pn : List (Addr × Obj)) (xe : Value → Shared → Prop), Takes (X.tr pn xe) W → PSs (X.tr pn xe) body (tb W)) (cl : Clauses X n (h1 :: hds) l) :
    PS X (.Try body (h1 :: hds) [] [] pos) (fun D σ H => tb (fun cls d σ' H' => σ'.length = X.N.length → wFits X.K i D l cls d σ' H') D σ H) := by
  constructor
  intro pins s σ H D I want
  have ok := I.ok
  have frs2 : X.A.frames = some (X.env :: X.outer) := top ▸ ok.frames
  have run := (hb (fun cls d σ' H' => σ'.length = X.N.length → wFits X.K i D l cls d σ' H') (X.pn ++ pins) (caughtBy X pins D (h1 :: hds)) (fun u s' hx => ?_)).run [] s σ H D (I.toTry _) want
  · refine wpAny_Try_except (wpAny_mono run (fun fl s1 h => ?_) fun _ _ z => z)
    match fl, h with
    | .next, ⟨σ1, H1, J, q⟩ => exact wpAny_execs_nil ⟨σ1, H1, J.ofTry ok, q⟩
    | .brk, ⟨σ1, H1, J, q⟩ => exact ⟨σ1, H1, J.ofTry ok, q⟩
    | .cont, ⟨σ1, H1, J, q⟩ => exact ⟨σ1, H1, J.ofTry ok, q⟩
    | .ret _, ⟨v, σ1, H1, J, r, q⟩ => exact ⟨v, σ1, H1, J.ofTry ok, r, q⟩
  · obtain ⟨a, B, sI, _, σ1, H1, cls, d, eu, J0, nb, slots, sky, na, os, bare, wish⟩ := hx
    subst eu
    have J : Inv X pins σ1 H1 sI := J0.ofTry ok
    show wpAny (model X.prog X.w) X.A (noteFrame (.ref a) X.env) _ _ _
    refine Sky.land Zc.steady frs2 fr (show Sky B (X.env :: X.outer) a (Zc cls d) X.env.locals s'.heap from top ▸ sky) fun h2 down more => ?_
    have J2 : Inv X pins σ1 H1 { s' with heap := h2 } := J.landed nb down.1 (slots.trans more) os bare
    obtain ⟨o2, v2, get2, z2, dat2⟩ := down.there
    have away : a ∉ frs (X.env :: X.outer) := fun hm => by
      obtain ⟨_, o, e, noField⟩ := down.2.2.1.mem hm
      cases (get2.symm.trans e)
      exact noField _ dat2
    have notL : a ≠ X.env.locals := fun z => away (List.mem_filterMap.mpr ⟨X.env, List.mem_cons_self, by rw [fr, z]⟩)
    have notF : a ∉ X.fs := fun hm => by
      obtain ⟨e, m1, m2⟩ := List.mem_filterMap.mp hm
      exact away (List.mem_filterMap.mpr ⟨e, List.mem_cons_of_mem _ m1, m2⟩)
    have inner := J2.suite get2 dat2 na notL notF
    have looks : PySem.W.Looks (model X.prog X.w) h2 (typeOf (.ref a)) cls := fun _ _ _ _ kp q => wpAny_typeOf_ref (kp _ _ get2) (by rw [z2.1]; exact q)
    have step : ∀ {hs : List ExceptHandler} {m : List (Value × Sui)}, Clauses X n hs m → wFits X.K i D m cls d σ1 H1 → wpAny (model X.prog X.w) X.A (handleBy (.ref a) X.env hs) (SP X pins D) X.xe { s' with heap := h2 } := by
      intro hs m cls2
      induction cls2 with
      | nil => exact fun z => z.elim
      | @cons x q b₀ suite np p2 hds2 l2 nm su _ again =>
        intro ⟨fits, ask, then_⟩
        refine wpAny_handleBy_cons (codeAny_handlers_test ?_) nofun
        have look : ∀ {Q : Value → Shared → Prop} {E : Value → Shared → Prop}, Q q.1 { s' with heap := h2 } → wpAny (model X.prog X.w) (X.A.mark (some (.ref a))) (eval (.Name x np) X.env) Q E { s' with heap := h2 } := fun w => by
          rcases nm with ⟨gl, nodb, own | ⟨miss, boot, nn⟩⟩
          · exact ld_glob (X := X.suite a ((a, o2) :: (X.pn ++ pins))) inner gl own w nodb
          · exact ld_blt (X := X.suite a ((a, o2) :: (X.pn ++ pins))) inner gl miss boot w nn nodb
        refine look ((PySem.W.exm_one (M := model X.prog X.w) J2.kIn looks ask).here ?_)
        cases fits with
        | false => exact again then_
        | true =>
          refine codeAny_handlers_suite_as (HandSPX.lands_againZ down fun h3 down3 more3 => ?_)
          obtain ⟨o3, v3, get3, z3, dat3⟩ := down3.there
          have J3 : Inv X pins σ1 H1 { s' with heap := h3 } := J.landed nb down3.1 ((slots.trans more).trans more3) os bare
          refine store_ok (X := X.suite a ((a, o3) :: (X.pn ++ pins))) (v := .ref a) (J3.suite get3 dat3 na notL notF) nd at_ (Or.inl kd) rfl (fun s4 J4 => ?_) (Or.inr kd)
          refine wpAny_mono ((su a o3 cls d (X.pn ++ pins) z3 ⟨_, dat3⟩).run [] s4 _ H1 _ J4 (then_ a na)) (fun fl s5 h5 => ?_) fun _ _ z => z.elim
          match fl, h5 with
          | .next, ⟨_, _, J5, w5⟩ => exact gone_ok (J5.unsuite ok) nd at_ kd fun s6 J6 => ⟨_, _, J6, w5⟩
          | .brk, ⟨_, _, J5, w5⟩ => exact gone_ok (J5.unsuite ok) nd at_ kd fun s6 J6 => ⟨_, _, J6, w5⟩
          | .cont, ⟨_, _, J5, w5⟩ => exact gone_ok (J5.unsuite ok) nd at_ kd fun s6 J6 => ⟨_, _, J6, w5⟩
          | .ret _, ⟨_, _, _, J5, r5, w5⟩ => exact gone_ok (J5.unsuite ok) nd at_ kd fun s6 J6 => ⟨_, _, _, J6, r5, w5⟩
    exact step cl (wish J.len)
end G
set_option Elab.async false
set_option linter.all false
set_option maxRecDepth 100000
set_option maxHeartbeats 4000000
namespace G
open PySem PySem.Spec PyProof.Rows L2
/-- the classes that _law_caught asks for -/
structure Cau (K : PySem.W.Frag) (mg : Str → Option Value) (CC CH : Addr) : Prop where
  notCount : PySem.W.exmOne K (.ref CH) (.ref CC) = some false
  past : ∃ c : Addr, mg "NoPast" = some (.ref c) ∧ PySem.W.exmOne K (.ref CH) (.ref c) = some false
  lot : ∃ c : Addr, mg "NoLot" = some (.ref c) ∧ PySem.W.exmOne K (.ref CH) (.ref c) = some false
  change : ∃ c : Addr, mg "NoChange" = some (.ref c) ∧ PySem.W.exmOne K (.ref CH) (.ref c) = some false
  back : ∃ c : Addr, mg "NothingBack" = some (.ref c) ∧ PySem.W.exmOne K (.ref CH) (.ref c) = some false
  copies : ∃ c : Addr, mg "NoCopies" = some (.ref c) ∧ PySem.W.exmOne K (.ref CH) (.ref c) = some false
  votes : ∃ c : Addr, mg "NoVotes" = some (.ref c) ∧ PySem.W.exmOne K (.ref CH) (.ref c) = some false
  need : ∃ c : Addr, mg "NoNeed" = some (.ref c) ∧ PySem.W.exmOne K (.ref CH) (.ref c) = some false
  edit : ∃ c : Addr, mg "NoEdit" = some (.ref c)
  key : ∃ c : Addr, mg "NoKey" = some (.ref c)
  name : ∃ c : Addr, mg "NoName" = some (.ref c)
  moment : ∃ c : Addr, mg "NoMoment" = some (.ref c)
  many : ∃ c : Addr, mg "TooMany" = some (.ref c)
/-- an error that the clauses tell: what its list holds -/
def Tells (CC CH : Addr) (Q : VK) : XK := fun cls d H => ∃ (b : Bool) (dd : Addr) (v : V) (tod : PyData), cls = .ref (if b then CC else CH) ∧ d = some dd ∧ H dd = some (.xd [(("told" : Str), v)]) ∧ Dx H v tod ∧ Shw tod ∧
  ∀ p, H p = none → Q (.ref p) (upd H p (.lst [.str (if b then "count" else "chances"), .str tod.shown]))
def TTc (CC CH : Addr) : (XK → Hp → VK → Prop) → Hp → VK → Prop := fun tl H Q => tl (Tells CC CH Q) H fun _ H' => Q .non H'
/-- return [word, repr(e.told)] -/
def sTold (C : Addr) (word : Str) : Sui := fun a cls d => tRet (tLst (tCons (tC (.str word)) (tCons (tCB rShow (tCons (tTold C a cls d (tVar 1)) tNil)) tNil)))
def sNot : Sui := fun _ _ _ => tNever
abbrev nCau : List Str := ["_law_call", "e"]
theorem scCau : FnScope nCau ["_law_call"] (defScope (topS 46)) := ⟨rfl, rfl, rfl, by decide +kernel, rfl, by decide +kernel, by decide +kernel⟩
def hdsOf : Stmt → List ExceptHandler
  | .Try _ hds _ _ _ => hds
  | _ => []
theorem told_fits {K : PySem.W.Frag} {C : Addr} {word : Str} {a dd : Addr} {v : V} {tod : PyData} {D : Ends} {σ : L2.St} {H : Hp} {Q : VK} (hl : σ.length = 2) (hd : H dd = some (.xd [(("told" : Str), v)])) (hv : Dx H v tod) (hs : Shw tod) (hq : D.rt = Q)
    (q : ∀ p, H p = none → Q (.ref p) (upd H p (.lst [.str word, .str tod.shown]))) : sTold C word a (.ref C) (some dd) (Ends.named D 1) (σ.set 1 (some (.ref a))) H := by
  refine ⟨.ref a, List.getElem?_set_self (by omega), rfl, rfl, dd, v, rfl, hd, v, tod, rfl, hv, hs, (by decide : 2 ≤ sizeLine), fun p hp => ?_⟩
  subst hq
  exact q p hp
theorem caught_gives {X : Cx} {CC CH fC fH g : Addr} {cdg : Value} {q : Str} (hgd : X.A.guards = some []) (hu : X.A.units + 32 < cLine) (Ca : Cau X.K X.mg CC CH) (EC : ErT X.K X.mg X.prog "NoCount" CC fC) (EH : ErT X.K X.mg X.prog "NoChances" CH fH) (B : Bz X.mg) :
    LamX.GivesTo X nCau "_law_caught" (defScope (topS 46)) g cdg (defBody (topS 46)) "_law_call" q (TTc CC CH) := by
  intro f c' s H Q tl act hc h
  obtain ⟨c2, m2, x2⟩ := Ca.past
  obtain ⟨c3, m3, x3⟩ := Ca.lot
  obtain ⟨c4, m4, x4⟩ := Ca.change
  obtain ⟨c5, m5, x5⟩ := Ca.back
  obtain ⟨c6, m6, x6⟩ := Ca.copies
  obtain ⟨c7, m7, x7⟩ := Ca.votes
  obtain ⟨c8, m8, x8⟩ := Ca.need
  obtain ⟨c10, m10⟩ := Ca.edit
  obtain ⟨c11, m11⟩ := Ca.key
  obtain ⟨c12, m12⟩ := Ca.name
  obtain ⟨c13, m13⟩ := Ca.moment
  obtain ⟨c14, m14⟩ := Ca.many
  let Z := (cxOf C8.CX0 X.prog X.w X.K X.mg X.base nCau "_law_caught" (defScope (topS 46)) g cdg X.A X.stack s H C8.E0).nox
  have no : ∀ {x : Str} {c : Addr} {b₀ : Stmt} {suite : List Stmt} {np p2 : Pos} {hds : List ExceptHandler} {l : List (Value × Sui)}, Names Z x (.ref c) → Clauses Z "e" hds l → Clauses Z "e" (.ExceptHandler (some (.Name x np)) (some "e") (b₀ :: suite) p2 :: hds) ((.ref c, sNot) :: l) :=
    fun n r => .cons (q := (_, sNot)) n (fun _ _ _ _ _ _ _ => pss_never) r
  have yes : ∀ {x word : Str} {C fI : Addr} {np p1 p2 p3 p4 p5 p6 p7 p8 : Pos} {k : Nat} {hds : List ExceptHandler} {l : List (Value × Sui)}, ErT X.K X.mg X.prog x C fI → Names Z x (.ref C) → Clauses Z "e" hds l →
      Clauses Z "e" (.ExceptHandler (some (.Name x np)) (some "e") [.Return (some (.List [.Constant (.str word) k p1, .Call (.Name "repr" p2) [.Attribute (.Name "e" p3) "told" p4] [] p5] p6)) p7] p8 :: hds) ((.ref C, sTold C word) :: l) :=
    fun {x word C fI np p1 p2 p3 p4 p5 p6 p7 p8 k hds l} T n r => .cons (q := (_, sTold C word)) n (fun a oe cls d pn hz hf => pss_one (ps_ret (pe_lst (pa_cons pe_str (pa_cons (pe_callB (x := "repr") (X := Z.suite a ((a, oe) :: pn)) (call_reprD hgd (by show X.A.units + 3 + 16 < cLine; omega)) rfl B.repr (by decide +kernel)
      (pa_cons (pe_told (X := Z) T hz hf (pv (X := Z.suite a ((a, oe) :: pn)) 1)) pa_nil)) pa_nil))))) r
  have cl : Clauses Z "e" (hdsOf ((defBody (topS 46)).headD (.Pass ⟨0, 0, 0, 0⟩))) [(.ref CC, sTold CC "count"), (.ref c2, sNot), (.ref c3, sNot), (.ref c4, sNot), (.ref c5, sNot), (.ref c6, sNot), (.ref c7, sNot), (.ref c8, sNot), (.ref CH, sTold CH "chances"), (.ref c10, sNot), (.ref c11, sNot), (.ref c12, sNot), (.ref c13, sNot), (.ref c14, sNot)] := yes (x := "NoCount") (word := "count") EC ⟨rfl, by decide, .inl EC.gC⟩ (no (x := "NoPast") ⟨rfl, by decide, .inl m2⟩ (no (x := "NoLot") ⟨rfl, by decide, .inl m3⟩ (no (x := "NoChange") ⟨rfl, by decide, .inl m4⟩ (no (x := "NothingBack") ⟨rfl, by decide, .inl m5⟩ (no (x := "NoCopies") ⟨rfl, by decide, .inl m6⟩ (no (x := "NoVotes") ⟨rfl, by decide, .inl m7⟩ (no (x := "NoNeed") ⟨rfl, by decide, .inl m8⟩
    (yes (x := "NoChances") (word := "chances") EH ⟨rfl, by decide, .inl EH.gC⟩ (no (x := "NoEdit") ⟨rfl, by decide, .inl m10⟩ (no (x := "NoKey") ⟨rfl, by decide, .inl m11⟩ (no (x := "NoName") ⟨rfl, by decide, .inl m12⟩ (no (x := "NoMoment") ⟨rfl, by decide, .inl m13⟩ (no (x := "TooMany") ⟨rfl, by decide, .inl m14⟩ .nil)))))))))))))
  refine ⟨_, pss_cons (ps_tryAll (X := Z) (i := 1) (tb := fun W D σ H => ∃ Ech : XK, (∀ cls d σ' H', Ech cls d H' → W cls d σ' H') ∧ σ[0]? = some (some (.ref f)) ∧ H c' = some (LamX.CodeO c' q) ∧ tl Ech H fun _ H1 => D.nx σ H1) rfl rfl scCau.nd rfl rfl (fun W pn xe tk => ?_) cl) (pss_one (ps_ret pe_non)), ?_⟩
  · refine ⟨fun pins s' σ H' D I ⟨Ech, hW, h1, h2, h3⟩ => ?_⟩
    exact (pss_one (ps_expr (act W pn xe Ech _ _ tk hW) rfl)).run pins s' σ H' D I ⟨h1, h2, h3⟩
  · refine ⟨Tells CC CH Q, fun cls d σ' H' ⟨b, dd, v, tod, e1, e2, hd, hv, hs, q2⟩ hl => ?_, rfl, hc, h⟩
    subst e1 e2
    cases b with
    | true => exact ⟨true, EC.te, iteT fun a ha => told_fits (K := X.K) hl hd hv hs rfl q2⟩
    | false => exact ⟨false, Ca.notCount, iteF ⟨false, x2, iteF ⟨false, x3, iteF ⟨false, x4, iteF ⟨false, x5, iteF ⟨false, x6, iteF ⟨false, x7, iteF ⟨false, x8, iteF ⟨true, EH.te, iteT fun a ha => told_fits (K := X.K) hl hd hv hs rfl q2⟩⟩⟩⟩⟩⟩⟩⟩⟩
end G
set_option Elab.async false
set_option linter.all false
set_option maxRecDepth 100000
set_option maxHeartbeats 4000000
namespace G
open PySem PySem.Spec PyProof.Rows L2
/-! ### bounds, for repr -/
def TwP (q : Int × Int) : Prop := GoodP q ∧ q.2 ≤ 20
theorem weight_le (lot : List Int) : ∀ (l : List ((Int × Int) × Nat)) (a : Int), 0 ≤ a → (∀ q ∈ l, TwP q.1) → l.foldl (wStep lot) a ≤ a * 20 ^ l.length
  | [], a, h, _ => by simp
  | q :: l, a, h, hg => by
    rw [List.foldl_cons]
    obtain ⟨⟨h1, h2⟩, h3⟩ := hg q List.mem_cons_self
    have hf : 0 ≤ facM lot q ∧ facM lot q ≤ 20 := by
      unfold facM
      split <;> omega
    have e1 : wStep lot a q = a * facM lot q := rfl
    have e2 : 0 ≤ wStep lot a q := by rw [e1]; exact Int.mul_nonneg h hf.1
    have e3 : wStep lot a q ≤ a * 20 := by rw [e1]; exact Int.mul_le_mul_of_nonneg_left hf.2 h
    refine Int.le_trans (weight_le lot l _ e2 fun p hp => hg p (List.mem_cons_of_mem _ hp)) ?_
    have e4 : (0 : Int) ≤ 20 ^ l.length := Int.pow_nonneg (by decide)
    have e5 := Int.mul_le_mul_of_nonneg_right e3 e4
    rw [Int.mul_assoc] at e5
    rw [List.length_cons, Int.pow_succ', ]
    exact e5
theorem weightM_le (ups : List (Int × Int)) (lot : List Int) (hg : ∀ q ∈ ups, TwP q) (hn : ups.length ≤ 4) : weightM ups lot ≤ 160000 := by
  have h := weight_le lot ups.zipIdx 1 (by decide) fun q hq => hg q.1 (List.fst_mem_of_mem_zipIdx hq)
  rw [List.length_zipIdx, Int.one_mul] at h
  refine Int.le_trans h ?_
  match ups.length, hn with
  | 0, _ => decide
  | 1, _ => decide
  | 2, _ => decide
  | 3, _ => decide
  | 4, _ => decide
theorem sum_le (c : Int) (hc : 0 ≤ c) : ∀ l : List Int, (∀ x ∈ l, x ≤ c) → l.sum ≤ c * (l.length : Nat)
  | [], _ => by simp
  | a :: l, h => by
    rw [List.sum_cons, List.length_cons]
    have h1 := sum_le c hc l fun x hx => h x (List.mem_cons_of_mem _ hx)
    have h2 := h a List.mem_cons_self
    have e : c * ((l.length + 1 : Nat) : Int) = c * (l.length : Nat) + c := by rw [Int.natCast_add, Int.mul_add]; simp
    rw [e]
    omega
theorem lot_sum_le (n : Nat) (hn : n ≤ 4) (ups : List (Int × Int)) (p : List Int → Bool) (hg : ∀ q ∈ ups, TwP q) (hu : ups.length ≤ 4) : (((lotsM n).filter p).map fun lot => weightM ups lot).sum ≤ 2560000 := by
  have h := sum_le 160000 (by decide) (((lotsM n).filter p).map fun lot => weightM ups lot) fun x hx => by
    obtain ⟨lot, _, rfl⟩ := List.mem_map.mp hx
    exact weightM_le ups lot hg hu
  have hl : (((lotsM n).filter p).map fun lot => weightM ups lot).length ≤ 16 := by
    rw [List.length_map]
    refine Nat.le_trans (List.length_filter_le _ _) ?_
    rw [lots_len]
    match n, hn with
    | 0, _ => decide
    | 1, _ => decide
    | 2, _ => decide
    | 3, _ => decide
    | 4, _ => decide
  omega
theorem worth_le (v : List Int) (u : Nat) (ups : List (Int × Int)) (share : Int × Int) (need : Int) (hv : v.length ≤ 4) (hg : ∀ q ∈ ups, TwP q) (hu : ups.length ≤ 4) (hs : TwP share) : worthM v need u ups share ≤ 1000000000 := by
  unfold worthM wrM mixM
  rw [wr_fold]
  have h1 := lot_sum_le v.length hv ups (fun lot => decide (need ≤ sumM v lot)) hg hu
  have h2 := lot_sum_le v.length hv ups (fun lot => enoughM v need u lot) hg hu
  obtain ⟨⟨h3, h4⟩, h5⟩ := hs
  dsimp only
  have a1 : share.1 * (0 + (((lotsM v.length).filter fun lot => enoughM v need u lot).map fun lot => weightM ups lot).sum) ≤ share.1 * 2560000 := Int.mul_le_mul_of_nonneg_left (by omega) h3
  have a2 : (share.2 - share.1) * (0 + (((lotsM v.length).filter fun lot => decide (need ≤ sumM v lot)).map fun lot => weightM ups lot).sum) ≤ (share.2 - share.1) * 2560000 := Int.mul_le_mul_of_nonneg_left (by omega) (by omega)
  omega
/-- the best votes are some votes that are tried, with a need that is tried -/
def InP (n : Nat) (q : Int × List Int × Int) : Prop := (0 ≤ q.1 ∧ q.1 ≤ 1000000000) ∧ q.2.1 ∈ allVotesM n ∧ 1 ≤ q.2.2 ∧ q.2.2 ≤ 12
section
variable (u : Nat) (ups : List (Int × Int)) (share : Int × Int)
theorem need_in (v : List Int) (hv : v.length = ups.length) (hg : ∀ q ∈ ups, TwP q) (hu : ups.length ≤ 4) (hs : TwP share) : ∀ (n : Nat) (q : Int × Int), ndF v u ups share n = some q → (0 ≤ q.1 ∧ q.1 ≤ 1000000000) ∧ 1 ≤ q.2 ∧ q.2 ≤ (n : Nat)
  | 0, q, h => nomatch h
  | n + 1, q, h => by
    have ih := need_in v hv hg hu hs n
    have h0 := worth_ge v u ups share (1 + (n : Nat)) (fun q hq => (hg q hq).1) hs.1
    have h1 := worth_le v u ups share (1 + (n : Nat)) (by omega) hg hu hs
    rw [ndF_succ u ups share v hv n] at h
    split at h
    · split at h
      · cases h
        exact ⟨⟨h0, h1⟩, by dsimp only; omega, by dsimp only; omega⟩
      · have := ih q h
        exact ⟨this.1, by omega, by omega⟩
    · have := ih q h
      exact ⟨this.1, by omega, by omega⟩
theorem bv_in (hg : ∀ q ∈ ups, TwP q) (hu : ups.length ≤ 4) (hs : TwP share) : ∀ (l : List (List Int)) (b : Option (Int × List Int × Int)), (∀ v ∈ l, v ∈ allVotesM ups.length) → (∀ q, b = some q → InP ups.length q) → ∀ q, l.foldl (bvS u (weighM ups) share) b = some q → InP ups.length q
  | [], b, _, hb => hb
  | v :: l, b, hl, hb => by
    rw [List.foldl_cons]
    refine bv_in hg hu hs l _ (fun w hw => hl w (List.mem_cons_of_mem _ hw)) fun q hq => ?_
    have hv := hl v List.mem_cons_self
    have hv2 := votes_sum hu hv
    have hn := need_in u ups share v hv2.1 hg hu hs v.sum.toNat
    have hq : pickS b v (ndF v u ups share v.sum.toNat) = some q := hq
    cases e : ndF v u ups share v.sum.toNat with
    | none =>
      rw [e] at hq
      exact hb q hq
    | some t =>
      rw [e] at hq
      have ht := hn t e
      have hq : (if beatV b t.1 = true then some (t.1, v, t.2) else b) = some q := hq
      split at hq
      · cases hq
        exact ⟨ht.1, hv, ht.2.1, by dsimp only; omega⟩
      · exact hb q hq
theorem due_in (hg : ∀ q ∈ ups, TwP q) (hu : ups.length ≤ 4) (hs : TwP share) : votesDueM ups u share = none ∨ ∃ q, votesDueM ups u share = some (q.2.1, q.2.2, lowM q.1.toNat (underM share.2 ups).toNat) ∧ InP ups.length q := by
  have h1 := (bv_both ups u share (fun q hq => (hg q hq).1) hs.1).1
  have h2 := bv_in u ups share hg hu hs (allVotesM ups.length) none (fun v hv => hv) (fun _ z => nomatch z)
  rw [h1]
  cases e : bvM ups u share with
  | none => exact .inl rfl
  | some q => exact .inr ⟨q, rfl, h2 q e⟩
end
end G
set_option Elab.async false
set_option linter.all false
set_option maxRecDepth 100000
set_option maxHeartbeats 4000000
namespace G
open PySem PySem.Spec PyProof.Rows L2
/-! ### data whose repr fits -/
structure Sml (k c : Nat) (d : PyData) : Prop where
  sh : d.showable = true
  nd : d.hasDict = false
  dp : d.depth ≤ k
  ls : d.leavesShort 13 = true
  bk : d.bulk ≤ c
structure SmlA (k c : Nat) (ds : List PyData) : Prop where
  sh : PyData.showableAll ds = true
  nd : PyData.hasDictAll ds = false
  dp : PyData.depthAll ds ≤ k
  ls : PyData.leavesShortAll 13 ds = true
  bk : PyData.bulkAll ds ≤ c
theorem sml_nil : SmlA 0 0 [] := ⟨rfl, rfl, Nat.le_refl _, rfl, Nat.le_refl _⟩
theorem sml_cons {k j c e : Nat} {d : PyData} {ds : List PyData} (h : Sml k c d) (h2 : SmlA j e ds) : SmlA (max k j) (c + 1 + e) (d :: ds) := by
  refine ⟨?_, ?_, ?_, ?_, ?_⟩
  · show (d.showable && PyData.showableAll ds) = true
    rw [h.sh, h2.sh]
    rfl
  · show (d.hasDict || PyData.hasDictAll ds) = false
    rw [h.nd, h2.nd]
    rfl
  · show max d.depth (PyData.depthAll ds) ≤ _
    have := h.dp
    have := h2.dp
    omega
  · show (d.leavesShort 13 && PyData.leavesShortAll 13 ds) = true
    rw [h.ls, h2.ls]
    rfl
  · show d.bulk + 1 + PyData.bulkAll ds ≤ _
    have := h.bk
    have := h2.bk
    omega
theorem sml_list {k c : Nat} {ds : List PyData} (h : SmlA k c ds) : Sml (k + 1) c (.list ds) := ⟨h.sh, h.nd, Nat.succ_le_succ h.dp, h.ls, h.bk⟩
theorem sml_tup {k c : Nat} {ds : List PyData} (h : SmlA k c ds) : Sml (k + 1) c (.tuple ds) := ⟨h.sh, h.nd, Nat.succ_le_succ h.dp, h.ls, h.bk⟩
theorem sml_map {α : Type} {k c : Nat} {f : α → PyData} : ∀ {l : List α}, (∀ a ∈ l, Sml k c (f a)) → SmlA k ((c + 1) * l.length) (l.map f)
  | [], _ => ⟨rfl, rfl, Nat.zero_le _, rfl, Nat.zero_le _⟩
  | a :: l, h => by
    have h2 := sml_cons (h a List.mem_cons_self) (sml_map fun x hx => h x (List.mem_cons_of_mem _ hx))
    rw [Nat.max_self] at h2
    refine ⟨h2.sh, h2.nd, h2.dp, h2.ls, Nat.le_trans h2.bk ?_⟩
    rw [List.length_cons, Nat.mul_add, Nat.mul_one]
    omega
theorem sml_int {i : Int} (h0 : 0 ≤ i) (h1 : i < 10000000000000) : Sml 0 0 (.int i) := by
  refine ⟨decide_eq_true ?_, rfl, Nat.le_refl _, decide_eq_true (toString_length_le (k := 13) h0 (by decide) h1), Nat.le_refl _⟩
  by_cases z : i.natAbs = 0
  · rw [z]
    decide
  · have h2 : i.natAbs < 2 ^ 44 := by omega
    exact Nat.lt_trans ((Nat.log2_lt z).mpr h2) (by decide)
theorem sml_none : Sml 0 0 .none := ⟨rfl, rfl, Nat.le_refl _, rfl, Nat.le_refl _⟩
theorem Sml.shw {k c : Nat} {d : PyData} (h : Sml k c d) (hk : k ≤ 8) (hc : c ≤ 1000000) : Shw d :=
  ⟨h.sh, h.nd, Nat.le_trans h.dp hk, PyData.shown_fits_bulk (B := 13) (by decide) (by decide) h.ls (Nat.le_trans h.bk (Nat.le_trans hc (by decide)))⟩
theorem sml_fr {q : Int × Int} (h0 : 0 ≤ q.1 ∧ q.1 < 10000000000000) (h1 : 0 ≤ q.2 ∧ q.2 < 10000000000000) : Sml 1 2 (fr q) := sml_tup (sml_cons (sml_int h0.1 h0.2) (sml_cons (sml_int h1.1 h1.2) sml_nil))
/-- what best_counts hands back -/
theorem shw_counts (n u : Nat) (up share : Int × Int) (hn : n ≤ 5) : Shw (.list ((countsM n u up share).map fr)) := by
  rw [← bc_law]
  have hin : ∀ q ∈ bcM n u up share, q ∈ cntL n u n := fun q hq => (List.mem_filter.mp hq).1
  have hl : (bcM n u up share).length ≤ 5 := Nat.le_trans (List.length_filter_le _ _) (Nat.le_trans (cntL_len n u n) hn)
  refine (sml_list (sml_map (k := 1) (c := 2) fun q hq => ?_)).shw (by decide) (by omega)
  have h := cntL_in n u n (Nat.le_refl _) q (hin q hq)
  exact sml_fr (by omega) (by omega)
theorem low_small (a b : Nat) : (0 ≤ (lowM a b).1 ∧ (lowM a b).1 ≤ (a : Int)) ∧ 0 ≤ (lowM a b).2 ∧ (lowM a b).2 ≤ (b : Int) := by
  have h1 : a / Nat.gcd a b ≤ a := Nat.div_le_self _ _
  have h2 : b / Nat.gcd a b ≤ b := Nat.div_le_self _ _
  show (0 ≤ ((a / Nat.gcd a b : Nat) : Int) ∧ ((a / Nat.gcd a b : Nat) : Int) ≤ a) ∧ 0 ≤ ((b / Nat.gcd a b : Nat) : Int) ∧ ((b / Nat.gcd a b : Nat) : Int) ≤ b
  exact ⟨⟨Int.natCast_nonneg _, Int.ofNat_le.mpr h1⟩, Int.natCast_nonneg _, Int.ofNat_le.mpr h2⟩
/-- what best_votes hands back -/
theorem shw_due (u : Nat) (ups : List (Int × Int)) (share : Int × Int) (hg : ∀ q ∈ ups, TwP q) (hu : ups.length ≤ 4) (hs : TwP share) (hd : underM share.2 ups < 1000000) : Shw (bestD (votesDueM ups u share)) := by
  rcases due_in u ups share hg hu hs with e | ⟨q, e, ⟨h0, h1⟩, hv, hn⟩
  · rw [e]
    exact sml_none.shw (by decide) (by decide)
  · rw [e]
    have hv2 := votes_sum hu hv
    have hv3 := (votes_in _ _ (List.mem_filter.mp hv).1).2
    have hl := low_small q.1.toNat (underM share.2 ups).toNat
    have hvs : Sml 1 ((0 + 1) * q.2.1.length) (tup q.2.1) := sml_tup (sml_map (k := 0) (c := 0) (f := PyData.int) fun c hc => by
      have := hv3 c hc
      exact sml_int (by omega) (by omega))
    exact (sml_tup (sml_cons hvs (sml_cons (sml_int (i := q.2.2) (by omega) (by omega)) (sml_cons (sml_fr (by omega) (by omega)) sml_nil)))).shw (by decide) (by omega)
end G
set_option Elab.async false
set_option linter.all false
set_option maxRecDepth 100000
set_option maxHeartbeats 4000000
namespace G
open PySem PySem.Spec PyProof.Rows L2
section
variable {X : Cx} {T : Tl} {H0 : Hp} {es : Es} {a b e : Expr} {xs : List Expr} {d x y : PyData} {ds : List PyData} {pos p : Pos} {fn : Str} {k : Nat}
theorem j_eqD (hu : X.A.units + 64 < cLine) (ha : J X T H0 none es a x) (hb : J X T H0 none es b y) (sx : SeqAt.shaped x = true) (sy : SeqAt.shaped y = true) : J X T H0 none es (.Compare a [.Eq] [b] pos) (.bool (PyData.eqv x y)) :=
  j_cmpV (op_eqD hu) ha hb (fun σ H u v Q hA h1 h2 q => ⟨x, y, dx_dp _ _ (dx_mono bs_sub _ _ h1), dx_dp _ _ (dx_mono bs_sub _ _ h2), sx, sy, q⟩) (nomark _)
theorem jt_neD (hu : X.A.units + 64 < cLine) (ha : J X T H0 none es a x) (hb : J X T H0 none es b y) (sx : SeqAt.shaped x = true) (sy : SeqAt.shaped y = true) : JT X T H0 none es (.Compare a [.NotEq] [b] pos) (!PyData.eqv x y) :=
  jt_cmpV (op_neD hu) ha hb (fun σ H u v Q hA h1 h2 q => ⟨x, y, dx_dp _ _ (dx_mono bs_sub _ _ h1), dx_dp _ _ (dx_mono bs_sub _ _ h2), sx, sy, q⟩) (nomark _)
/-- a def that may raise, and doesn't -/
theorem j_callO {R : List PyData → Out → Prop} (F : FdX X.prog X.w X.K X.mg X.base k fn (spO T R)) (hr : Room k X.A) (ha : JA X T H0 none es (a :: xs) ds) (hR : R ds (.ok d)) (hg : Gl X fn := by rfl) (hdb : (fn == ("__debug__" : Str)) = false := by decide)
    (he : starEach (a :: xs) X.env = (false, eval a X.env) :: starEach xs X.env := by rfl) (hpl : (backTo pos (starEach xs X.env)).any (·.1) = false := by rfl) : J X T H0 none es (.Call (.Name fn p) (a :: xs) [] pos) d := by
  obtain ⟨fa, fd, ps, F0, hm, hk, hb⟩ := F.ex
  refine weakE (pe_call (E := fun _ _ _ => False) F0 hr hg hm hk hb .nil (passes_call (W := fun _ _ _ _ => False) takes0 fun _ _ _ _ z => z) ha hdb he hpl) fun σ H Q ⟨hA, q⟩ => ⟨hA, fun vs H1 u1 h1 => ?_⟩
  show spO T R (vs ++ []) H1 Q _
  rw [List.append_nil]
  exact ⟨(hA.lift u1).tab, ds, .ok d, h1, hR, fun v H2 u2 d2 => q v H2 (u1.trans u2) d2⟩
/-- what is known of _law_caught, and of the def that calls it (its code object at c, that one's table at Pt) -/
structure CauK (K : PySem.W.Frag) (mg : Str → Option Value) (P : Program) (CC CH : Addr) : Prop where
  ca : Cau K mg CC CH
  ec : ∃ fC, ErT K mg P "NoCount" CC fC
  eh : ∃ fH, ErT K mg P "NoChances" CH fH
  bz : Bz mg
  fn : ∃ g fd, Fun K "_law_caught" "_law_caught" (topS 46) g fd ∧ mg "_law_caught" = some (.ref g)
/-- _law_caught(lambda: fn(..)), where fn raises -/
theorem j_caught {R : List PyData → Out → Prop} {CC CH c Pt : Addr} {params : Arguments} {scope : Scope} {lpos p2 pos2 : Pos} {tod : PyData} {ds : List PyData} (w : Bool) (hgd : X.A.guards = some []) (hr : Room (k + 2) X.A) (Ck : CauK X.K X.mg X.prog CC CH) (F : FdX X.prog X.w X.K X.mg X.base k fn (spO T R))
    (TB : LamX.TabB X.base X.mg c Pt) (hcode : X.env.code = .ref c) (hmT : (Pt, X.env.qual ++ "<lambda>") ∈ T) (hu : ∀ p ∈ T, p.1 = Pt → p.2 = X.env.qual ++ "<lambda>") (L : LamX.LamS X.env.scope scope) (hdef : defaultsOf params X.env = ([], []))
    (hbind : ∀ (q : Str) (cl : List (Str × Addr)) (pm cv ctv : Value), bindArgs (PySem.W.kla_fn "<lambda>" q params (.Call (.Name fn p2) (a :: xs) [] pos2) scope cl pm cv ctv) ⟨[], []⟩ = pure [])
    (ha : ∀ (A : Around) (outer : List Env) (s : Shared) (H : Hp) (E : XK) (f c' : Addr), Room k (A.deeper (LamX.lamEnv X scope s.heap.objs.size f c')) → JA (LamX.lamCx X A outer s H E scope f c') T H0 none es (a :: xs) ds) (hR : R ds (.err (if w then CC else CH) tod)) (hs : Shw tod)
    (hgl : scope.names.lookup fn = some .globalImplicit) (he : ∀ (A : Around) (outer : List Env) (s : Shared) (H : Hp) (E : XK) (f c' : Addr), starEach (a :: xs) (LamX.lamCx X A outer s H E scope f c').env = (false, eval a (LamX.lamCx X A outer s H E scope f c').env) :: starEach xs (LamX.lamCx X A outer s H E scope f c').env)
    (hpl : ∀ (A : Around) (outer : List Env) (s : Shared) (H : Hp) (E : XK) (f c' : Addr), (backTo pos2 (starEach xs (LamX.lamCx X A outer s H E scope f c').env)).any (·.1) = false)
    (hdb : (fn == ("__debug__" : Str)) = false := by decide) (hg : Gl X "_law_caught" := by rfl) :
    J X T H0 none es (.Call (.Name "_law_caught" p) [.Lambda params (.Call (.Name fn p2) (a :: xs) [] pos2) scope lpos] [] pos) (.list [.str (if w then "count" else "chances"), .str tod.shown]) := by
  obtain ⟨fC, EC⟩ := Ck.ec
  obtain ⟨fH, EH⟩ := Ck.eh
  obtain ⟨g, fd, G, hm⟩ := Ck.fn
  obtain ⟨oc, od, kV, doc, pm, an, cdv, ct, osl, efd, lk, hcd⟩ := G.ex
  have hb := G.binds (ps := ["_law_call"]) fun _ _ _ _ _ _ us hl => match us, hl with | [_], _ => rfl
  subst efd
  obtain ⟨fa, fda, ps, F0, hm0, hk0, hb0⟩ := F.ex
  refine weakE (LamX.pe_lamcall (k := k) (t := fun E => tCall (spO T R) [] E (tD T H0 none es ds)) hg hm G.kp lk hcd hb scCau rfl (Or.inl rfl) (caught_gives hgd (by have := hr.un; omega) Ck.ca EC EH Ck.bz) TB hcode hmT hu hr L hdef hbind
    (fun A outer s H E f c' hr2 => pe_call (X := LamX.lamCx X A outer s H E scope f c') (E := E) F0 hr2 hgl hm0 hk0 hb0 .nil (passes_call (W := fun cls d _ H => E cls d H) (takes_of rfl rfl rfl rfl) fun _ _ _ _ z => z) (ha A outer s H E f c' hr2) hdb (he A outer s H E f c') (hpl A outer s H E f c'))) fun σ H Q ⟨hA, q⟩ => ?_
  refine ⟨hA.tab, fun H1 x1 t1 => ?_⟩
  have u1 : Up T H H1 := ⟨x1, fun _ => t1⟩
  refine ⟨hA.lift u1, fun vs H2 u2 d2 => ?_⟩
  show spO T R (vs ++ []) H2 _ _
  rw [List.append_nil]
  refine ⟨((hA.lift u1).lift u2).tab, ds, _, d2, hR, fun dd v H3 u3 h3 d3 => ⟨w, dd, v, tod, rfl, rfl, h3, d3, hs, fun pp hp => ?_⟩⟩
  refine q _ _ (((u1.trans u2).trans u3).trans (Up.new hp)) ?_
  exact .lst (.inl upd_same) (.cons (.str _) (.cons (.str _) .nil))
end
end G
set_option Elab.async false
set_option linter.all false
set_option maxRecDepth 100000
set_option maxHeartbeats 4000000
namespace G
open PySem PySem.Spec PyProof.Rows L2
theorem le_none : ∀ es : Es, Le (es.map fun _ => none) es
  | [] => .nil
  | _ :: es => .drop (le_none es)
theorem le_refl : ∀ es : Es, Le es es
  | [] => .nil
  | _ :: es => .keep (le_refl es)
theorem le_set (x : Option PyData) : ∀ (es : Es) (j : Nat), es[j]? = some none → Le es (es.set j x)
  | [], _, h => nomatch h
  | none :: es, 0, _ => .drop (le_refl es)
  | some _ :: es, 0, h => nomatch h
  | _ :: es, j + 1, h => .keep (le_set x es j h)
section
variable {X : Cx} {T : Tl} {Hb : Hp} {m : Nat} {l : Addr} {es es1 es2 : Es} {s s1 s2 : Pool} {a b e elt tg iter : Expr} {xs : List Expr} {body rest : List Stmt} {pos p p1 p2 : Pos} {i j k : Nat} {ds : List PyData} {d d1 d2 d3 : PyData} {x y : Str}
theorem AtP.ne {σ : L2.St} {H : Hp} {q : Addr} (A : AtP T Hb m l es s σ H) (h : H q = none) : q ≠ l := fun z => by
  have := A.obj
  rw [← z, h] at this
  cases this
theorem jp_tup {n : Nat} (h : JPa X T Hb m l es s xs s1 ds) (hl : ds.length ≤ 100000 := by first | decide | exact Nat.le_of_ble_eq_true rfl) : JPe X T Hb m l es s (.Tuple xs n pos) s1 (.tuple ds) :=
  weakE (pe_tup h) fun σ H Q ⟨hA, q⟩ => ⟨hA, fun vs H1 A1 u1 h1 => ⟨by rw [dxa_len h1]; exact line_of hl, fun p hp => by
    have u2 : Up T H1 (upd H1 p (.tup vs)) := Up.new hp
    have A2 := A1.lift u2
    have u3 := up_cut A1.tabs A1.obj (A1.stay u2) u2
    refine q (.ref p) _ A2 (u1.trans u3) (.tup (.inl ?_) (dxa_mono u3.ext _ _ h1))
    rw [cut_ne (A1.ne hp), upd_same]⟩⟩
/-! ### a, b(, c) = .. -/
theorem gt_two {K : PySem.W.Frag} {σ : L2.St} {H : Hp} {v : V} {k2 : L2.St → Hp → Prop} (A : AtP T Hb m l es s σ H) (h : Dx (cut H l) v (.tuple [d1, d2])) (n1 : m ≠ i) (n2 : m ≠ j) (q : ∀ σ2, AtP T Hb m l ((es.set i (some d1)).set j (some d2)) s σ2 H → k2 σ2 H) :
    gTup K 2 (gCons (gName i) (gCons (gName j) gNil)) v σ H k2 := by
  obtain ⟨a, us, e1, hl, hd⟩ := dx_tup h
  cases hd with
  | cons h1 h2 =>
    cases h2 with
    | cons h2 h3 =>
      cases h3
      exact ⟨a, _, e1, .inl (rdt_mono cut_sub hl), rfl, _, _, rfl, _, _, rfl, rfl, q _ ((A.set n1 h1).set n2 h2)⟩
theorem gt_three {K : PySem.W.Frag} {σ : L2.St} {H : Hp} {v : V} {k2 : L2.St → Hp → Prop} (A : AtP T Hb m l es s σ H) (h : Dx (cut H l) v (.tuple [d1, d2, d3])) (n1 : m ≠ i) (n2 : m ≠ j) (n3 : m ≠ k) (q : ∀ σ2, AtP T Hb m l (((es.set i (some d1)).set j (some d2)).set k (some d3)) s σ2 H → k2 σ2 H) :
    gTup K 3 (gCons (gName i) (gCons (gName j) (gCons (gName k) gNil))) v σ H k2 := by
  obtain ⟨a, us, e1, hl, hd⟩ := dx_tup h
  cases hd with
  | cons h1 h2 =>
    cases h2 with
    | cons h2 h3 =>
      cases h3 with
      | cons h3 h4 =>
        cases h4
        exact ⟨a, _, e1, .inl (rdt_mono cut_sub hl), rfl, _, _, rfl, _, _, rfl, _, _, rfl, rfl, q _ (((A.set n1 h1).set n2 h2).set n3 h3)⟩
theorem jps_two {K : PySem.W.Frag} (h : JPe X T Hb m l es s e s1 (.tuple [d1, d2])) (hg : PG X tg (gTup K 2 (gCons (gName i) (gCons (gName j) gNil)))) (n1 : m ≠ i := by decide) (n2 : m ≠ j := by decide)
    (hs : swapsWithSole [tg] e pos.line X.env = pure false := by rfl) (hw : swappedStores [tg] e X.env = pure none := by rfl) (h1 : (assignEach [tg] X.env).map (·.2) = [assign tg X.env] := by rfl) :
    JPs X T Hb m l (.Assign [tg] e pos) es s ((es.set i (some d1)).set j (some d2)) s1 :=
  weakS (ps_asg h hg hs hw h1) fun D σ H ⟨hA, q⟩ => ⟨hA, fun v H1 A1 u1 h1 => gt_two A1 h1 n1 n2 fun σ2 A2 => q σ2 H1 A2⟩
theorem jps_three {K : PySem.W.Frag} (h : JPe X T Hb m l es s e s1 (.tuple [d1, d2, d3])) (hg : PG X tg (gTup K 3 (gCons (gName i) (gCons (gName j) (gCons (gName k) gNil))))) (n1 : m ≠ i := by decide) (n2 : m ≠ j := by decide) (n3 : m ≠ k := by decide)
    (hs : swapsWithSole [tg] e pos.line X.env = pure false := by rfl) (hw : swappedStores [tg] e X.env = pure none := by rfl) (h1 : (assignEach [tg] X.env).map (·.2) = [assign tg X.env] := by rfl) :
    JPs X T Hb m l (.Assign [tg] e pos) es s (((es.set i (some d1)).set j (some d2)).set k (some d3)) s1 :=
  weakS (ps_asg h hg hs hw h1) fun D σ H ⟨hA, q⟩ => ⟨hA, fun v H1 A1 u1 h1 => gt_three A1 h1 n1 n2 n3 fun σ2 A2 => q σ2 H1 A2⟩
/-! ### [elt for y in range(..)], elt draws -/
def drawS (f : Pool → (Int × Int) × Pool) (s : Pool) : Nat → Pool
  | 0 => s
  | n + 1 => (f (drawS f s n)).2
def drawL (f : Pool → (Int × Int) × Pool) (s : Pool) (n : Nat) : List (Int × Int) := (List.range n).map fun i => (f (drawS f s i)).1
theorem draw_flat (f : Pool → (Int × Int) × Pool) (s : Pool) (n : Nat) : flat.flatAll ((drawL f s n).map fr) = true := flatAll_mem.mpr fun d hd => by
  obtain ⟨q, _, rfl⟩ := List.mem_map.mp hd
  rfl
/-- range(z), z a whole number that is in a slot -/
theorem pi_rg {n : Nat} {z : Str} {pz : Pos} (hm : X.mg "range" = none) (hn : n ≤ 100000) (hN : X.N[k]? = some z) (hg : Gl X "range" := by rfl) (hvs : Vis X.env.scope z := by first | exact Or.inl rfl | exact Or.inr (Or.inl rfl) | exact Or.inr (Or.inr rfl)) (hd : (z == ("__debug__" : Str)) = false := by decide) (hcd : (z == ("__classdict__" : Str)) = false := by decide)
    (he : starEach [.Name z pz] X.env = (false, eval (.Name z pz) X.env) :: starEach [] X.env := by rfl) : PI X tg (.Call (.Name "range" p) [.Name z pz] [] pos) (fun σ H R => σ[k]? = some (some (.int (n : Int))) ∧ R (Itr 0 n) H) :=
  weakI (pi_range1 hg hm (pa_cons (pe_var (i := k) hN hvs hd hcd) pa_nil he) he) fun σ H R ⟨h, q⟩ => ⟨_, h, (n : Int), rfl, by omega, by omega, q⟩
theorem jp_lc {f : Pool → (Int × Int) × Pool} {n : Nat} {scope : Scope} (hc : X.calm = true) (hN : X.N.Nodup) (hn : n ≤ 1000) (hk : es[k]? = some (some (.int (n : Int)))) (src : PI X (.Name y p1) iter (fun σ H R => σ[k]? = some (some (.int (n : Int))) ∧ R (Itr 0 n) H)) (ok : BlkOk X.N X.env.scope scope [(y, j)]) (mj : m ≠ j)
    (hg : ∀ (s : Shared) (H : Hp) (C : Addr) (cl : List (Str × Addr)) (fp : List Addr), PG (X.blk s H scope (compEnvC scope cl C X.env) fp) (.Name y p1) (gName j))
    (he : ∀ (sp : Pool) (s : Shared) (H : Hp) (C : Addr) (cl : List (Str × Addr)) (fp : List Addr), JPe (X.blk s H scope (compEnvC scope cl C X.env) fp) T Hb m l (es.map fun _ => none) sp elt (f sp).2 (fr (f sp).1))
    (hs : ∀ x, foldedSetIterable iter X.env x = pure x := by intro _; rfl) :
    JPe X T Hb m l es s (.ListComp elt [⟨.Name y p1, iter, [], 0⟩] scope pos) (drawS f s n) (.list ((drawL f s n).map fr)) := by
  refine weakE (pe_lc (own := [(y, j)]) (g := gName j) (te := fun σ H Q => ∃ sp : Pool, True ∧ tPe T Hb m l (es.map fun _ => none) sp (f sp).2 (fr (f sp).1) σ H Q) hc hN src ok hg (fun _ _ _ _ _ => pts_nil) (fun s H C cl fp => exE (P := fun _ : Pool => True) fun sp _ => he sp s H C cl fp) hs) fun σ H Q ⟨hA, q⟩ => ?_
  obtain ⟨vk, hvk, dvk⟩ := hA.at_.has.dat k _ hk
  have evk := dx_int dvk
  subst evk
  refine ⟨hvk, fun D hD => ?_⟩
  have nD : D ≠ l := hA.ne hD
  refine lc_it (g := gName j) (tt := tYes) (te := fun σ H Q => ∃ sp : Pool, True ∧ tPe T Hb m l (es.map fun _ => none) sp (f sp).2 (fr (f sp).1) σ H Q) (vs := [j]) (σ := σ) walk_range (fun i H' => Up T (cut H l) (cut H' l) ∧ LamX.Tabs T H' ∧ H' l = some (.lst (poolV (drawS f s i))) ∧ ∃ acc, H' D = some (.lst acc) ∧ DxAll (cut H' l) acc ((drawL f s i).map fr)) ?_ (fun _ _ _ _ => True.intro) (fun i x Ha Hb2 hi ⟨u, t, ho, acc, hacc, dacc⟩ hy => ?_) fun H' ⟨u, t, ho, acc, hacc, dacc⟩ => ?_
  · have u2 : Up T H (upd H D (.lst [])) := Up.new hD
    exact ⟨up_cut hA.tabs hA.obj (hA.stay u2) u2, (hA.lift u2).tabs, hA.stay u2, [], upd_same, .nil⟩
  · obtain ⟨e1, e2⟩ := hy
    subst e1 e2
    refine ⟨(wipe_in (vs := [j]) List.mem_cons_self).trans (wipe_idem _ _), yes_it ?_⟩
    dsimp only
    rw [if_pos rfl]
    have A2 : AtP T Hb m l (es.map fun _ => none) (drawS f s i) ((wipe σ [j]).set j (some (.int (0 + (i : Nat))))) Hb2 := by
      refine ⟨⟨hA.at_.up.trans u, tabs_cut t ho, ⟨?_, fun i d e => ?_⟩, fun _ _ z => nomatch z⟩, ?_, ho⟩
      · rw [List.length_set, List.length_map]
        show (σ.set j none).length = _
        rw [List.length_set]
        exact hA.at_.has.len
      · have z := List.mem_of_getElem? e
        obtain ⟨_, _, z2⟩ := List.mem_map.mp z
        cases z2
      · rw [List.getElem?_set_ne mj.symm]
        show (σ.set j none)[m]? = _
        rw [List.getElem?_set_ne mj.symm]
        exact hA.slot
    refine ⟨drawS f s i, True.intro, A2, fun v H3 A3 u3 d3 => ?_⟩
    have cD : ∀ H' : Hp, cut H' l D = H' D := fun H' => cut_ne nD
    have hacc3 : H3 D = some (.lst acc) := by
      have z := u3.ext D _ (by rw [cD]; exact hacc) fun _ z => by cases z
      rw [cD] at z
      exact z
    have dl := dxa_len dacc
    rw [List.length_map] at dl
    unfold drawL at dl
    rw [List.length_map, List.length_range] at dl
    refine ⟨acc, hacc3, line_lt (by omega), ?_, ?_, ?_, acc ++ [v], upd_same, ?_⟩
    · have e : cut (upd H3 D (.lst (acc ++ [v]))) l = upd (cut H3 l) D (.lst (acc ++ [v])) := by
        funext c
        by_cases hc1 : c = l
        · subst hc1
          rw [cut_same, upd_ne nD.symm, cut_same]
        · rw [cut_ne hc1]
          by_cases hc2 : c = D
          · rw [hc2, upd_same, upd_same]
          · rw [upd_ne hc2, upd_ne hc2, cut_ne hc1]
      rw [e]
      exact (u.trans u3).put (.none (by rw [cD]; exact hD)) (by rw [cD]; exact hacc3) (fun _ z => by cases z) (fun _ z => by cases z)
    · exact tabs_upd hacc3 (fun _ z => by cases z) (fun _ z => by cases z) A3.tabs
    · rw [upd_ne nD.symm]
      exact A3.obj
    · have e : drawL f s (i + 1) = drawL f s i ++ [(f (drawS f s i)).1] := by
        unfold drawL
        rw [List.range_succ, List.map_append]
        rfl
      rw [e, List.map_append]
      have tn : TupN (cut H3 l) (cut (upd H3 D (.lst (acc ++ [v]))) l) := by
        have keep : ∀ c o, (∀ xs, o ≠ .lst xs) → cut H3 l c = some o → cut (upd H3 D (.lst (acc ++ [v]))) l c = some o := fun c o hno z => by
          obtain ⟨c1, c2⟩ := cut_some z
          rw [cut_ne c1, upd_ne fun y => by rw [y, hacc3] at c2; exact hno _ (Option.some.inj c2).symm]
          exact c2
        exact ⟨fun c xs z => keep c _ (fun _ y => by cases y) z, fun c o xs z => keep c _ (fun _ y => by cases y) z⟩
      exact dxa_app (dxa_flat tn _ _ (draw_flat f s i) (dxa_mono u3.ext _ _ dacc)) (.cons (dx_flat tn _ _ rfl d3) .nil)
  · have A2 : AtP T Hb m l es (drawS f s n) σ H' := ⟨hA.at_.lift u, hA.slot, ho⟩
    exact q _ H' A2 u (.lst (.inl (by rw [cut_ne nD]; exact hacc)) dacc)
/-! ### for j in range(n): body, which draws -/
theorem jps_for {n : Nat} {jj : Nat} {pc : Pos} (hp : PassesOwn (model X.prog X.w) X.A X.env X.xe) (hc : X.calm = true) (hm : X.mg "range" = none) (hn : n ≤ 100000) (nj : m ≠ j) (hg : PG X tg (gName j)) (hb : ∀ sp, ∃ sp' es1, JPss X T Hb m l body es sp es1 sp' ∧ Le es es1) (hle : es[j]? = some none)
    (hgl : Gl X "range" := by rfl) (he : starEach [.Constant (.int (n : Int)) jj pc] X.env = (false, eval (.Constant (.int (n : Int)) jj pc) X.env) :: starEach [] X.env := by rfl) (hs : ∀ x, foldedSetIterable (.Call (.Name "range" p) [.Constant (.int (n : Int)) jj pc] [] p1) X.env x = pure x := by intro _; rfl) :
    PS X (.For tg (.Call (.Name "range" p) [.Constant (.int (n : Int)) jj pc] [] p1) body [] pos) (fun D σ H => (∃ s, AtP T Hb m l es s σ H) ∧ ∀ s' σ' H', AtP T Hb m l es s' σ' H' → D.nx σ' H') := by
  refine weakS (ps_for (tb := fun D σ H => ∃ sp : Pool, True ∧ (AtP T Hb m l es sp σ H ∧ ∀ s' σ' H', AtP T Hb m l es s' σ' H' → D.nx σ' H')) hp hc (pi_range1 hgl hm (pa_cons pe_int pa_nil he) he) hg (exSs (P := fun _ : Pool => True) fun sp _ => by
    obtain ⟨sp', es1, h1, h2⟩ := hb sp
    exact weakSs h1 fun D σ H ⟨A, q⟩ => ⟨A, fun σ' H' A' => q sp' σ' H' (A'.le h2)⟩) hs) fun D σ H ⟨⟨s0, hA⟩, q⟩ => ?_
  refine ⟨(n : Int), rfl, by omega, by omega, ?_⟩
  have e : ((n : Int)).toNat = n := by omega
  rw [e]
  refine for_it (g := gName j) (tb := fun D σ H => ∃ sp : Pool, True ∧ (AtP T Hb m l es sp σ H ∧ ∀ s' σ' H', AtP T Hb m l es s' σ' H' → D.nx σ' H')) (D := D) walk_range (fun _ σ' H' => ∃ s, AtP T Hb m l es s σ' H') ⟨s0, hA⟩ (fun _ _ _ _ _ => True.intro) (fun i x σ' Ha Hb2 hi ⟨s2, A2⟩ hy => ?_) fun σ' H' ⟨s2, A2⟩ => q s2 σ' H' A2
  obtain ⟨e1, e2⟩ := hy
  subst e1 e2
  refine ⟨s2, True.intro, ?_, fun s' σ3 H3 A3 => ⟨s', A3⟩⟩
  exact (A2.set nj (.int _)).le (le_set _ es j hle)
end
end G
set_option Elab.async false
set_option linter.all false
set_option maxRecDepth 100000
set_option maxHeartbeats 4000000
namespace G
/-! ### four copies, each up with one half: known by hand -/
abbrev halves : List (Int × Int) := List.replicate 4 (1, 2)
theorem four1 : votesDueM halves 0 (1, 1) = some ([1, 1, 1, 1], 4, (15, 16)) := by decide +kernel
theorem four2 : votesDueM halves 0 (0, 1) = some ([1, 1, 1, 1], 1, (15, 16)) := by decide +kernel
theorem four3 : votesDueM halves 1 (1, 1) = some ([1, 1, 1, 1], 4, (11, 16)) := by decide +kernel
theorem four4 : votesDueM halves 0 (1, 2) = some ([0, 0, 0, 1], 1, (1, 2)) := by decide +kernel
end G
set_option Elab.async false
set_option linter.all false
set_option maxRecDepth 100000
set_option maxHeartbeats 4000000
namespace G
open PySem PySem.Spec PyProof.Rows L2
/-- a def that draws, run where no repr is under way -/
structure FdG (P : Program) (w : World) (K : PySem.W.Frag) (mg : Str → Option Value) (base : Heap) (k : Nat) (x : Str) (sp : Sp) : Prop where
  ex : ∃ (f : Addr) (ps : List Str), FnG P w K mg base CX0 k f ps sp ∧ mg x = some (.ref f) ∧ PySem.W.keepIn K (.ref f) = true
section
variable {P : Program} {w : World} {K : PySem.W.Frag} {mg : Str → Option Value} {base : Heap} {T : Tl} {k : Nat} {x : Str} {st : Stmt} {f c : Addr} {fd : FuncData} {N ps : List Str}
theorem fdG_S {R : List PyData → Pool → Pool → PyData → Prop} (F : FunC K x st f fd c) (S : FnScope N ps (defScope st)) (hm : mg x = some (.ref f)) (hb : Binds K fd ps []) (hlen : ∀ ds s s' d, R ds s s' d → ds.length + 1 = ps.length)
    (body : ∀ (A : Around) (outer : List Env) (s : Shared) (H : Hp) (E : XK), A.guards = some [] → Room k (A.deeper (envOfC x (defScope st) s.heap.objs.size f (.ref c))) → ∀ (l : Addr) ds sp sp' d, R ds sp sp' d →
      JPr (cxOf CX0 P w K mg base N x (defScope st) f (.ref c) A outer s H E).nox T (cut H l) 0 l (defBody st) (startP N ds) sp (RS T (cut H l) l sp' d)) :
    FdG P w K mg base (k + 1) x (spS T R) :=
  ⟨f, ps, fnG_of F S hb (fun vs H Q E h => by
    obtain ⟨_, l, sp, vs', ds, sp', d, e, h1, h2, h3, _⟩ := h
    rw [e, List.length_cons, dxa_len h2]
    exact hlen ds sp sp' d h3) (fun A outer s H vs Q E hgd hr h => by
      obtain ⟨t, l, sp, vs', ds, sp', d, e, h1, h2, h3, q⟩ := h
      subst e
      exact ⟨_, (body A outer s H E hgd hr l ds sp sp' d h3).nox, at_startP t h1 h2, fun v H' ⟨H1, u, hn, e, dd⟩ => by
        subst e
        exact q v H1 u hn dd⟩), hm, F.kp⟩
end
section
variable {X : Cx} {T : Tl} {Hb : Hp} {m : Nat} {l : Addr} {es es1 es2 : Es} {s s1 s2 : Pool} {a b e elt tg iter : Expr} {xs : List Expr} {body rest : List Stmt} {pos p p1 p2 : Pos} {i j k : Nat} {ds : List PyData} {d d1 d2 d3 : PyData} {x y : Str}
theorem jps_unl {K : PySem.W.Frag} (h : JPe X T Hb m l es s e s1 (.list [d1, d2, d3])) (hg : PG X tg (gUnl K 3 (gCons (gName i) (gCons (gName j) (gCons (gName k) gNil))))) (n1 : m ≠ i := by decide) (n2 : m ≠ j := by decide) (n3 : m ≠ k := by decide)
    (hs : swapsWithSole [tg] e pos.line X.env = pure false := by rfl) (hw : swappedStores [tg] e X.env = pure none := by rfl) (h1 : (assignEach [tg] X.env).map (·.2) = [assign tg X.env] := by rfl) :
    JPs X T Hb m l (.Assign [tg] e pos) es s (((es.set i (some d1)).set j (some d2)).set k (some d3)) s1 :=
  weakS (ps_asg h hg hs hw h1) fun D σ H ⟨hA, q⟩ => ⟨hA, fun v H1 A1 u1 g1 => by
    obtain ⟨a, us, e1, hl, hd⟩ := dx_lst g1
    cases hd with
    | cons h1 h2 =>
      cases h2 with
      | cons h2 h3 =>
        cases h3 with
        | cons h3 h4 =>
          cases h4
          exact ⟨a, _, e1, .inl (rdl_mono cut_sub hl), rfl, _, _, rfl, _, _, rfl, _, _, rfl, rfl, q _ H1 (((A1.set n1 h1).set n2 h2).set n3 h3)⟩⟩
theorem jp_callG {R : List PyData → Pool → Pool → PyData → Prop} {n : Nat} {pp : Pos} (F : FdG X.prog X.w X.K X.mg X.base n x (spS T R)) (hgd : X.A.guards = some []) (hr : Room n X.A) (ha : JPa X T Hb m l es s xs s1 ds) (hR : R ds s1 s2 d) (hN : X.N[m]? = some y := by rfl)
    (hvs : Vis X.env.scope y := by first | exact Or.inl rfl | exact Or.inr (Or.inl rfl) | exact Or.inr (Or.inr rfl)) (hd : (y == ("__debug__" : Str)) = false := by decide) (hcd : (y == ("__classdict__" : Str)) = false := by decide) (hg : Gl X x := by rfl) (hdb : (x == ("__debug__" : Str)) = false := by decide)
    (he : starEach (.Name y pp :: xs) X.env = (false, eval (.Name y pp) X.env) :: starEach xs X.env := by rfl) (hpl : (backTo pos (starEach xs X.env)).any (·.1) = false := by rfl) : JPe X T Hb m l es s (.Call (.Name x p) (.Name y pp :: xs) [] pos) s2 d := by
  obtain ⟨fa, ps, F0, hm, hk⟩ := F.ex
  refine weakE (pe_callG (E := E0) F0 hgd hr hg hm hk pass0 (pa_cons (pe_var (i := m) hN hvs hd hcd) ha he) hdb he hpl) fun σ H Q ⟨hA, q⟩ => ⟨.ref l, hA.slot, hA, fun vs H1 A1 u1 h1 => ?_⟩
  show spS T R ((.ref l :: vs) ++ []) H1 Q E0
  rw [List.append_nil]
  refine ⟨A1.tabs, l, s1, vs, ds, s2, d, rfl, A1.obj, h1, hR, fun v H2 u2 hn d2 => q v _ (A1.go u2 hn s2) ?_ ?_⟩
  · rw [cut_updn hn]
    exact u1.trans u2
  · rw [cut_updn hn]
    exact d2
end
/-! ### _law_four_right -/
def knownD : List PyData := [.list [.int 0, fr (1, 1), bestD (some ([1, 1, 1, 1], 4, (15, 16)))], .list [.int 0, fr (0, 1), bestD (some ([1, 1, 1, 1], 1, (15, 16)))],
  .list [.int 1, fr (1, 1), bestD (some ([1, 1, 1, 1], 4, (11, 16)))], .list [.int 0, fr (1, 2), bestD (some ([0, 0, 0, 1], 1, (1, 2)))]]
def RFour (ds : List PyData) (s s' : Pool) (d : PyData) : Prop := ds = [] ∧ s' = (takeM s 4).2 ∧ d = .bool true
theorem scFour : FnScope ["_law_source", "_law_known", "_law_unruly_here", "_law_share_here", "_law_due"] ["_law_source"] (defScope (topS 59)) := ⟨rfl, rfl, rfl, by decide +kernel, rfl, by decide +kernel, by decide +kernel⟩
theorem known_at {i : Int} (h0 : 0 ≤ i) (h1 : i < 4) : ∃ (u : Nat) (sh : Int × Int) (b : Best), atI knownD i = some (.list [.int (u : Int), fr sh, bestD b]) ∧ u ≤ 1 ∧ chB (fr sh) = true ∧ TwP sh ∧ sh.2 ≤ 2 ∧ votesDueM halves u sh = b := by
  obtain ⟨n, rfl⟩ : ∃ n : Nat, i = (n : Int) := ⟨i.toNat, by omega⟩
  match n, h1 with
  | 0, _ => exact ⟨0, (1, 1), _, rfl, by decide, by decide +kernel, ⟨⟨by decide, by decide⟩, by decide⟩, by decide, four1⟩
  | 1, _ => exact ⟨0, (0, 1), _, rfl, by decide, by decide +kernel, ⟨⟨by decide, by decide⟩, by decide⟩, by decide, four2⟩
  | 2, _ => exact ⟨1, (1, 1), _, rfl, by decide, by decide +kernel, ⟨⟨by decide, by decide⟩, by decide⟩, by decide, four3⟩
  | 3, _ => exact ⟨0, (1, 2), _, rfl, by decide, by decide +kernel, ⟨⟨by decide, by decide⟩, by decide⟩, by decide, four4⟩
  | n + 4, h => omega
section
variable {P : Program} {w : World} {K : PySem.W.Frag} {mg : Str → Option Value} {base : Heap} {T : Tl} {f c : Addr} {fd : FuncData} {CC CH : Addr}
theorem half_tw : ∀ q ∈ halves, TwP q := fun q hq => by
  rw [List.eq_of_mem_replicate hq]
  exact ⟨⟨by decide, by decide⟩, by decide⟩
theorem under_half {c : Int} : underM c halves = c * 2 * 2 * 2 * 2 := rfl
theorem ok_four (F : FunC K "_law_four_right" (topS 59) f fd c) (hm : mg "_law_four_right" = some (.ref f)) (B : Bz mg) (On : Fd P w K mg base 2 "_law_one" (spS T ROne)) (Bv : FdX P w K mg base 6 "best_votes" (spO T (RBv CC CH))) : FdG P w K mg base 7 "_law_four_right" (spS T RFour) := by
  refine fdG_S F scFour hm (F.fn.binds fun _ _ _ _ _ _ us hl => match us, hl with | [_], _ => rfl) (fun ds s s' d h => by obtain ⟨rfl, _⟩ := h; rfl) fun A outer s H E hgd hr l ds sp sp' d h => ?_
  obtain ⟨rfl, rfl, rfl⟩ := h
  have hu : (A.deeper (envOfC "_law_four_right" (defScope (topS 59)) s.heap.objs.size f (.ref c))).units + 16 < cLine := by have := hr.un; omega
  have ht := takeM_in sp 4 (by decide)
  obtain ⟨u, sh, b, hat, hu1, hch, htw, hsh, hdue⟩ := known_at ht.1 ht.2
  refine jpr_cons (jps_set 1 scFour.nd (jp_of (jn (jn_lst (ja_cons (jn (jn_lst (ja_cons j_int (ja_cons (j_tup (ja_cons j_int (ja_cons j_int ja_nil))) (ja_cons (j_tup (ja_cons (j_tup (ja_cons j_int (ja_cons j_int (ja_cons j_int (ja_cons j_int ja_nil))))) (ja_cons j_int (ja_cons (j_tup (ja_cons j_int (ja_cons j_int ja_nil))) ja_nil)))) ja_nil))))) (ja_cons (jn (jn_lst (ja_cons j_int (ja_cons (j_tup (ja_cons j_int (ja_cons j_int ja_nil))) (ja_cons (j_tup (ja_cons (j_tup (ja_cons j_int (ja_cons j_int (ja_cons j_int (ja_cons j_int ja_nil))))) (ja_cons j_int (ja_cons (j_tup (ja_cons j_int (ja_cons j_int ja_nil))) ja_nil)))) ja_nil))))) ja_nil)))))) ?_
  refine jpr_cons (jps_set 1 scFour.nd (jp_of (jn (jn_cat (jv 1 rfl) (jn (jn_lst (ja_cons (jn (jn_lst (ja_cons j_int (ja_cons (j_tup (ja_cons j_int (ja_cons j_int ja_nil))) (ja_cons (j_tup (ja_cons (j_tup (ja_cons j_int (ja_cons j_int (ja_cons j_int (ja_cons j_int ja_nil))))) (ja_cons j_int (ja_cons (j_tup (ja_cons j_int (ja_cons j_int ja_nil))) ja_nil)))) ja_nil))))) (ja_cons (jn (jn_lst (ja_cons j_int (ja_cons (j_tup (ja_cons j_int (ja_cons j_int ja_nil))) (ja_cons (j_tup (ja_cons (j_tup (ja_cons j_int (ja_cons j_int (ja_cons j_int (ja_cons j_int ja_nil))))) (ja_cons j_int (ja_cons (j_tup (ja_cons j_int (ja_cons j_int ja_nil))) ja_nil)))) ja_nil))))) ja_nil)))) (by decide))))) ?_
  refine jpr_cons (jps_unl (i := 2) (j := 3) (k := 4) (jp_call On (hr.mono (by decide)) (jpa_cons (jp_of (jv 1 rfl)) jpa_nil) ⟨knownD, rfl, by decide, by decide, rfl, hat⟩) (pg_unl rfl (pgs_cons (pg_name (i := 2) scFour.nd rfl (Or.inl rfl)) (pgs_cons (pg_name (i := 3) scFour.nd rfl (Or.inl rfl)) (pgs_cons (pg_name (i := 4) scFour.nd rfl (Or.inl rfl)) pgs_nil))))) ?_
  have hsw : Shw (bestD b) := hdue ▸ shw_due u halves sh half_tw (by decide) htw (by rw [under_half]; omega)
  refine jpr_ret (d := .bool true) (jp_of (j_as (j_eqS (j_repr hgd hu B.repr (j_callO (d := bestD b) Bv (hr.mono (by decide)) (ja_cons (jn (jn_rep (n := 4) (jn_lst (ja_cons (j_tup (ja_cons j_int (ja_cons j_int ja_nil))) ja_nil)) j_int (by decide) (by decide))) (ja_cons (jv 2 rfl) (ja_cons (jv 3 rfl) ja_nil))) ?_) hsw) (j_repr hgd hu B.repr (jv 4 rfl) hsw)) (by simp))) fun v σ H' a hd => rs_of a hd
  have e4 : bvO CC CH [fr (1, 2), fr (1, 2), fr (1, 2), fr (1, 2)] (.int (u : Int)) (fr sh) = .ok (bestD b) := by
    have k1 : upsOk [fr (1, 2), fr (1, 2), fr (1, 2), fr (1, 2)] = true := by decide +kernel
    have k2 : isNum (.int (u : Int)) 0 (([fr (1, 2), fr (1, 2), fr (1, 2), fr (1, 2)] : List PyData).length : Nat) = true := by
      match u, hu1 with
      | 0, _ => decide +kernel
      | 1, _ => decide +kernel
    unfold bvO
    rw [if_pos k1, if_pos k2, if_pos hch, ← hdue]
    rfl
  refine ⟨[fr (1, 2), fr (1, 2), fr (1, 2), fr (1, 2)], .int (u : Int), fr sh, rfl, fun v hv => ?_, by decide, (fun _ z => nomatch z), .ii _ _, ?_, e4.symm⟩
  · simp only [List.mem_cons, List.not_mem_nil, or_false, or_self] at hv
    subst hv
    exact .ii 1 2
  · show underM sh.2 halves < 1000000
    rw [under_half]
    omega
end
end G
set_option Elab.async false
set_option linter.all false
set_option maxRecDepth 100000
set_option maxHeartbeats 4000000
namespace G
open PySem PySem.Spec PyProof.Rows L2
/-! ### plain facts for the law -/
def oddD : List PyData := [.none, .tuple [.int 2, .int 4], .tuple [.int 3, .int 2], .tuple [.int 1, .int 21], .list [.int 1, .int 2], .tuple [.bool true, .int 2], .tuple [.int (-1), .int 2]]
def shwB (d : PyData) : Bool := ((d.showable && !d.hasDict) && decide (d.depth ≤ 8)) && (d.leavesShort 13 && decide (d.bulk ≤ 1000000))
theorem shw_by {d : PyData} (h : shwB d = true) : Shw d := by
  unfold shwB at h
  simp only [Bool.and_eq_true, Bool.not_eq_true', decide_eq_true_eq] at h
  obtain ⟨⟨⟨h1, h2⟩, h3⟩, h4, h5⟩ := h
  exact (Sml.mk h1 h2 h3 h4 h5).shw (by decide) (by decide)
/-- what _law_caught tells of it -/
abbrev toldD (word : Str) (d : PyData) : PyData := .list [.str word, .str d.shown]
theorem odd_all : ∀ d ∈ oddD, (chB d = false ∧ shwB d = true) ∧ SeqAt.shaped (toldD "chances" d) = true := by decide +kernel
theorem odd_fr : ∀ d ∈ oddD, Fr d := fun d h => by
  simp only [oddD, List.mem_cons, List.not_mem_nil, or_false] at h
  rcases h with e | e | e | e | e | e | e <;> subst e
  · exact .non
  · exact .ii _ _
  · exact .ii _ _
  · exact .ii _ _
  · exact .lst _
  · exact .bi _ _
  · exact .ii _ _
theorem atI_some {α : Type} {l : List α} {i : Int} (h0 : 0 ≤ i) (h1 : i < (l.length : Nat)) : ∃ d, atI l i = some d ∧ d ∈ l := by
  obtain ⟨n, rfl⟩ : ∃ n : Nat, i = (n : Int) := ⟨i.toNat, by omega⟩
  have hn : n < l.length := by omega
  exact ⟨l[n], atI_nat (List.getElem?_eq_getElem hn), List.getElem_mem hn⟩
theorem eqv_told {x : PyData} (h : SeqAt.shaped x = true) : PyData.eqv x x = true := SeqAt.eqv_refl x (SeqAt.canLay_of_shaped h)
theorem count_all : ∀ n : Fin 8, shwB (.int (n.val : Int)) = true ∧ SeqAt.shaped (toldD "count" (.int (n.val : Int))) = true := by decide +kernel
theorem count_in (n : Nat) (h : n < 8) : Shw (.int (n : Int)) ∧ SeqAt.shaped (toldD "count" (.int (n : Int))) = true := ⟨shw_by (count_all ⟨n, h⟩).1, (count_all ⟨n, h⟩).2⟩
/-- a chance that is drawn -/
structure Drawn (q : Int × Int) : Prop where
  ch : chB (fr q) = true
  sm : SmallP q
  tw : TwP q
  pos : 0 < q.2
  five : q.2 ≤ 5
theorem drawn (s : Pool) : Drawn (chanceM s).1 := by
  obtain ⟨h1, h2⟩ := chance_ok s
  obtain ⟨_, a, b, c, d, e⟩ := ch_fr h1
  exact ⟨h1, a, ⟨⟨d, e⟩, c⟩, b, h2⟩
theorem isNum_in {i lo hi : Int} (h0 : lo ≤ i) (h1 : i ≤ hi) : isNum (.int i) lo hi = true := by
  show (decide (lo ≤ i) && decide (i ≤ hi)) = true
  rw [decide_eq_true h0, decide_eq_true h1]
  rfl
theorem isNum_out {i lo hi : Int} (h1 : hi < i) : isNum (.int i) lo hi = false := by
  have h2 : ¬ i ≤ hi := by omega
  show (decide (lo ≤ i) && decide (i ≤ hi)) = false
  rw [decide_eq_false h2, Bool.and_false]
theorem bc_ok1 {CC CH : Addr} {n u : Nat} {up sh : Int × Int} (h1 : 1 ≤ n) (h2 : n ≤ 5) (h3 : u ≤ n) (h4 : Drawn up) (h5 : Drawn sh) : bcO CC CH n u (fr up) (fr sh) = .ok (.list ((countsM n u up sh).map fr)) := by
  unfold bcO
  rw [if_pos (isNum_in (by omega) (by omega)), if_pos (isNum_in (by omega) (by omega)), if_pos h4.ch, if_pos h5.ch]
  rfl
theorem bc_odd {CC CH : Addr} {n u : Nat} {d : PyData} (h1 : 1 ≤ n) (h2 : n ≤ 5) (h3 : u ≤ n) (h4 : chB d = false) : bcO CC CH n u d d = .err CH d := by
  unfold bcO
  rw [if_pos (isNum_in (by omega) (by omega)), if_pos (isNum_in (by omega) (by omega)), if_neg (by rw [h4]; decide)]
theorem bc_more {CC CH : Addr} {n : Nat} {d : PyData} (h1 : 1 ≤ n) (h2 : n ≤ 5) : bcO CC CH n ((n : Int) + 1) d d = .err CC (.int ((n : Int) + 1)) := by
  unfold bcO
  rw [if_pos (isNum_in (by omega) (by omega)), if_neg (by rw [isNum_out (by omega)]; decide)]
theorem bc_six {CC CH : Addr} {d : PyData} : bcO CC CH 6 9 d d = .err CC (.int 6) := by
  unfold bcO
  rw [if_neg (by rw [isNum_out (by decide)]; decide)]
/-- chances that are drawn, one after the other -/
theorem draw_in (s : Pool) (n : Nat) : ∀ q ∈ drawL chanceM s n, Drawn q := fun q hq => by
  obtain ⟨i, _, rfl⟩ := List.mem_map.mp hq
  exact drawn _
theorem draw_len (s : Pool) (n : Nat) : (drawL chanceM s n).length = n := by
  unfold drawL
  rw [List.length_map, List.length_range]
theorem under_draw : ∀ (ups : List (Int × Int)) (c k : Int), 0 < c → c ≤ k → (∀ q ∈ ups, Drawn q) → 0 < underM c ups ∧ underM c ups ≤ k * 5 ^ ups.length
  | [], c, k, h0, h1, _ => by
    show 0 < c ∧ c ≤ k * 5 ^ 0
    simp
    exact ⟨h0, h1⟩
  | q :: ups, c, k, h0, h1, h => by
    have hq := h q List.mem_cons_self
    have e1 : c * q.2 ≤ k * 5 := Int.le_trans (Int.mul_le_mul_of_nonneg_left hq.five (by omega)) (Int.mul_le_mul_of_nonneg_right h1 (by decide))
    have r := under_draw ups (c * q.2) (k * 5) (Int.mul_pos h0 hq.pos) e1 fun p hp => h p (List.mem_cons_of_mem _ hp)
    refine ⟨r.1, Int.le_trans r.2 ?_⟩
    rw [List.length_cons, Int.pow_succ', Int.mul_assoc]
    exact Int.le_refl _
theorem under_small {ups : List (Int × Int)} {sh : Int × Int} (hl : ups.length ≤ 3) (h : ∀ q ∈ ups, Drawn q) (hs : Drawn sh) : 0 < underM sh.2 ups ∧ underM sh.2 ups < 1000000 := by
  have r := under_draw ups sh.2 5 hs.pos hs.five h
  refine ⟨r.1, Int.lt_of_le_of_lt r.2 ?_⟩
  match ups.length, hl with
  | 0, _ => decide
  | 1, _ => decide
  | 2, _ => decide
  | 3, _ => decide
theorem frs_of (ups : List (Int × Int)) : (ups.map fr).map frOf = ups := by
  rw [List.map_map]
  exact List.map_id _
theorem ups_ok {ups : List (Int × Int)} (h1 : 1 ≤ ups.length) (h2 : ups.length ≤ 4) (h : ∀ q ∈ ups, Drawn q) : upsOk (ups.map fr) = true := by
  unfold upsOk
  have e : (ups.map fr).all chB = true := List.all_eq_true.mpr fun d hd => by
    obtain ⟨q, hq, rfl⟩ := List.mem_map.mp hd
    exact (h q hq).ch
  rw [e, List.length_map, decide_eq_true (show (1 : Int) ≤ (ups.length : Nat) by omega), decide_eq_true (show ((ups.length : Nat) : Int) ≤ 4 by omega)]
  rfl
theorem ups_fr {ups : List (Int × Int)} : ∀ v ∈ ups.map fr, Fr v := fun v hv => by
  obtain ⟨q, _, rfl⟩ := List.mem_map.mp hv
  exact .ii _ _
theorem bv_ok1 {CC CH : Addr} {u : Nat} {ups : List (Int × Int)} {sh : Int × Int} (h1 : 1 ≤ ups.length) (h2 : ups.length ≤ 4) (hu : u ≤ ups.length) (h : ∀ q ∈ ups, Drawn q) (hs : Drawn sh) : bvO CC CH (ups.map fr) (.int (u : Int)) (fr sh) = .ok (bestD (votesDueM ups u sh)) := by
  unfold bvO
  rw [if_pos (ups_ok h1 h2 h), if_pos (isNum_in (by omega) (by rw [List.length_map]; omega)), if_pos hs.ch, frs_of]
  rfl
theorem bv_more {CC CH : Addr} {ups : List (Int × Int)} {d : PyData} (h1 : 1 ≤ ups.length) (h2 : ups.length ≤ 4) (h : ∀ q ∈ ups, Drawn q) : bvO CC CH (ups.map fr) (.int ((ups.length : Nat) + 1)) d = .err CC (.int ((ups.length : Nat) + 1)) := by
  unfold bvO
  rw [if_pos (ups_ok h1 h2 h), if_neg (by rw [isNum_out (by rw [List.length_map]; omega)]; decide)]
abbrev fiveD : List PyData := [fr (1, 2), fr (1, 2), fr (1, 2), fr (1, 2), fr (1, 2)]
theorem bv_five {CC CH : Addr} : bvO CC CH fiveD .none .none = .err CH (.list fiveD) := by
  unfold bvO
  rw [if_neg (by decide +kernel)]
theorem five_told : shwB (.list fiveD) = true ∧ SeqAt.shaped (toldD "chances" (.list fiveD)) = true := by decide +kernel
end G
set_option Elab.async false
set_option linter.all false
set_option maxRecDepth 100000
set_option maxHeartbeats 4000000
namespace G
open PySem PySem.Spec PyProof.Rows L2
section
variable {X : Cx} {T : Tl} {Hb : Hp} {m : Nat} {l : Addr} {es : Es} {s s1 s2 : Pool} {a b : Expr} {pos : Pos} {x k : Bool}
theorem jpt_val (h : JPe X T Hb m l es s a s1 (.bool x)) (he : ∀ whole, isTrue a X.env whole = (do let v ← whole; standAt a.pos; holding [v] (truthy v)) := by intro _; rfl) : JPt X T Hb m l es s a s1 x :=
  weakT (pt_val h he) fun σ H Q ⟨hA, q⟩ => ⟨hA, fun u H1 A1 u1 d1 => ⟨x, dx_bl d1, q H1 A1 u1⟩⟩
theorem jpt_not (h : JPt X T Hb m l es s a s1 x) : JPt X T Hb m l es s (.UnaryOp .Not a pos) s1 (!x) := weakT (pt_not h) fun σ H Q ⟨hA, q⟩ => ⟨hA, fun H1 A1 u1 => q H1 A1 u1⟩
theorem jpt_and (ha : JPt X T Hb m l es s a s1 k) (hb : k = true → JPt X T Hb m l es s1 b s2 false) (hk : k = false → s2 = s1) : JPt X T Hb m l es s (.BoolOp .And [a, b] pos) s2 false := by
  cases k with
  | true => exact weakT ((pw_and ha (pw_and1 (hb rfl))).pt) fun σ H Q ⟨hA, q⟩ => ⟨hA, fun H1 A1 u1 => iteT ⟨A1, fun H2 A2 u2 => q H2 A2 (u1.trans u2)⟩⟩
  | false =>
    have e := hk rfl
    subst e
    exact weakT ((pw_and (tB' := fun _ _ _ => False) ha ⟨fun _ _ _ _ _ _ _ z => z.elim⟩).pt) fun σ H Q ⟨hA, q⟩ => ⟨hA, fun H1 A1 u1 => iteF (q H1 A1 u1)⟩
end
/-- the promises of all that the law calls -/
structure LawP (P : Program) (w : World) (K : PySem.W.Frag) (mg : Str → Option Value) (base : Heap) (T : Tl) (CC CH : Addr) : Prop where
  pool : Fd P w K mg base 1 "_law_pool" (spPool T K)
  take : Fd P w K mg base 1 "_law_take" (spS T RTake)
  chance : Fd P w K mg base 2 "_law_chance" (spS T RChance)
  one : Fd P w K mg base 2 "_law_one" (spS T ROne)
  counts : Fd P w K mg base 3 "_law_counts" (spD T RCounts)
  due : Fd P w K mg base 4 "_law_votes_due" (spD T RDue)
  bc : FdX P w K mg base 6 "best_counts" (spO T (RBc CC CH))
  bv : FdX P w K mg base 6 "best_votes" (spO T (RBv CC CH))
  four : FdG P w K mg base 7 "_law_four_right" (spS T RFour)
  ck : CauK K mg P CC CH
abbrev nLaw : List Str := ["_law_script", "_law_source", "_law_turn", "_law_up_here", "_law_share_here", "_law_due", "_law_few", "_law_many", "_law_odd", "_law_unruly_here", "_law_ups_here", "_law_copy"]
abbrev esN : Es := [none, none, none, none, none, none, none, none, none, none, none, none]
theorem scLaw : FnScope nLaw ["_law_script"] (defScope (topS 60)) := ⟨rfl, rfl, rfl, by decide +kernel, rfl, by decide +kernel, by decide +kernel⟩
def forBody : Stmt → List Stmt
  | .For _ _ b _ _ => b
  | _ => []
def lawFor : Stmt := (defBody (topS 60)).getD 1 (.Pass ⟨0, 0, 0, 0⟩)
section
variable {P : Program} {w : World} {K : PySem.W.Frag} {mg : Str → Option Value} {base : Heap} {T : Tl} {f c Pt : Addr} {CC CH : Addr} {A : Around} {outer : List Env} {s : Shared} {H : Hp} {E : XK} {Hb : Hp} {l : Addr}
theorem law_turn (L : LawP P w K mg base T CC CH) (TB : LamX.TabB base mg c Pt) (hT : (Pt, ("law" : Str) ++ ".<locals>." ++ "<lambda>") ∈ T) (hu : ∀ p ∈ T, p.1 = Pt → p.2 = ("law" : Str) ++ ".<locals>." ++ "<lambda>") (hgd : A.guards = some [])
    (hr : Room 8 (A.deeper (envOfC "law" (defScope (topS 60)) s.heap.objs.size f (.ref c)))) (sp : Pool) :
    ∃ sp' es1, JPss (cxOf CX0 P w K mg base nLaw "law" (defScope (topS 60)) f (.ref c) A outer s H E).nox T Hb 1 l (forBody lawFor) esN sp es1 sp' ∧ Le esN es1 := by
  have B := L.ck.bz
  have nd := scLaw.nd
  have hun : (A.deeper (envOfC "law" (defScope (topS 60)) s.heap.objs.size f (.ref c))).units + 16 < cLine := by have := hr.un; omega
  have hu64 : (A.deeper (envOfC "law" (defScope (topS 60)) s.heap.objs.size f (.ref c))).units + 64 < cLine := by have := hr.un; omega
  have h5 := takeM_in sp 5 (by decide)
  obtain ⟨n, hn⟩ : ∃ n : Nat, 1 + (takeM sp 5).1 = (n : Int) := ⟨(1 + (takeM sp 5).1).toNat, by omega⟩
  have n1 : 1 ≤ n := by omega
  have n5 : n ≤ 5 := by omega
  have dU := drawn (takeM sp 5).2
  have dS := drawn (chanceM (takeM sp 5).2).2
  generalize hs3 : (chanceM (chanceM (takeM sp 5).2).2).2 = s3
  have hun2 := takeM_in s3 ((n : Int) + 1) (by omega)
  obtain ⟨u, hu2⟩ : ∃ u : Nat, (takeM s3 ((n : Int) + 1)).1 = (u : Int) := ⟨(takeM s3 ((n : Int) + 1)).1.toNat, by omega⟩
  have un : u ≤ n := by omega
  have h7 := takeM_in (takeM s3 ((n : Int) + 1)).2 7 (by decide)
  obtain ⟨odd, hat, hmem⟩ := atI_some (l := oddD) h7.1 h7.2
  obtain ⟨⟨hbad, hshw⟩, hshp⟩ := odd_all odd hmem
  have hfr := odd_fr odd hmem
  have hshw := shw_by hshw
  obtain ⟨cs, cp⟩ := count_in (n + 1) (by omega)
  have en : (((n + 1 : Nat)) : Int) = (n : Int) + 1 := by omega
  rw [en] at cs cp
  refine ⟨(takeM (takeM s3 ((n : Int) + 1)).2 7).2, [none, none, none, some (fr (chanceM (takeM sp 5).2).1), some (fr (chanceM (chanceM (takeM sp 5).2).2).1), some (.list ((countsM n u (chanceM (takeM sp 5).2).1 (chanceM (chanceM (takeM sp 5).2).2).1).map fr)), none, some (.int (n : Int)), some odd, some (.int (u : Int)), none, none], ?_, ?_⟩
  · refine jps_cons (jps_three (i := 7) (j := 3) (k := 4) (jp_tup (jpa_cons (jp_as (jp_add (jp_of j_int) (jp_call L.take (hr.mono (by decide)) (jpa_cons (jp_of j_int) jpa_nil) ⟨5, rfl, by decide, by decide, rfl, rfl⟩)) (by rw [hn])) (jpa_cons (jp_call L.chance (hr.mono (by decide)) jpa_nil ⟨rfl, rfl, rfl⟩) (jpa_cons (jp_call L.chance (hr.mono (by decide)) jpa_nil ⟨rfl, hs3.symm, rfl⟩) jpa_nil))))
      (pg_tup rfl (pgs_cons (pg_name (i := 7) nd rfl (Or.inr rfl)) (pgs_cons (pg_name (i := 3) nd rfl (Or.inl rfl)) (pgs_cons (pg_name (i := 4) nd rfl (Or.inl rfl)) pgs_nil))))) ?_
    refine jps_cons (jps_set 9 nd (jp_as (jp_call L.take (hr.mono (by decide)) (jpa_cons (jp_of (j_add (jv 7 rfl) j_int)) jpa_nil) ⟨_, rfl, by omega, by omega, rfl, rfl⟩) (by rw [hu2]))) ?_
    refine jps_cons (jps_set 5 nd (jp_of (j_call L.counts (hr.mono (by decide)) (ja_cons (jv 7 rfl) (ja_cons (jv 9 rfl) (ja_cons (jv 3 rfl) (ja_cons (jv 4 rfl) ja_nil)))) ⟨n, u, _, _, rfl, by omega, by omega, dU.sm, dS.sm, rfl⟩))) ?_
    refine jps_cons (jps_skip (jpt_of (jt_as (jt_neS (j_repr hgd hun B.repr (j_callO L.bc (hr.mono (by decide)) (ja_cons (jv 7 rfl) (ja_cons (jv 9 rfl) (ja_cons (jv 3 rfl) (ja_cons (jv 4 rfl) ja_nil)))) ⟨n, u, _, _, rfl, .ii _ _, .ii _ _, (bc_ok1 n1 n5 un dU dS).symm⟩) (shw_counts n u _ _ n5)) (j_repr hgd hun B.repr (jv 5 rfl) (shw_counts n u _ _ n5))) (by simp)))) ?_
    refine jps_cons (jps_set 8 nd (jp_call L.one (hr.mono (by decide)) (jpa_cons (jp_of (jn (jn_lst (ja_cons j_non (ja_cons (j_tup (ja_cons j_int (ja_cons j_int ja_nil))) (ja_cons (j_tup (ja_cons j_int (ja_cons j_int ja_nil))) (ja_cons (j_tup (ja_cons j_int (ja_cons j_int ja_nil))) (ja_cons (jn (jn_lst (ja_cons j_int (ja_cons j_int ja_nil)))) (ja_cons (j_tup (ja_cons j_bool (ja_cons j_int ja_nil))) (ja_cons (j_tup (ja_cons (j_neg j_int) (ja_cons j_int ja_nil))) ja_nil)))))))))) jpa_nil) ⟨oddD, rfl, by decide, by decide, rfl, hat⟩)) ?_
    refine jps_cons (jps_skip (jpt_of (jt_as (jt_neD hu64 (j_caught (w := false) (tod := odd) (c := c) (Pt := Pt) hgd hr L.ck L.bc TB rfl hT hu (LamX.lamS_by (by kernel_rfl)) rfl (fun _ _ _ _ _ => rfl) (fun A outer s H E f c' hr2 => ja_cons (jv 7 rfl) (ja_cons (jv 9 rfl) (ja_cons (jv 8 rfl) (ja_cons (jv 8 rfl) ja_nil)))) ⟨n, u, odd, odd, rfl, hfr, hfr, (bc_odd n1 n5 un hbad).symm⟩ hshw rfl (fun _ _ _ _ _ _ _ => rfl) (fun _ _ _ _ _ _ _ => rfl))
      (jn (jn_lst (ja_cons j_str (ja_cons (j_repr hgd hun B.repr (jv 8 rfl) hshw) ja_nil)))) hshp hshp) (congrArg (!·) (eqv_told hshp))))) ?_
    refine jps_cons (jps_skip (jpt_of (jt_as (jt_neD hu64 (j_caught (w := true) (tod := .int 6) (c := c) (Pt := Pt) hgd hr L.ck L.bc TB rfl hT hu (LamX.lamS_by (by kernel_rfl)) rfl (fun _ _ _ _ _ => rfl) (fun A outer s H E f c' hr2 => ja_cons j_int (ja_cons j_int (ja_cons (jv 8 rfl) (ja_cons (jv 8 rfl) ja_nil)))) ⟨6, 9, odd, odd, rfl, hfr, hfr, bc_six.symm⟩ (count_in 6 (by decide)).1 rfl (fun _ _ _ _ _ _ _ => rfl) (fun _ _ _ _ _ _ _ => rfl))
      (jn (jn_lst (ja_cons j_str (ja_cons j_str ja_nil)))) (count_in 6 (by decide)).2 (by decide +kernel)) (by decide +kernel)))) ?_
    refine jps_cons (jps_skip (jpt_of (jt_as (jt_neD hu64 (j_caught (w := true) (tod := .int ((n : Int) + 1)) (c := c) (Pt := Pt) hgd hr L.ck L.bc TB rfl hT hu (LamX.lamS_by (by kernel_rfl)) rfl (fun _ _ _ _ _ => rfl) (fun A outer s H E f c' hr2 => ja_cons (jv 7 rfl) (ja_cons (j_add (jv 7 rfl) j_int) (ja_cons (jv 8 rfl) (ja_cons (jv 8 rfl) ja_nil)))) ⟨n, (n : Int) + 1, odd, odd, rfl, hfr, hfr, (bc_more n1 n5).symm⟩ cs rfl (fun _ _ _ _ _ _ _ => rfl) (fun _ _ _ _ _ _ _ => rfl))
      (jn (jn_lst (ja_cons j_str (ja_cons (j_repr hgd hun B.repr (j_add (jv 7 rfl) j_int) cs) ja_nil)))) cp cp) (congrArg (!·) (eqv_told cp))))) ?_
    exact jps_nil
  · exact .drop (.drop (.drop (.drop (.drop (.drop (.drop (.drop (.drop (.drop (.drop (.drop (.nil))))))))))))
end
end G
set_option Elab.async false
set_option linter.all false
set_option maxRecDepth 100000
set_option maxHeartbeats 4000000
namespace G
open PySem PySem.Spec PyProof.Rows L2
theorem under_zero : ∀ ups : List (Int × Int), underM 0 ups = 0
  | [] => rfl
  | q :: ups => by
    show underM (0 * q.2) ups = 0
    rw [Int.zero_mul]
    exact under_zero ups
theorem exS {X : Cx} {ι : Type} {P : ι → Prop} {st : Stmt} {t : ι → TS} (h : ∀ i, P i → PS X st (t i)) : PS X st (fun D σ H => ∃ i, P i ∧ t i D σ H) := ⟨fun pins s σ H D I ⟨i, p, q⟩ => (h i p).run pins s σ H D I q⟩
def lawSet : Stmt := (defBody (topS 60)).getD 0 (.Pass ⟨0, 0, 0, 0⟩)
def lawRest : List Stmt := (defBody (topS 60)).drop 2
theorem four_few {i : Int} (h0 : 0 ≤ i) (h1 : i < 4) : ∃ n : Nat, atI ([.int 0, .int 1, .int 1, .int 2] : List PyData) i = some (.int (n : Int)) ∧ n ≤ 2 := by
  obtain ⟨j, rfl⟩ : ∃ j : Nat, i = (j : Int) := ⟨i.toNat, by omega⟩
  match j, h1 with
  | 0, _ => exact ⟨0, rfl, by decide⟩
  | 1, _ => exact ⟨1, rfl, by decide⟩
  | 2, _ => exact ⟨1, rfl, by decide⟩
  | 3, _ => exact ⟨2, rfl, by decide⟩
  | j + 4, h => omega
section
variable {P : Program} {w : World} {K : PySem.W.Frag} {mg : Str → Option Value} {base : Heap} {T : Tl} {f c Pt : Addr} {CC CH : Addr} {A : Around} {outer : List Env} {s : Shared} {H : Hp} {E : XK} {l : Addr}
/-- _law_source = _law_pool(_law_script, 0) -/
theorem law_start (L : LawP P w K mg base T CC CH) (hr : Room 8 (A.deeper (envOfC "law" (defScope (topS 60)) s.heap.objs.size f (.ref c)))) :
    PS (cxOf CX0 P w K mg base nLaw "law" (defScope (topS 60)) f (.ref c) A outer s H E).nox lawSet (fun D σ Hh => (Hh = H ∧ LamX.Tabs T H ∧ ∃ (a : Addr) (ns : List Int), σ = L2.start nLaw [.ref a] ∧ SqL K H a (ns.map .int)) ∧ ∀ l sp σ' H', AtP T H 1 l esN sp σ' H' → D.nx σ' H') := by
  obtain ⟨fa, fd, ps, F0, hm, hk, hb⟩ := L.pool.ex
  refine weakS (ps_set (i := 1) scLaw.nd rfl (by first | exact Or.inl rfl | exact Or.inr rfl) (pe_call F0 (hr.mono (by decide)) rfl hm hk hb .nil pass0 (pa_cons (pv 0) (pa_cons pe_int pa_nil)))) fun D σ Hh ⟨⟨e1, t, a, ns, e2, sq⟩, q⟩ => ?_
  subst e1 e2
  refine ⟨.ref a, rfl, ?_⟩
  show spPool T K ([.ref a, .int 0] ++ []) Hh (fun x H1 => gName 1 x (L2.start nLaw [.ref a]) H1 D.nx) E0
  refine ⟨t, a, ns, rfl, sq, fun p H' hp u => q p (poolM ns) _ H' ⟨⟨u, u.tab t, ⟨rfl, fun i d e => ?_⟩, fun _ _ z => nomatch z⟩, rfl, hp⟩⟩
  have z := List.mem_of_getElem? e
  simp [esN] at z
theorem law_rest (L : LawP P w K mg base T CC CH) (TB : LamX.TabB base mg c Pt) (hT : (Pt, ("law" : Str) ++ ".<locals>." ++ "<lambda>") ∈ T) (hu : ∀ p ∈ T, p.1 = Pt → p.2 = ("law" : Str) ++ ".<locals>." ++ "<lambda>") (hgd : A.guards = some [])
    (hr : Room 8 (A.deeper (envOfC "law" (defScope (topS 60)) s.heap.objs.size f (.ref c)))) (sp : Pool) :
    JPr (cxOf CX0 P w K mg base nLaw "law" (defScope (topS 60)) f (.ref c) A outer s H E).nox T H 1 l lawRest esN sp (fun v _ => v = .bl true) := by
  have B := L.ck.bz
  have nd := scLaw.nd
  have hun : (A.deeper (envOfC "law" (defScope (topS 60)) s.heap.objs.size f (.ref c))).units + 16 < cLine := by have := hr.un; omega
  have hu64 : (A.deeper (envOfC "law" (defScope (topS 60)) s.heap.objs.size f (.ref c))).units + 64 < cLine := by have := hr.un; omega
  have h4 := takeM_in sp 4 (by decide)
  obtain ⟨i, hat, hi⟩ := four_few h4.1 h4.2
  obtain ⟨n, hn⟩ : ∃ n : Nat, (1 : Int) + (i : Int) = (n : Int) := ⟨1 + i, by omega⟩
  have n1 : 1 ≤ n := by omega
  have n3 : n ≤ 3 := by omega
  generalize hs1 : (takeM sp 4).2 = s1
  generalize hups : drawL chanceM s1 n = ups
  generalize hs2 : drawS chanceM s1 n = s2
  have hlen : ups.length = n := by rw [← hups]; exact draw_len _ _
  have hin : ∀ q ∈ ups, Drawn q := by rw [← hups]; exact draw_in _ _
  have dS := drawn s2
  generalize hs3 : (chanceM s2).2 = s3
  generalize hsh : (chanceM s2).1 = share at dS
  have h2 := takeM_in s3 2 (by decide)
  obtain ⟨u, hu2⟩ : ∃ u : Nat, (takeM s3 2).1 = (u : Int) := ⟨(takeM s3 2).1.toNat, by omega⟩
  have un : u ≤ ups.length := by omega
  have hus := under_small (sh := share) (by omega) hin dS
  have hsw := shw_due u ups share (fun q hq => (hin q hq).tw) (by omega) dS.tw hus.2
  obtain ⟨cs, cp⟩ := count_in (n + 1) (by omega)
  have en : (((n + 1 : Nat)) : Int) = (n : Int) + 1 := by omega
  rw [en] at cs cp
  have hmore : ∀ d : PyData, bvO CC CH (ups.map fr) (.int ((n : Int) + 1)) d = .err CC (.int ((n : Int) + 1)) := fun d => by
    have z := bv_more (CC := CC) (CH := CH) (ups := ups) (d := d) (by omega) (by omega) hin
    rw [hlen] at z
    exact z
  refine jpr_cons (jps_set 6 nd (jp_as (jp_add (jp_of j_int) (jp_call L.one (hr.mono (by decide)) (jpa_cons (jp_of (jn (jn_lst (ja_cons j_int (ja_cons j_int (ja_cons j_int (ja_cons j_int ja_nil))))))) jpa_nil) ⟨[.int 0, .int 1, .int 1, .int 2], rfl, by decide, by decide, hs1.symm, hat⟩)) (by rw [hn]))) ?_
  refine jpr_cons (jps_two (K := K) (s1 := s3) (d2 := fr share) (i := 10) (j := 4) (jp_tup (jpa_cons (jp_as (jp_lc (f := chanceM) (n := n) (k := 6) (j := 11) rfl nd (by omega) rfl (pi_rg B.range (by omega) rfl) (blkOk_by (by kernel_rfl)) (by decide) (fun s H C cl fp => pg_name (i := 11) nd rfl (Or.inl rfl))
      (fun sp s H C cl fp => jp_call L.chance (hr.mono (by decide)) jpa_nil ⟨rfl, rfl, rfl⟩)) (by rw [hups])) (jpa_cons (jp_call L.chance (hr.mono (by decide)) jpa_nil ⟨rfl, by rw [hs2]; exact hs3.symm, by rw [hs2, hsh]⟩) jpa_nil)))
    (pg_tup rfl (pgs_cons (pg_name (i := 10) nd rfl (Or.inr rfl)) (pgs_cons (pg_name (i := 4) nd rfl (Or.inl rfl)) pgs_nil)))) ?_
  refine jpr_cons (jps_set 9 nd (jp_as (jp_call L.take (hr.mono (by decide)) (jpa_cons (jp_of j_int) jpa_nil) ⟨2, rfl, by decide, by decide, rfl, rfl⟩) (by rw [hu2]))) ?_
  refine jpr_cons (jps_set 5 nd (jp_of (j_call L.due (hr.mono (by decide)) (ja_cons (jv 10 rfl) (ja_cons (jv 9 rfl) (ja_cons (jv 4 rfl) ja_nil))) ⟨ups, u, share, rfl, by omega, fun q hq => (hin q hq).sm, dS.sm, hus.1, hus.2, rfl⟩))) ?_
  refine jpr_cons (jps_skip (jpt_of (jt_as (jt_neS (j_repr hgd hun B.repr (j_callO (d := bestD (votesDueM ups u share)) L.bv (hr.mono (by decide)) (ja_cons (jv 10 rfl) (ja_cons (jv 9 rfl) (ja_cons (jv 4 rfl) ja_nil)))
      ⟨ups.map fr, .int (u : Int), fr share, rfl, ups_fr, by rw [List.length_map]; omega, (fun _ z => nomatch z), .ii _ _, by rw [frs_of]; exact hus.2, (bv_ok1 (by omega) (by omega) un hin dS).symm⟩) hsw) (j_repr hgd hun B.repr (jv 5 rfl) hsw)) (by simp)))) ?_
  generalize hs4 : (takeM s3 2).2 = s4
  refine jpr_cons (s1 := if ((takeM s4 8).1 == 0) = true then (takeM (takeM s4 8).2 4).2 else (takeM s4 8).2) (jps_skip (jpt_and (k := (takeM s4 8).1 == 0) (jpt_eq (jp_call L.take (hr.mono (by decide)) (jpa_cons (jp_of j_int) jpa_nil) ⟨8, rfl, by decide, by decide, rfl, rfl⟩) (jp_of j_int))
      (fun hk => by rw [if_pos hk]; exact jpt_not (x := true) (jpt_val (jp_callG L.four hgd (hr.mono (by decide)) jpa_nil ⟨rfl, rfl, rfl⟩))) (fun hk => by rw [if_neg (by rw [hk]; decide)]))) ?_
  generalize (if ((takeM s4 8).1 == 0) = true then (takeM (takeM s4 8).2 4).2 else (takeM s4 8).2) = s5
  refine jpr_cons (jps_skip (jpt_of (jt_as (jt_neD hu64 (j_caught (w := false) (tod := .list fiveD) (c := c) (Pt := Pt) hgd hr L.ck L.bv TB rfl hT hu (LamX.lamS_by (by kernel_rfl)) rfl (fun _ _ _ _ _ => rfl) (fun A outer s H E f c' hr2 => ja_cons (jn (jn_rep (n := 5) (jn_lst (ja_cons (j_tup (ja_cons j_int (ja_cons j_int ja_nil))) ja_nil)) j_int (by decide) (by decide))) (ja_cons j_non (ja_cons j_non ja_nil)))
      ⟨fiveD, .none, .none, rfl, (fun v hv => by
        simp only [fiveD, List.mem_cons, List.not_mem_nil, or_false, or_self] at hv
        subst hv
        exact .ii 1 2), by decide, (fun _ z => nomatch z), .non, by decide, bv_five.symm⟩ (shw_by five_told.1) rfl (fun _ _ _ _ _ _ _ => rfl) (fun _ _ _ _ _ _ _ => rfl))
    (jn (jn_lst (ja_cons j_str (ja_cons (j_repr hgd hun B.repr (j_as (d' := .list fiveD) (jn (jn_rep (n := 5) (jn_lst (ja_cons (j_tup (ja_cons j_int (ja_cons j_int ja_nil))) ja_nil)) j_int (by decide) (by decide))) rfl) (shw_by five_told.1)) ja_nil)))) five_told.2 five_told.2) (congrArg (!·) (eqv_told five_told.2))))) ?_
  exact jpr_ret (d := .bool true) (jp_of (j_as (j_eqD hu64 (j_caught (w := true) (tod := .int ((n : Int) + 1)) (c := c) (Pt := Pt) hgd hr L.ck L.bv TB rfl hT hu (LamX.lamS_by (by kernel_rfl)) rfl (fun _ _ _ _ _ => rfl) (fun A outer s H E f c' hr2 => ja_cons (jv 10 rfl) (ja_cons (j_add (jv 6 rfl) j_int) (ja_cons j_non ja_nil)))
      ⟨ups.map fr, .int ((n : Int) + 1), .none, rfl, ups_fr, by rw [List.length_map]; omega, (fun _ z => nomatch z), .non, (by
        show underM 0 _ < 1000000
        rw [under_zero]
        decide), (hmore .none).symm⟩ cs rfl (fun _ _ _ _ _ _ _ => rfl) (fun _ _ _ _ _ _ _ => rfl))
    (jn (jn_lst (ja_cons j_str (ja_cons (j_repr hgd hun B.repr (j_add (jv 6 rfl) j_int) cs) ja_nil)))) cp cp) (congrArg PyData.bool (eqv_told cp)))) fun v σ H' _ hd => dx_bl hd
/-! ### the law -/
def spLaw (T : Tl) (K : PySem.W.Frag) : Sp := fun vs H Q _ => LamX.Tabs T H ∧ ∃ (a : Addr) (ns : List Int), vs = [.ref a] ∧ SqL K H a (ns.map .int) ∧ ∀ v H', v = .bl true → Q v H'
theorem ok_law {fd : FuncData} (F : FunC K "law" (topS 60) f fd c) (L : LawP P w K mg base T CC CH) (TB : LamX.TabB base mg c Pt) (hT : (Pt, ("law" : Str) ++ ".<locals>." ++ "<lambda>") ∈ T) (hu : ∀ p ∈ T, p.1 = Pt → p.2 = ("law" : Str) ++ ".<locals>." ++ "<lambda>") :
    FnG P w K mg base CX0 9 f ["_law_script"] (spLaw T K) := by
  refine fnG_of F scLaw (F.fn.binds fun _ _ _ _ _ _ us hl => match us, hl with | [_], _ => rfl) (fun vs H Q E h => by
    obtain ⟨_, a, ns, e, _⟩ := h
    rw [e]
    rfl) fun A outer s H vs Q E hgd hr h => ?_
  obtain ⟨t, a, ns, e, sq, q⟩ := h
  subst e
  refine ⟨_, PSs.nox (pss_cons (law_start L hr) (pss_cons (exS (P := fun _ : Addr => True) fun l _ => jps_for (T := T) (Hb := H) (m := 1) (l := l) (es := esN) (n := 4) (j := 2) PassesOwn.never rfl L.ck.bz.range (by decide) (by decide) (pg_name (i := 2) scLaw.nd rfl (Or.inl rfl)) (fun sp => law_turn L TB hT hu hgd hr sp) rfl)
    (exSs (P := fun _ : Addr × Pool => True) fun i _ => law_rest (l := i.1) L TB hT hu hgd hr i.2))), ?_⟩
  exact ⟨⟨rfl, t, a, ns, rfl, sq⟩, fun l sp σ' H' A' => ⟨l, True.intro, ⟨sp, A'⟩, fun s2 σ2 H2 A2 => ⟨(l, s2), True.intro, A2, fun v H3 e => q v H3 e⟩⟩⟩
end
end G
set_option Elab.async false
set_option linter.all false
set_option maxRecDepth 100000
set_option maxHeartbeats 4000000
namespace G
open PySem PySem.Spec PyProof.Rows L2
/-! ### the end: the law's def called at the head's heap -/
abbrev noTab : Obj := { cls := .none, data := .fields #[] }
abbrev lstO (vs : List Value) : Obj := { cls := .type "list", data := .seq vs.toArray }
/-- what is tracked ahead of the law: the tables ts, still empty; the script at a, where the text does not hold it -/
structure Ahead (K : PySem.W.Frag) (ts : List Addr) (a : Addr) (sc : Obj) (xs : List V) (H : Hp) : Prop where
  has : ∀ b u, H b = some u → (b ∈ ts ∧ u = .tbl #[]) ∨ (b = a ∧ K.lookup a = none ∧ u = .frz sc (.lst xs))
  tabs : ∀ b ∈ ts, H b = some (.tbl #[])
  seq : SqL K H a xs
section
variable {P : Program} {w : World} {K : PySem.W.Frag} {mg mb : Str → Option Value} {h : Heap} {s : Shared} {ts : List Addr} {a fa : Addr} {vs : List Value} {xs : List V} {k : Nat} {x : Str} {sp : Sp}
theorem ahead (KX : K.In h) (ha : h.get? a = some (lstO vs)) (ht : ∀ b ∈ ts, h.get? b = some noTab) (rv : Vals xs vs) (hl : xs.length ≤ sizeLine) : ∃ H, Ahead K ts a (lstO vs) xs H := by
  have na : a ∉ ts := fun z => by
    have q := ht a z
    rw [ha] at q
    have q2 : Data.seq vs.toArray _ = Data.fields #[] := congrArg Obj.data (Option.some.inj q)
    cases q2
  cases e : K.lookup a with
  | some o =>
    have eo : o = lstO vs := Option.some.inj ((KX a o e).symm.trans ha)
    refine ⟨fun b => if b ∈ ts then some (.tbl #[]) else none, fun b u q => ?_, fun b hb => if_pos hb, .inr ⟨o, vs.toArray, _, e, by rw [eo], by rw [eo], by rw [eo], ?_, by simpa using rv⟩⟩
    · by_cases hb : b ∈ ts
      · exact .inl ⟨hb, (Option.some.inj ((if_pos hb).symm.trans q)).symm⟩
      · cases (if_neg hb).symm.trans q
    · rw [List.size_toArray, ← rv.length]
      exact hl
  | none =>
    refine ⟨fun b => if b = a then some (.frz (lstO vs) (.lst xs)) else if b ∈ ts then some (.tbl #[]) else none, fun b u q => ?_, fun b hb => ?_, .inl (.inr ⟨lstO vs, if_pos rfl⟩)⟩
    · by_cases h1 : b = a
      · exact .inr ⟨h1, e, (Option.some.inj ((if_pos h1).symm.trans q)).symm⟩
      · have q2 := (if_neg h1).symm.trans q
        by_cases hb : b ∈ ts
        · exact .inl ⟨hb, (Option.some.inj ((if_pos hb).symm.trans q2)).symm⟩
        · cases (if_neg hb).symm.trans q2
    · have nb : b ≠ a := fun z => na (by rw [← z]; exact hb)
      exact (if_neg nb).trans (if_pos hb)
theorem law_end {cs : List (Addr × Addr)} {ns : List Int} (KX : K.In s.heap) (hns : s.heap.Ns mainGlobals mg) (hb : s.heap.Ns builtinsNs mb) (hbb : ∀ x : Str, x ≠ "__name__" → mb x = bootBuiltins x) (hlim : s.heap.NoLimit) (hg : s.gens = #[])
    (hT : ∀ p ∈ cs, s.heap.get? p.2 = some noTab) (nT : ∀ p ∈ cs, K.lookup p.2 = none) (hc : ∀ p ∈ cs, PySem.W.codeHdIn K p.1 p.2 = true)
    (hbm : ∃ (bm : Addr) (ob : Obj), mg "__builtins__" = some (.ref bm) ∧ bm ≠ builtinsNs ∧ s.heap.get? bm = some ob ∧ ob.cls = .type "module" ∧ ob.dict = some builtinsNs ∧ ob.data = .plain)
    (ha : s.heap.get? a = some (lstO vs)) (hi : IntsAre vs ns) (hl : ns.length ≤ sizeLine) (hr : Room k callerA)
    (F : ∀ base : Heap, K.In base → base.Ns mainGlobals mg → (∀ p ∈ cs, LamX.TabB base mg p.1 p.2) → FnG P w K mg base CX0 k fa [x] sp)
    (hsp : ∀ H : Hp, (∀ p ∈ cs, H p.2 = some (.tbl #[])) → SqL K H a (ns.map V.int) → sp [.ref a] H (fun v _ => v = .bl true) E0) :
    codeAny (model P w) callerA (.call (.ref fa) ⟨[.ref a], []⟩) (fun r s' => r = .ok (.ret (.bool true)) ∧ OldK s.heap s'.heap ∧ s'.os = s.os ∧ AllBare s'.gens) s := by
  have mem : ∀ p ∈ cs, p.2 ∈ cs.map (·.2) := fun p hp => List.mem_map.mpr ⟨p, hp, rfl⟩
  have of : ∀ b ∈ cs.map (·.2), ∃ p ∈ cs, p.2 = b := fun b hb => List.mem_map.mp hb
  have tb : ∀ b ∈ cs.map (·.2), s.heap.get? b = some noTab := fun b hb => by
    obtain ⟨p, hp, e⟩ := of b hb
    rw [← e]
    exact hT p hp
  have hl2 : (ns.map V.int).length ≤ sizeLine := by
    rw [List.length_map]
    exact hl
  have rv := vals_ints hi
  obtain ⟨H, Y⟩ := ahead KX ha tb rv hl2
  have hok : HOk P w H s.heap := fun b u e => by
    rcases Y.has b u e with ⟨h1, h2⟩ | ⟨h1, _, h2⟩
    · rw [h2]
      exact tb b h1
    · rw [h1, h2]
      exact ⟨ha, hl2, vs, _, rv, ha⟩
  -- nothing else is tracked
  have clear : ∀ {b : Addr} {o : Obj}, s.heap.get? b = some o → (∀ l n, o.data ≠ .seq l n) → o.data ≠ .fields #[] → H b = none := fun {b o} e n1 n2 => by
    cases q : H b with
    | none => rfl
    | some u =>
      rcases Y.has b u q with ⟨h1, _⟩ | ⟨h1, _, _⟩
      · cases e.symm.trans (tb b h1)
        exact absurd rfl n2
      · rw [h1] at e
        cases e.symm.trans ha
        exact absurd rfl (n1 _ _)
  have left : ∀ {b : Addr} {m : Str → Option Value}, s.heap.Ns b m → (hidT s.heap H).Ns b m := fun {b m} ⟨o, es, ep, e, d, r⟩ =>
    ⟨o, es, ep, hidT_get e (clear e (fun l n z => by rw [d] at z; cases z) fun z => by rw [d] at z; cases z), d, r⟩
  have kin : K.In (hidT s.heap H) := fun b o e => hidT_get (KX b o e) (by
    cases q : H b with
    | none => rfl
    | some u =>
      rcases Y.has b u q with ⟨h1, _⟩ | ⟨h1, h2, _⟩
      · obtain ⟨p, hp, ep⟩ := of b h1
        rw [← ep, nT p hp] at e
        cases e
      · rw [h1, h2] at e
        cases e)
  have glob := left hns
  have e0 : Env0 P w K mg (hidT s.heap H) callerA [] s H :=
    ⟨rfl, ⟨kin, glob, ⟨mb, left hb, hbb⟩, hlim.elim fun mc q => ⟨mc, left q.1, q.2⟩⟩, fun b o e => of_hidT e, Nat.le_of_eq (hidT_size _ _), trivial, fun b z => (List.not_mem_nil z).elim, hok, .of_eq hg⟩
  have tB : ∀ p ∈ cs, LamX.TabB (hidT s.heap H) mg p.1 p.2 := fun p hp => by
    refine ⟨PySem.W.codeHd_of_K kin (hc p hp), ?_, fun z => ?_⟩
    · obtain ⟨bm, ob, b1, b2, b3, b4, b5, b6⟩ := hbm
      refine ⟨bm, ob, b1, b2, fun z => ?_, fun z => ?_, hidT_get b3 (clear b3 (fun l n z => by rw [b6] at z; cases z) fun z => by rw [b6] at z; cases z), b4, b5, b6⟩
      · obtain ⟨o, es, ep, e, d, _⟩ := hns
        rw [z] at b3
        cases b3.symm.trans e
        rw [b6] at d
        cases d
      · rw [z] at b3
        cases b3.symm.trans (hT p hp)
        cases b6
    · obtain ⟨o, es, ep, e, d, _⟩ := hns
      rw [z] at e
      cases e.symm.trans (hT p hp)
      cases d
  refine codeAny_mono ((F _ kin glob tB).go callerA [] s H [.ref a] [.ref a] _ E0 rfl hr e0 (.cons rfl .nil) (hsp H (fun p hp => Y.tabs _ (mem p hp)) Y.seq)) fun r s' q => ?_
  match r, q with
  | .ok (.ret u), ⟨v, H', os, bare, un, hok', r', ev⟩ =>
    obtain rfl : v = .bl true := ev
    obtain rfl : u = Value.bool true := r'
    have grown : ∀ b ∈ cs.map (·.2), ∃ more : Array Value, s'.heap.get? b = some { cls := .none, data := .fields more } := fun b hb => by
      obtain ⟨more, z⟩ := un.tbls b #[] (Y.tabs b hb)
      exact ⟨_, hok' b _ z⟩
    have kept : ∀ b o, b ∉ cs.map (·.2) → s.heap.get? b = some o → s'.heap.get? b = some o := fun b o nb e => by
      cases q : H b with
      | none => exact un.keep b o e q (fun z => (List.not_mem_nil z).elim) fun z => (List.not_mem_nil z).elim
      | some u =>
        rcases Y.has b u q with ⟨h1, _⟩ | ⟨_, _, h2⟩
        · exact absurd h1 nb
        · rw [h2] at q
          have e1 := (hok b _ q).1
          have e2 := (hok' b _ (un.frzs b _ _ q)).1
          rw [e.symm.trans e1]
          exact e2
    refine ⟨rfl, ⟨fun b o e => ?_, fun b o e => ?_⟩, os, bare⟩
    · by_cases hb : b ∈ cs.map (·.2)
      · obtain ⟨p, hp, ep⟩ := of b hb
        obtain ⟨more, hm⟩ := grown b hb
        cases e.symm.trans (tb b hb)
        refine .inr (.inl ⟨?_, rfl, #[], more, rfl, by rw [Array.empty_append]; exact hm⟩)
        rw [← ep]
        exact ((PySem.W.codeHd_of_K KX (hc p hp)).tab (hT p hp)).isCodeTable
      · exact .inl (kept b o hb e)
    · by_cases hb : b ∈ cs.map (·.2)
      · obtain ⟨more, hm⟩ := grown b hb
        exact ⟨_, hm⟩
      · exact ⟨o, kept b o hb e⟩
  | .ok .next, q => exact q.elim
  | .ok .brk, q => exact q.elim
  | .ok .cont, q => exact q.elim
  | .error e, q => exact q.elim
end
end G
set_option Elab.async false
set_option linter.all false
set_option maxRecDepth 100000
set_option maxHeartbeats 4000000
namespace G
open PySem PySem.Spec PyProof.Rows L2
/-! ### all promises, from what the head has left -/
def tblT (K : PySem.W.Frag) : Tl := [(tbA K "by_votes", ("by_votes" : Str) ++ ".<locals>." ++ "<lambda>"), (tbA K "all_lots", ("all_lots" : Str) ++ ".<locals>." ++ "<lambda>"), (tbA K "law", ("law" : Str) ++ ".<locals>." ++ "<lambda>")]
section
variable {w : World} {K : PySem.W.Frag} {h : Heap} {mg : Str → Option Value}
theorem def_of (c : SaysG faL fnL tfL exL erD w h K) (j : Nat) {x : Str} {i : Nat} (e : fnL[j]? = some (dD x i)) : ∃ fd, Fun K x x (topS i) (He.ga K x) fd :=
  (c.x.t.d.def_ j e).elim fun fd F => ⟨fd, fun_d F⟩
theorem bz_of (X : K.In h) (G : h.Ns mainGlobals mg) (c : SaysG faL fnL tfL exL erD w h K) : Bz mg :=
  { isinstance := He.free_ok X G (c.x.t.d.fact 51 (f := .free "isinstance") rfl), int := He.free_ok X G (c.x.t.d.fact 52 (f := .free "int") rfl), bool := He.free_ok X G (c.x.t.d.fact 53 (f := .free "bool") rfl), list := He.free_ok X G (c.x.t.d.fact 54 (f := .free "list") rfl), tuple := He.free_ok X G (c.x.t.d.fact 55 (f := .free "tuple") rfl), all := He.free_ok X G (c.x.t.d.fact 56 (f := .free "all") rfl), abs := He.free_ok X G (c.x.t.d.fact 57 (f := .free "abs") rfl), len := He.free_ok X G (c.x.t.d.fact 58 (f := .free "len") rfl), sum := He.free_ok X G (c.x.t.d.fact 59 (f := .free "sum") rfl), sorted := He.free_ok X G (c.x.t.d.fact 60 (f := .free "sorted") rfl), range := He.free_ok X G (c.x.t.d.fact 61 (f := .free "range") rfl), enumerate := He.free_ok X G (c.x.t.d.fact 62 (f := .free "enumerate") rfl), max := He.free_ok X G (c.x.t.d.fact 63 (f := .free "max") rfl), min := He.free_ok X G (c.x.t.d.fact 64 (f := .free "min") rfl), repr := He.free_ok X G (c.x.t.d.fact 65 (f := .free "repr") rfl) }
theorem cz_of (X : K.In h) (G : h.Ns mainGlobals mg) (c : SaysG faL fnL tfL exL erD w h K) : Cz mg :=
  { part := (He.int_ok X G (c.x.t.d.fact 67 (f := .int "MOST_PART" 20) rfl)).elim fun t e => ⟨_, e, t, rfl⟩, copies := (He.int_ok X G (c.x.t.d.fact 68 (f := .int "MOST_COPIES" 5) rfl)).elim fun t e => ⟨_, e, t, rfl⟩, voters := (He.int_ok X G (c.x.t.d.fact 69 (f := .int "MOST_VOTERS" 4) rfl)).elim fun t e => ⟨_, e, t, rfl⟩, tried := (He.int_ok X G (c.x.t.d.fact 70 (f := .int "MOST_TRIED" 3) rfl)).elim fun t e => ⟨_, e, t, rfl⟩ }
theorem cau_of (X : K.In h) (G : h.Ns mainGlobals mg) (c : SaysG faL fnL tfL exL erD w h K) : Cau K mg (He.ga K "NoCount") (He.ga K "NoChances") :=
  { notCount := He.exm_ok (c.x.t.d.fact 71 (f := .exm "NoChances" "NoCount" false) rfl), past := ⟨_, He.glo_ok X G (c.x.t.d.fact 39 (f := .glo "NoPast") rfl), He.exm_ok (c.x.t.d.fact 72 (f := .exm "NoChances" "NoPast" false) rfl)⟩, lot := ⟨_, He.glo_ok X G (c.x.t.d.fact 40 (f := .glo "NoLot") rfl), He.exm_ok (c.x.t.d.fact 73 (f := .exm "NoChances" "NoLot" false) rfl)⟩, change := ⟨_, He.glo_ok X G (c.x.t.d.fact 41 (f := .glo "NoChange") rfl), He.exm_ok (c.x.t.d.fact 74 (f := .exm "NoChances" "NoChange" false) rfl)⟩, back := ⟨_, He.glo_ok X G (c.x.t.d.fact 42 (f := .glo "NothingBack") rfl), He.exm_ok (c.x.t.d.fact 75 (f := .exm "NoChances" "NothingBack" false) rfl)⟩, copies := ⟨_, He.glo_ok X G (c.x.t.d.fact 43 (f := .glo "NoCopies") rfl), He.exm_ok (c.x.t.d.fact 76 (f := .exm "NoChances" "NoCopies" false) rfl)⟩, votes := ⟨_, He.glo_ok X G (c.x.t.d.fact 44 (f := .glo "NoVotes") rfl), He.exm_ok (c.x.t.d.fact 77 (f := .exm "NoChances" "NoVotes" false) rfl)⟩, need := ⟨_, He.glo_ok X G (c.x.t.d.fact 45 (f := .glo "NoNeed") rfl), He.exm_ok (c.x.t.d.fact 78 (f := .exm "NoChances" "NoNeed" false) rfl)⟩, edit := ⟨_, He.glo_ok X G (c.x.t.d.fact 46 (f := .glo "NoEdit") rfl)⟩, key := ⟨_, He.glo_ok X G (c.x.t.d.fact 47 (f := .glo "NoKey") rfl)⟩, name := ⟨_, He.glo_ok X G (c.x.t.d.fact 48 (f := .glo "NoName") rfl)⟩, moment := ⟨_, He.glo_ok X G (c.x.t.d.fact 49 (f := .glo "NoMoment") rfl)⟩, many := ⟨_, He.glo_ok X G (c.x.t.d.fact 50 (f := .glo "TooMany") rfl)⟩ }
theorem ers_of (c : SaysG faL fnL tfL exL erD w h K) : (erB K Pw "NoCount" "NoCount.__init__" = true ∧ erB K Pw "NoChances" "NoChances.__init__" = true) ∧ tbA K "by_votes" ≠ tbA K "all_lots" ∧ tbA K "by_votes" ≠ tbA K "law" ∧ tbA K "all_lots" ≠ tbA K "law" := by
  obtain ⟨h1, h2⟩ := He.ba (show ((erB K Pw "NoCount" "NoCount.__init__" && erB K Pw "NoChances" "NoChances.__init__") && (!decide (tbA K "by_votes" = tbA K "all_lots") && (!decide (tbA K "by_votes" = tbA K "law") && !decide (tbA K "all_lots" = tbA K "law")))) = true from c.x.more)
  obtain ⟨h3, h4⟩ := He.ba h2
  obtain ⟨h5, h6⟩ := He.ba h4
  simp only [Bool.not_eq_true', decide_eq_false_iff_not] at h3 h5 h6
  exact ⟨He.ba h1, h3, h5, h6⟩
theorem ec_of (X : K.In h) (G : h.Ns mainGlobals mg) (c : SaysG faL fnL tfL exL erD w h K) : ErT K mg Pw "NoCount" (He.ga K "NoCount") (He.ma K (He.ga K "NoCount") "__init__") :=
  er_ok (q := "NoCount.__init__") X G (c.x.t.d.fact 37 (f := .glo "NoCount") rfl) (c.x.t.d.fact 66 (f := .free "super") rfl) (ers_of c).1.1 (c.err 0 (d := eD "NoCount" "NoCount.__init__" 7) rfl) rfl (by decide +kernel)
theorem eh_of (X : K.In h) (G : h.Ns mainGlobals mg) (c : SaysG faL fnL tfL exL erD w h K) : ErT K mg Pw "NoChances" (He.ga K "NoChances") (He.ma K (He.ga K "NoChances") "__init__") :=
  er_ok (q := "NoChances.__init__") X G (c.x.t.d.fact 38 (f := .glo "NoChances") rfl) (c.x.t.d.fact 66 (f := .free "super") rfl) (ers_of c).1.2 (c.err 1 (d := eD "NoChances" "NoChances.__init__" 13) rfl) rfl (by decide +kernel)
theorem tbl_hu (c : SaysG faL fnL tfL exL erD w h K) :
    (∀ p ∈ tblT K, p.1 = tbA K "by_votes" → p.2 = ("by_votes" : Str) ++ ".<locals>." ++ "<lambda>") ∧ (∀ p ∈ tblT K, p.1 = tbA K "all_lots" → p.2 = ("all_lots" : Str) ++ ".<locals>." ++ "<lambda>") ∧ ∀ p ∈ tblT K, p.1 = tbA K "law" → p.2 = ("law" : Str) ++ ".<locals>." ++ "<lambda>" := by
  obtain ⟨_, n1, n2, n3⟩ := ers_of c
  have all : ∀ p ∈ tblT K, p = (tbA K "by_votes", ("by_votes" : Str) ++ ".<locals>." ++ "<lambda>") ∨ p = (tbA K "all_lots", ("all_lots" : Str) ++ ".<locals>." ++ "<lambda>") ∨ p = (tbA K "law", ("law" : Str) ++ ".<locals>." ++ "<lambda>") := fun p hp => by
    rcases List.mem_cons.mp hp with e | hp
    · exact .inl e
    · rcases List.mem_cons.mp hp with e | hp
      · exact .inr (.inl e)
      · rcases List.mem_cons.mp hp with e | hp
        · exact .inr (.inr e)
        · cases hp
  refine ⟨fun p hp e => ?_, fun p hp e => ?_, fun p hp e => ?_⟩
  · rcases all p hp with z | z | z <;> subst z
    · rfl
    · exact absurd e.symm n1
    · exact absurd e.symm n2
  · rcases all p hp with z | z | z <;> subst z
    · exact absurd e n1
    · rfl
    · exact absurd e.symm n3
  · rcases all p hp with z | z | z <;> subst z
    · exact absurd e n2
    · exact absurd e n3
    · rfl
theorem all_fn (X : K.In h) (G : h.Ns mainGlobals mg) (c : SaysG faL fnL tfL exL erD w h K) (base : Heap) (TB : ∀ p ∈ tfL.map (He.cT K), LamX.TabB base mg p.1 p.2) : FnG Pw w K mg base CX0 9 (He.ga K "law") ["_law_script"] (spLaw (tblT K) K) := by
  have B := bz_of X G c
  have C := cz_of X G c
  have EC := ec_of X G c
  have EH := eh_of X G c
  obtain ⟨u1, u2, u3⟩ := tbl_hu c
  have t1 := TB (He.cT K ("by_votes", none)) (List.mem_map.mpr ⟨("by_votes", none), List.mem_cons_self, rfl⟩)
  have t2 := TB (He.cT K ("all_lots", none)) (List.mem_map.mpr ⟨("all_lots", none), List.mem_cons_of_mem _ List.mem_cons_self, rfl⟩)
  have t3 := TB (He.cT K ("law", none)) (List.mem_map.mpr ⟨("law", none), List.mem_cons_of_mem _ (List.mem_cons_of_mem _ List.mem_cons_self), rfl⟩)
  have m1 : (tbA K "by_votes", ("by_votes" : Str) ++ ".<locals>." ++ "<lambda>") ∈ tblT K := List.mem_cons_self
  have m2 : (tbA K "all_lots", ("all_lots" : Str) ++ ".<locals>." ++ "<lambda>") ∈ tblT K := List.mem_cons_of_mem _ List.mem_cons_self
  have m3 : (tbA K "law", ("law" : Str) ++ ".<locals>." ++ "<lambda>") ∈ tblT K := List.mem_cons_of_mem _ (List.mem_cons_of_mem _ List.mem_cons_self)
  obtain ⟨_, F0⟩ := def_of c 0 (x := "is_whole") (i := 18) rfl
  have g0 : mg "is_whole" = some (.ref (He.ga K "is_whole")) := He.glo_ok X G (c.x.t.d.fact 0 (f := .glo "is_whole") rfl)
  obtain ⟨_, F1⟩ := def_of c 1 (x := "is_number") (i := 19) rfl
  have g1 : mg "is_number" = some (.ref (He.ga K "is_number")) := He.glo_ok X G (c.x.t.d.fact 1 (f := .glo "is_number") rfl)
  obtain ⟨_, F2⟩ := def_of c 2 (x := "is_line") (i := 20) rfl
  have g2 : mg "is_line" = some (.ref (He.ga K "is_line")) := He.glo_ok X G (c.x.t.d.fact 2 (f := .glo "is_line") rfl)
  obtain ⟨_, F3⟩ := def_of c 3 (x := "greatest_divisor") (i := 23) rfl
  have g3 : mg "greatest_divisor" = some (.ref (He.ga K "greatest_divisor")) := He.glo_ok X G (c.x.t.d.fact 3 (f := .glo "greatest_divisor") rfl)
  obtain ⟨_, F4⟩ := def_of c 4 (x := "in_lowest_terms") (i := 24) rfl
  have g4 : mg "in_lowest_terms" = some (.ref (He.ga K "in_lowest_terms")) := He.glo_ok X G (c.x.t.d.fact 4 (f := .glo "in_lowest_terms") rfl)
  obtain ⟨_, F5⟩ := def_of c 5 (x := "is_any_fraction") (i := 25) rfl
  have g5 : mg "is_any_fraction" = some (.ref (He.ga K "is_any_fraction")) := He.glo_ok X G (c.x.t.d.fact 5 (f := .glo "is_any_fraction") rfl)
  obtain ⟨_, F6⟩ := def_of c 6 (x := "is_fraction") (i := 26) rfl
  have g6 : mg "is_fraction" = some (.ref (He.ga K "is_fraction")) := He.glo_ok X G (c.x.t.d.fact 6 (f := .glo "is_fraction") rfl)
  obtain ⟨_, F7⟩ := def_of c 7 (x := "is_chance") (i := 27) rfl
  have g7 : mg "is_chance" = some (.ref (He.ga K "is_chance")) := He.glo_ok X G (c.x.t.d.fact 7 (f := .glo "is_chance") rfl)
  obtain ⟨_, F8⟩ := def_of c 8 (x := "votes_in") (i := 31) rfl
  have g8 : mg "votes_in" = some (.ref (He.ga K "votes_in")) := He.glo_ok X G (c.x.t.d.fact 8 (f := .glo "votes_in") rfl)
  obtain ⟨_, F9⟩ := def_of c 9 (x := "by_votes") (i := 32) rfl
  have g9 : mg "by_votes" = some (.ref (He.ga K "by_votes")) := He.glo_ok X G (c.x.t.d.fact 9 (f := .glo "by_votes") rfl)
  obtain ⟨_, F10⟩ := def_of c 10 (x := "all_lots") (i := 33) rfl
  have g10 : mg "all_lots" = some (.ref (He.ga K "all_lots")) := He.glo_ok X G (c.x.t.d.fact 10 (f := .glo "all_lots") rfl)
  obtain ⟨_, F11⟩ := def_of c 11 (x := "are_chances") (i := 34) rfl
  have g11 : mg "are_chances" = some (.ref (He.ga K "are_chances")) := He.glo_ok X G (c.x.t.d.fact 11 (f := .glo "are_chances") rfl)
  obtain ⟨_, F12⟩ := def_of c 12 (x := "weights_of") (i := 35) rfl
  have g12 : mg "weights_of" = some (.ref (He.ga K "weights_of")) := He.glo_ok X G (c.x.t.d.fact 12 (f := .glo "weights_of") rfl)
  obtain ⟨_, F13⟩ := def_of c 13 (x := "look_at_share") (i := 36) rfl
  have g13 : mg "look_at_share" = some (.ref (He.ga K "look_at_share")) := He.glo_ok X G (c.x.t.d.fact 13 (f := .glo "look_at_share") rfl)
  obtain ⟨_, F14⟩ := def_of c 14 (x := "best_counts") (i := 37) rfl
  have g14 : mg "best_counts" = some (.ref (He.ga K "best_counts")) := He.glo_ok X G (c.x.t.d.fact 14 (f := .glo "best_counts") rfl)
  obtain ⟨_, F15⟩ := def_of c 15 (x := "tried_votes") (i := 38) rfl
  have g15 : mg "tried_votes" = some (.ref (He.ga K "tried_votes")) := He.glo_ok X G (c.x.t.d.fact 15 (f := .glo "tried_votes") rfl)
  obtain ⟨_, F16⟩ := def_of c 16 (x := "best_need") (i := 39) rfl
  have g16 : mg "best_need" = some (.ref (He.ga K "best_need")) := He.glo_ok X G (c.x.t.d.fact 16 (f := .glo "best_need") rfl)
  obtain ⟨_, F17⟩ := def_of c 17 (x := "best_votes") (i := 40) rfl
  have g17 : mg "best_votes" = some (.ref (He.ga K "best_votes")) := He.glo_ok X G (c.x.t.d.fact 17 (f := .glo "best_votes") rfl)
  obtain ⟨_, F18⟩ := def_of c 18 (x := "_law_pool") (i := 42) rfl
  have g18 : mg "_law_pool" = some (.ref (He.ga K "_law_pool")) := He.glo_ok X G (c.x.t.d.fact 18 (f := .glo "_law_pool") rfl)
  obtain ⟨_, F19⟩ := def_of c 19 (x := "_law_take") (i := 43) rfl
  have g19 : mg "_law_take" = some (.ref (He.ga K "_law_take")) := He.glo_ok X G (c.x.t.d.fact 19 (f := .glo "_law_take") rfl)
  obtain ⟨_, F20⟩ := def_of c 20 (x := "_law_one") (i := 44) rfl
  have g20 : mg "_law_one" = some (.ref (He.ga K "_law_one")) := He.glo_ok X G (c.x.t.d.fact 20 (f := .glo "_law_one") rfl)
  obtain ⟨_, F21⟩ := def_of c 21 (x := "_law_all_lots") (i := 45) rfl
  have g21 : mg "_law_all_lots" = some (.ref (He.ga K "_law_all_lots")) := He.glo_ok X G (c.x.t.d.fact 21 (f := .glo "_law_all_lots") rfl)
  obtain ⟨_, F22⟩ := def_of c 22 (x := "_law_caught") (i := 46) rfl
  have g22 : mg "_law_caught" = some (.ref (He.ga K "_law_caught")) := He.glo_ok X G (c.x.t.d.fact 22 (f := .glo "_law_caught") rfl)
  obtain ⟨_, F23⟩ := def_of c 23 (x := "_law_sum") (i := 47) rfl
  have g23 : mg "_law_sum" = some (.ref (He.ga K "_law_sum")) := He.glo_ok X G (c.x.t.d.fact 23 (f := .glo "_law_sum") rfl)
  obtain ⟨_, F24⟩ := def_of c 24 (x := "_law_sure") (i := 48) rfl
  have g24 : mg "_law_sure" = some (.ref (He.ga K "_law_sure")) := He.glo_ok X G (c.x.t.d.fact 24 (f := .glo "_law_sure") rfl)
  obtain ⟨_, F25⟩ := def_of c 25 (x := "_law_is_enough") (i := 49) rfl
  have g25 : mg "_law_is_enough" = some (.ref (He.ga K "_law_is_enough")) := He.glo_ok X G (c.x.t.d.fact 25 (f := .glo "_law_is_enough") rfl)
  obtain ⟨_, F26⟩ := def_of c 26 (x := "_law_lowered") (i := 50) rfl
  have g26 : mg "_law_lowered" = some (.ref (He.ga K "_law_lowered")) := He.glo_ok X G (c.x.t.d.fact 26 (f := .glo "_law_lowered") rfl)
  obtain ⟨_, F27⟩ := def_of c 27 (x := "_law_chance") (i := 51) rfl
  have g27 : mg "_law_chance" = some (.ref (He.ga K "_law_chance")) := He.glo_ok X G (c.x.t.d.fact 27 (f := .glo "_law_chance") rfl)
  obtain ⟨_, F28⟩ := def_of c 28 (x := "_law_weight") (i := 52) rfl
  have g28 : mg "_law_weight" = some (.ref (He.ga K "_law_weight")) := He.glo_ok X G (c.x.t.d.fact 28 (f := .glo "_law_weight") rfl)
  obtain ⟨_, F29⟩ := def_of c 29 (x := "_law_up") (i := 53) rfl
  have g29 : mg "_law_up" = some (.ref (He.ga K "_law_up")) := He.glo_ok X G (c.x.t.d.fact 29 (f := .glo "_law_up") rfl)
  obtain ⟨_, F30⟩ := def_of c 30 (x := "_law_counts") (i := 54) rfl
  have g30 : mg "_law_counts" = some (.ref (He.ga K "_law_counts")) := He.glo_ok X G (c.x.t.d.fact 30 (f := .glo "_law_counts") rfl)
  obtain ⟨_, F31⟩ := def_of c 31 (x := "_law_longer") (i := 55) rfl
  have g31 : mg "_law_longer" = some (.ref (He.ga K "_law_longer")) := He.glo_ok X G (c.x.t.d.fact 31 (f := .glo "_law_longer") rfl)
  obtain ⟨_, F32⟩ := def_of c 32 (x := "_law_all_votes") (i := 56) rfl
  have g32 : mg "_law_all_votes" = some (.ref (He.ga K "_law_all_votes")) := He.glo_ok X G (c.x.t.d.fact 32 (f := .glo "_law_all_votes") rfl)
  obtain ⟨_, F33⟩ := def_of c 33 (x := "_law_worth") (i := 57) rfl
  have g33 : mg "_law_worth" = some (.ref (He.ga K "_law_worth")) := He.glo_ok X G (c.x.t.d.fact 33 (f := .glo "_law_worth") rfl)
  obtain ⟨_, F34⟩ := def_of c 34 (x := "_law_votes_due") (i := 58) rfl
  have g34 : mg "_law_votes_due" = some (.ref (He.ga K "_law_votes_due")) := He.glo_ok X G (c.x.t.d.fact 34 (f := .glo "_law_votes_due") rfl)
  obtain ⟨_, F35⟩ := def_of c 35 (x := "_law_four_right") (i := 59) rfl
  have g35 : mg "_law_four_right" = some (.ref (He.ga K "_law_four_right")) := He.glo_ok X G (c.x.t.d.fact 35 (f := .glo "_law_four_right") rfl)
  obtain ⟨_, F36⟩ := def_of c 36 (x := "law") (i := 60) rfl
  have g36 : mg "law" = some (.ref (He.ga K "law")) := He.glo_ok X G (c.x.t.d.fact 36 (f := .glo "law") rfl)
  have p0 := ok_whole (P := Pw) (w := w) (base := base) (T := tblT K) F0 g0 B
  have p1 := ok_number (P := Pw) (w := w) (base := base) (T := tblT K) F1 g1 B p0
  have p2 := ok_line (P := Pw) (w := w) (base := base) (T := tblT K) F2 g2 B
  have p3 := ok_gcd (P := Pw) (w := w) (base := base) (T := tblT K) F3 g3 B
  have p4 := ok_lowest (P := Pw) (w := w) (base := base) (T := tblT K) F4 g4 B p3
  have p5 := ok_any (P := Pw) (w := w) (base := base) (T := tblT K) F5 g5 B p0 p3
  have p6 := ok_frac (P := Pw) (w := w) (base := base) (T := tblT K) F6 g6 B C p5 p1
  have p7 := ok_chance (P := Pw) (w := w) (base := base) (T := tblT K) F7 g7 p6
  have p8 := ok_votes_in (P := Pw) (w := w) (base := base) (T := tblT K) F8 g8 B
  have p9 := ok_by (P := Pw) (w := w) (base := base) (T := tblT K) (func_d (p := ("by_votes", none)) F9) g9 B t1 m1 u1
  have p10 := ok_lots (P := Pw) (w := w) (base := base) (T := tblT K) (func_d (p := ("all_lots", none)) F10) g10 B t2 m2 u2
  have p11 := ok_chs (P := Pw) (w := w) (base := base) (T := tblT K) F11 g11 B p2 p7
  have p12 := ok_weights (P := Pw) (w := w) (base := base) (T := tblT K) F12 g12 B p10
  have p13 := ok_look (P := Pw) (w := w) (base := base) (T := tblT K) F13 g13 EH p7
  have p14 := ok_bc (P := Pw) (w := w) (base := base) (T := tblT K) F14 g14 B C EC p1 p13 p12
  have p15 := ok_tried (P := Pw) (w := w) (base := base) (T := tblT K) F15 g15 B C
  have p16 := ok_need (P := Pw) (w := w) (base := base) (T := tblT K) F16 g16 B p8 p9
  have p17 := ok_bv (P := Pw) (w := w) (base := base) (T := tblT K) F17 g17 B C EC EH p2 p11 p1 p13 p12 p15 p16 p4
  have p18 := ok_pool (P := Pw) (w := w) (base := base) (T := tblT K) F18 g18 B
  have p19 := ok_take (P := Pw) (w := w) (base := base) (T := tblT K) F19 g19 B
  have p20 := ok_one (P := Pw) (w := w) (base := base) (T := tblT K) F20 g20 B p19
  have p21 := ok_llots (P := Pw) (w := w) (base := base) (T := tblT K) F21 g21 B
  have p23 := ok_lsum (P := Pw) (w := w) (base := base) (T := tblT K) F23 g23 B
  have p24 := ok_sure (P := Pw) (w := w) (base := base) (T := tblT K) F24 g24 B
  have p25 := ok_enough (P := Pw) (w := w) (base := base) (T := tblT K) F25 g25 B p24
  have p26 := ok_lowered (P := Pw) (w := w) (base := base) (T := tblT K) F26 g26 B
  have p27 := ok_chanceL (P := Pw) (w := w) (base := base) (T := tblT K) F27 g27 p19 p26
  have p28 := ok_weight (P := Pw) (w := w) (base := base) (T := tblT K) F28 g28 B
  have p29 := ok_up (P := Pw) (w := w) (base := base) (T := tblT K) F29 g29 B p28 p21
  have p30 := ok_counts (P := Pw) (w := w) (base := base) (T := tblT K) F30 g30 B p29
  have p31 := ok_longer (P := Pw) (w := w) (base := base) (T := tblT K) F31 g31 B
  have p32 := ok_avotes (P := Pw) (w := w) (base := base) (T := tblT K) F32 g32 B p31
  have p33 := ok_worth (P := Pw) (w := w) (base := base) (T := tblT K) F33 g33 B p21 p28 p23 p25
  have p34 := ok_due (P := Pw) (w := w) (base := base) (T := tblT K) F34 g34 B p32 p25 p33 p26
  have p35 := ok_four (P := Pw) (w := w) (base := base) (T := tblT K) (func_d (p := ("_law_four_right", none)) F35) g35 B p20 p17
  have L : LawP Pw w K mg base (tblT K) (He.ga K "NoCount") (He.ga K "NoChances") :=
    { pool := p18, take := p19, chance := p27, one := p20, counts := p30, due := p34, bc := p14, bv := p17, four := p35, ck := ⟨cau_of X G c, ⟨_, EC⟩, ⟨_, EH⟩, B, ⟨_, _, F22, g22⟩⟩ }
  exact ok_law (func_d (p := ("law", none)) F36) L t3 m3 u3
end
/-! ### the law's call -/
theorem walkL : PySem.W.WalkO (PySem.W.view Rw.prog [60]) looseL (PySem.W.XL (PySem.W.view Rw.prog [60]) []) hkL.says Rw.toRowW (HandSHeadRun.topDef Rw.prog 60) [] (fun f vs => PySem.call f vs) := by
  refine Att.attach_callB (l := PySem.Challenge.rw_plainstore_k18_whole_best_counts_and_vot) (n := 63) rfl (by kernel_rfl) fun w s₀ s₁ mg mb fa o pm cd doc a vs ns G Y ho hd hcd hmg hobj hints hlen hbits hg => ?_
  obtain ⟨K, KX, c⟩ := Y
  have hmg2 : mg ("law" : Str) = some (.ref fa) := by
    have e : (HandSHeadRun.topDef Rw.prog 60).name = ("law" : Str) := by kernel_rfl
    rw [← e]
    exact hmg
  have e := hmg2.symm.trans (He.glo_ok KX G.T.g (c.x.t.d.fact 36 (f := .glo "law") rfl))
  obtain rfl : fa = He.ga K "law" := Value.ref.inj (Option.some.inj e)
  refine law_end (cs := tfL.map (He.cT K)) (sp := spLaw (tblT K) K) (x := "_law_script") (k := 9) KX G.T.g G.T.b G.T.builtins G.T.nolimit hg (fun p hp => ?_) (fun p hp => ?_) (fun p hp => ?_) G.T.bmain hobj hints (Nat.le_trans hlen (by decide)) ⟨rfl, by decide, by decide⟩ (fun base _ _ TB => all_fn KX G.T.g c base TB) fun H hH hS => ?_
  · obtain ⟨q, hq, eq⟩ := List.mem_map.mp hp
    rw [← eq]
    exact c.x.empty q hq
  · obtain ⟨q, hq, eq⟩ := List.mem_map.mp hp
    rw [← eq]
    exact c.x.out q hq
  · obtain ⟨q, hq, eq⟩ := List.mem_map.mp hp
    rw [← eq]
    exact c.x.hd q hq
  · refine ⟨fun p hp => LamX.TabS.nil ?_, a, ns, rfl, hS, fun v _ e => e⟩
    have key : ∀ x : Str, (x, none) ∈ tfL → H (tbA K x) = some (.tbl #[]) := fun x hx => hH (He.cT K (x, none)) (List.mem_map.mpr ⟨(x, none), hx, rfl⟩)
    rcases List.mem_cons.mp hp with e | hp
    · rw [e]
      exact key "by_votes" List.mem_cons_self
    · rcases List.mem_cons.mp hp with e | hp
      · rw [e]
        exact key "all_lots" (List.mem_cons_of_mem _ List.mem_cons_self)
      · rcases List.mem_cons.mp hp with e | hp
        · rw [e]
          exact key "law" (List.mem_cons_of_mem _ (List.mem_cons_of_mem _ List.mem_cons_self))
        · cases hp
end G
set_option Elab.async false
set_option maxRecDepth 100000
set_option maxHeartbeats 0
open PySem PySem.W PySem.Calls PyProof.Rows
theorem PySem.Challenge.cw_plainstore_k18_whole_best_counts_and_vot_holds : PySem.Challenge.rw_plainstore_k18_whole_best_counts_and_vot.Holds := by
  w_on; o_law
  refine HandSHeadRun.head_any (r := G.Rw) (q := view G.Rw.prog [60]) (H := G.hkL) (ob := G.obL) (M := 30000) (loose := G.looseL) (d := HandSHeadRun.topDef G.Rw.prog 60) (kwd := []) G.obL_eq
    (by kernel_rfl) (fun s => by kernel_rfl) G.runL (by kernel_rfl) (by kernel_rfl) (by kernel_rfl) (by rfl) (by first | assumption | decide +kernel) (by decide +kernel) ⟨rfl, rfl, rfl, rfl, rfl, by decide +kernel⟩ ?hw ?hc
  case hw => w_witness2
  case hc => exact G.walkL
