import PyProof.Rows.All
import HandS.ForMost
import HandS.ForExc
import HandS.Text
import HandS.AnyAll
import HandS.TupAny
import HandS.StrMore
import HandS.IsInst
import HandS.FStr
import HandS.CallSlots
import HandS.DictEq
import HandS.More
import KE.DataEq
import HandS.Deep
import HandS.Flow
import HandS.Iter
import KE.GoesMore
import HandS.TryOnly
import HandS.Conv
import HandS.SortInts
import PyProof.GenCompD
import HandS.Codes
import HandS.Defaults
import HandS.SetKeys
import HandS.Rev
import HandS.ExcInit
import HandS.ExcSuper
import KE.KExcSuper
import HandS.Exc
import HandS.ExcOwn
import HandS.ExcIs
import HandS.ExcField
import HandS.HeadHook1
import HandS.Flt
import HandS.TryMany
import HandS.Head0
import HandS.Head1
import HandS.Head2
import HandS.HeadEnd
import HandS.HeadHook2
import HandS.HeadHook3
import HandS.HeadHook4
import HandS.EndTab
import PySem.Challenge.RW_weft_k55_joined_and_moved_sections
set_option Elab.async false
set_option linter.all false
set_option maxRecDepth 100000
set_option maxHeartbeats 4000000
namespace G
open PySem PySem.Spec PyProof.Rows L2

/-- texts by their codes -/
abbrev Tx := List Nat
def mkS (l : Tx) : Str := ⟨l.toArray⟩
theorem mkS_len (l : Tx) : (mkS l).length = l.length := by simp [mkS, Str.length]
theorem tl_mkS (l : Tx) : (mkS l).cps.toList = l := by simp [mkS]
theorem mkS_inj {a b : Tx} (h : mkS a = mkS b) : a = b := by rw [← tl_mkS a, h, tl_mkS]
theorem mkS_tl (x : Str) : mkS x.cps.toList = x := by cases x; simp [mkS]
theorem mkS_app (a b : Tx) : mkS a ++ mkS b = mkS (a ++ b) := by
  apply TL.ext_tl
  rw [TL.tl_append]
  simp [TL.tl, mkS]
/-- a written text -/
def tx (s : String) : Tx := s.toList.map Char.toNat
theorem mkS_tx (s : String) : Str.ofString s = mkS (tx s) := by
  rw [← mkS_tl (Str.ofString s)]
  exact congrArg mkS (TL.tl_ofString s)
/-- a key: an int, a text -/
abbrev Ky := Sum Int Tx
def kyK : Ky → Key
  | .inl i => .inl i
  | .inr x => .inr (mkS x)
theorem kyK_inj {a b : Ky} (h : kyK a = kyK b) : a = b := by
  cases a <;> cases b <;> simp [kyK] at h
  · rw [h]
  · rw [mkS_inj h]
/-- a value of the small machine: tuples, lists, dicts by value; a thing that is changed lies in the store -/
inductive Va where
  | non | bl (b : Bool) | int (i : Int) | str (s : Tx)
  | tup (l : List Va) | lst (l : List Va) | dic (ks : List Ky) (l : List Va)
  | scr (l : List Va) | ref (p : Nat)
  deriving Inhabited
inductive Ob where
  | lst (l : List Va) | dic (ks : List Ky) (l : List Va) | ins (c : Tx) (fs : List (Tx × Va))
  deriving Inhabited
abbrev Sto := List (Option Ob)
structure Exc where
  cls : Tx
  fs : List (Tx × Va)
inductive R (α : Type) where
  | ok (a : α) (st : Sto)
  | err (x : Exc) (st : Sto)
  | stuck
abbrev Ev := List (Option Va)

/-- what is known of the classes; what is known of the slots -/
structure Ct where
  tab : Tx → Option Addr
  tps : List Addr := []
  inv : L2.St → Hp → Prop
  mono : ∀ σ F F', Same F F' → inv σ F → inv σ F'
/-- slot j may be written -/
def Ct.Bears (ct : Ct) (j : Nat) : Prop := ∀ σ v F, ct.inv σ F → ct.inv (σ.set j v) F
mutual
inductive RV (K : PySem.W.Frag) (F : Hp) (μ : List Addr) : Va → V → Prop
  | non : RV K F μ .non .non
  | bl (b : Bool) : RV K F μ (.bl b) (.bl b)
  | int (i : Int) : RV K F μ (.int i) (.int i)
  | str (x : Tx) : RV K F μ (.str x) (.str (mkS x))
  | tup {a : Addr} {ws : List Va} {vs : List V} : SqT K F a vs → RVs K F μ ws vs → RV K F μ (.tup ws) (.ref a)
  | lst {a : Addr} {ws : List Va} {vs : List V} : F a = some (.lst vs) → RVs K F μ ws vs → RV K F μ (.lst ws) (.ref a)
  | scr {a : Addr} {ws : List Va} {vs : List V} : SqL K F a vs → RVs K F μ ws vs → RV K F μ (.scr ws) (.ref a)
  | dic {a : Addr} {ks : List Ky} {ws : List Va} {kvs : List (Key × V)} : F a = some (.dK kvs) → kvs.map (·.1) = ks.map kyK → RVs K F μ ws (kvs.map (·.2)) → RV K F μ (.dic ks ws) (.ref a)
  | ref {p : Nat} {a : Addr} : μ[p]? = some a → RV K F μ (.ref p) (.ref a)
inductive RVs (K : PySem.W.Frag) (F : Hp) (μ : List Addr) : List Va → List V → Prop
  | nil : RVs K F μ [] []
  | cons {w : Va} {ws : List Va} {v : V} {vs : List V} : RV K F μ w v → RVs K F μ ws vs → RVs K F μ (w :: ws) (v :: vs)
end

section
variable {K : PySem.W.Frag} {F F' : Hp} {μ μ' : List Addr}
theorem Same.tupl {a : Addr} {xs : List V} (e : Same F F') (h : SqT K F a xs) : SqT K F' a xs := by
  rcases h with (h | ⟨o, h⟩) | h
  · exact .inl (.inl (e _ _ h))
  · exact .inl (.inr ⟨o, e _ _ h⟩)
  · exact .inr h
theorem pre_get {p : Nat} {a : Addr} (hp : μ <+: μ') (h : μ[p]? = some a) : μ'[p]? = some a := by
  obtain ⟨r, rfl⟩ := hp
  rw [List.getElem?_append_left (List.getElem?_eq_some_iff.mp h).1]
  exact h
mutual
theorem RV.mono (e : Same F F') (hp : μ <+: μ') : ∀ {w : Va} {v : V}, RV K F μ w v → RV K F' μ' w v
  | _, _, .non => .non
  | _, _, .bl b => .bl b
  | _, _, .int i => .int i
  | _, _, .str x => .str x
  | _, _, .tup h r => .tup (Same.tupl e h) (RVs.mono e hp r)
  | _, _, .lst h r => .lst (e _ _ h) (RVs.mono e hp r)
  | _, _, .scr h r => .scr (L2.Same.seq e h) (RVs.mono e hp r)
  | _, _, .dic h k r => .dic (e _ _ h) k (RVs.mono e hp r)
  | _, _, .ref h => .ref (pre_get hp h)
theorem RVs.mono (e : Same F F') (hp : μ <+: μ') : ∀ {ws : List Va} {vs : List V}, RVs K F μ ws vs → RVs K F' μ' ws vs
  | _, _, .nil => .nil
  | _, _, .cons r t => .cons (RV.mono e hp r) (RVs.mono e hp t)
end
theorem RVs.length : ∀ {ws : List Va} {vs : List V}, RVs K F μ ws vs → ws.length = vs.length
  | _, _, .nil => rfl
  | _, _, .cons _ t => by simp [RVs.length t]
theorem RVs.append : ∀ {ws ws' : List Va} {vs vs' : List V}, RVs K F μ ws vs → RVs K F μ ws' vs' → RVs K F μ (ws ++ ws') (vs ++ vs')
  | _, _, _, _, .nil, h => h
  | _, _, _, _, .cons r t, h => .cons r (RVs.append t h)
theorem RVs.get : ∀ {ws : List Va} {vs : List V} {i : Nat} {w : Va}, RVs K F μ ws vs → ws[i]? = some w → ∃ v, vs[i]? = some v ∧ RV K F μ w v
  | _, _, _, _, .nil, h => by simp at h
  | _, _, 0, w, .cons r t, h => by simp at h; subst h; exact ⟨_, rfl, r⟩
  | _, _, i + 1, w, .cons r t, h => by
    obtain ⟨v, h1, h2⟩ := RVs.get (i := i) t (by simpa using h)
    exact ⟨v, by simpa using h1, h2⟩
theorem RVs.get' : ∀ {ws : List Va} {vs : List V} {i : Nat} {v : V}, RVs K F μ ws vs → vs[i]? = some v → ∃ w, ws[i]? = some w ∧ RV K F μ w v
  | _, _, _, _, .nil, h => by simp at h
  | _, _, 0, w, .cons r t, h => by simp at h; subst h; exact ⟨_, rfl, r⟩
  | _, _, i + 1, w, .cons r t, h => by
    obtain ⟨v, h1, h2⟩ := RVs.get' (i := i) t (by simpa using h)
    exact ⟨v, by simpa using h1, h2⟩
theorem RVs.take : ∀ {ws : List Va} {vs : List V} (n : Nat), RVs K F μ ws vs → RVs K F μ (ws.take n) (vs.take n)
  | _, _, 0, _ => .nil
  | _, _, _ + 1, .nil => .nil
  | _, _, n + 1, .cons r t => .cons r (RVs.take n t)
theorem RVs.drop : ∀ {ws : List Va} {vs : List V} (n : Nat), RVs K F μ ws vs → RVs K F μ (ws.drop n) (vs.drop n)
  | _, _, 0, r => r
  | _, _, _ + 1, .nil => .nil
  | _, _, n + 1, .cons _ t => RVs.drop n t
theorem RVs.set {w : Va} {v : V} (r : RV K F μ w v) : ∀ {ws : List Va} {vs : List V} (n : Nat), RVs K F μ ws vs → RVs K F μ (ws.set n w) (vs.set n v)
  | _, _, _, .nil => .nil
  | _, _, 0, .cons _ t => .cons r t
  | _, _, n + 1, .cons q t => .cons q (RVs.set r n t)
theorem RVs.dropLast : ∀ {ws : List Va} {vs : List V}, RVs K F μ ws vs → RVs K F μ ws.dropLast vs.dropLast
  | _, _, .nil => .nil
  | _, _, .cons r .nil => .nil
  | _, _, .cons r (.cons r' t) => .cons r (RVs.dropLast (.cons r' t))
theorem RVs.eraseIdx : ∀ {ws : List Va} {vs : List V} (n : Nat), RVs K F μ ws vs → RVs K F μ (ws.eraseIdx n) (vs.eraseIdx n)
  | _, _, _, .nil => .nil
  | _, _, 0, .cons _ t => t
  | _, _, n + 1, .cons q t => .cons q (RVs.eraseIdx n t)
theorem RVs.reverse {ws : List Va} {vs : List V} (h : RVs K F μ ws vs) : RVs K F μ ws.reverse vs.reverse := by
  induction ws generalizing vs with
  | nil => cases h; exact .nil
  | cons w ws ih =>
    cases h with
    | cons r t =>
      rw [List.reverse_cons, List.reverse_cons]
      exact (ih t).append (.cons r .nil)
theorem RVs.rep {ws : List Va} {vs : List V} (h : RVs K F μ ws vs) : ∀ n : Nat, RVs K F μ (List.replicate n ws).flatten (List.replicate n vs).flatten
  | 0 => .nil
  | n + 1 => by
    rw [List.replicate_succ, List.replicate_succ, List.flatten_cons, List.flatten_cons]
    exact h.append (RVs.rep h n)
end

/-- an object of the store, as it lies -/
inductive RO (K : PySem.W.Frag) (ct : Ct) (F : Hp) (μ : List Addr) (H : Hp) (a : Addr) : Ob → Prop
  | lst {ws : List Va} {vs : List V} : H a = some (.lst vs) → RVs K F μ ws vs → RO K ct F μ H a (.lst ws)
  | dic {ks : List Ky} {ws : List Va} {kvs : List (Key × V)} : H a = some (.dK kvs) → kvs.map (·.1) = ks.map kyK → RVs K F μ ws (kvs.map (·.2)) → RO K ct F μ H a (.dic ks ws)
  | ins {c : Tx} {C dx : Addr} {fs : List (Tx × Va)} {fvs : List (Str × V)} : ct.tab c = some C → H a = some (.ins C dx fvs) → fvs.map (·.1) = fs.map (fun p => mkS p.1) → RVs K F μ (fs.map (·.2)) (fvs.map (·.2)) → RO K ct F μ H a (.ins c fs)
theorem RO.there {K : PySem.W.Frag} {ct : Ct} {F : Hp} {μ : List Addr} {H : Hp} {a : Addr} {o : Ob} (h : RO K ct F μ H a o) : ∃ u, H a = some u ∧ Mut (some u) := by
  cases h with
  | lst h _ => exact ⟨_, h, trivial⟩
  | dic h _ _ => exact ⟨_, h, trivial⟩
  | ins _ h _ _ => exact ⟨_, h, trivial⟩
theorem RO.mono {K : PySem.W.Frag} {ct : Ct} {F F' : Hp} {μ μ' : List Addr} {H H' : Hp} {a : Addr} {o : Ob} (e : Same F F') (hp : μ <+: μ') (hH : H' a = H a) (h : RO K ct F μ H a o) : RO K ct F' μ' H' a o := by
  cases h with
  | lst h r => exact .lst (hH.trans h) (r.mono e hp)
  | dic h k r => exact .dic (hH.trans h) k (r.mono e hp)
  | ins c h k r => exact .ins c (hH.trans h) k (r.mono e hp)

/-- the store, as it lies in the heap: F what is frozen, μ where the store's objects lie -/
structure Rel (K : PySem.W.Frag) (ct : Ct) (F : Hp) (μ : List Addr) (st : Sto) (H : Hp) : Prop where
  sub : Same F H
  len : st.length = μ.length
  obj : ∀ (p : Nat) (o : Ob) (a : Addr), st[p]? = some (some o) → μ[p]? = some a → RO K ct F μ H a o
  dis : ∀ (p : Nat) (o : Ob) (a : Addr), st[p]? = some (some o) → μ[p]? = some a → F a = none
  inj : ∀ (p q : Nat) (o o' : Ob) (a : Addr), st[p]? = some (some o) → st[q]? = some (some o') → μ[p]? = some a → μ[q]? = some a → p = q
  mtr : ∀ a, a ∈ μ → H a ≠ none
  tabs : ∀ P, P ∈ ct.tps → GxR.TabG H P ∧ F P = none

structure Ext (F : Hp) (μ : List Addr) (H F' : Hp) (μ' : List Addr) (H' : Hp) : Prop where
  fr : Same F F'
  pre : μ <+: μ'
  keep : ∀ a o, H a = some o → a ∉ μ → (∀ ps, o ≠ .tbl ps) → H' a = some o
  tab : ∀ P, GxR.TabG H P → GxR.TabG H' P
  new : ∀ a, F' a ≠ none → F a ≠ none ∨ H a = none ∨ a ∈ μ
  mnew : ∀ a, a ∈ μ' → a ∈ μ ∨ H a = none
  there : ∀ a, H a ≠ none → H' a ≠ none

section
variable {K : PySem.W.Frag} {ct : Ct} {F F1 F2 F' : Hp} {μ μ1 μ2 μ' : List Addr} {H H1 H2 H' : Hp} {st : Sto}
theorem Ext.refl : Ext F μ H F μ H := ⟨fun _ _ h => h, List.prefix_rfl, fun _ _ h _ _ => h, fun _ h => h, fun _ h => .inl h, fun _ h => .inl h, fun _ h => h⟩
theorem Ext.trans (x : Ext F μ H F1 μ1 H1) (y : Ext F1 μ1 H1 F2 μ2 H2) : Ext F μ H F2 μ2 H2 where
  fr := fun a o h => y.fr a o (x.fr a o h)
  pre := x.pre.trans y.pre
  keep := fun a o h n nt => y.keep a o (x.keep a o h n nt) (fun m => (x.mnew a m).elim n fun z => by rw [h] at z; cases z) nt
  tab := fun P h => y.tab P (x.tab P h)
  new := fun a h => by
    rcases y.new a h with h | h | h
    · exact x.new a h
    · refine .inr (.inl ?_)
      cases q : H a with
      | none => rfl
      | some o => exact absurd h (x.there a (by rw [q]; exact fun z => nomatch z))
    · exact (x.mnew a h).elim (fun z => .inr (.inr z)) fun z => .inr (.inl z)
  mnew := fun a h => by
    rcases y.mnew a h with h | h
    · exact x.mnew a h
    · refine .inr ?_
      cases q : H a with
      | none => rfl
      | some o => exact absurd h (x.there a (by rw [q]; exact fun z => nomatch z))
  there := fun a h => y.there a (x.there a h)
theorem Ext.rv {w : Va} {v : V} (x : Ext F μ H F' μ' H') (r : RV K F μ w v) : RV K F' μ' w v := r.mono x.fr x.pre
theorem Ext.rvs {w : List Va} {v : List V} (x : Ext F μ H F' μ' H') (r : RVs K F μ w v) : RVs K F' μ' w v := r.mono x.fr x.pre

theorem Rel.nofrz {p : Addr} (x : Rel K ct F μ st H) (h : H p = none) : F p = none := by
  cases q : F p with
  | none => rfl
  | some o => rw [x.sub p o q] at h; cases h
theorem same_upd {p : Addr} {o : HO} (h : H p = none) : Same H (upd H p o) := fun b x e => by
  rw [upd_ne (ne_of_none e h)]
  exact e
theorem upd_there {H : Hp} {a p : Addr} {o : HO} (h : H a ≠ none) : upd H p o a ≠ none := by
  by_cases e : a = p
  · subst e; rw [upd_same]; exact fun z => nomatch z
  · rw [upd_ne e]; exact h
theorem tabG_ne {P p : Addr} (h : GxR.TabG H P) (e : ∀ ps, H p ≠ some (.tbl ps)) : P ≠ p := fun z => by
  obtain ⟨ps, h1, _⟩ := h
  rw [z] at h1
  exact e ps h1
theorem tabG_upd {P p : Addr} {o : HO} (h : GxR.TabG H P) (e : ∀ ps, H p ≠ some (.tbl ps)) : GxR.TabG (upd H p o) P := by
  have n := tabG_ne h e
  obtain ⟨ps, h1, h2⟩ := h
  exact ⟨ps, by rw [upd_ne n]; exact h1, h2⟩
theorem nt_none {p : Addr} (h : H p = none) : ∀ ps, H p ≠ some (.tbl ps) := fun ps e => by rw [h] at e; cases e
theorem nt_mut {p : Addr} {u : HO} (h : H p = some u) (m : Mut (some u)) : ∀ ps, H p ≠ some (.tbl ps) := fun ps e => by
  rw [h] at e
  cases e
  exact m
/-- a new frozen object -/
theorem Rel.frz {p : Addr} (x : Rel K ct F μ st H) (h : H p = none) (o : HO) : Rel K ct (upd F p o) μ st (upd H p o) := by
  have hF := x.nofrz h
  refine ⟨fun a u e => ?_, x.len, fun q ob a e1 e2 => ?_, fun q ob a e1 e2 => ?_, x.inj, fun a m => upd_there (x.mtr a m), fun P m => ⟨tabG_upd (x.tabs P m).1 (nt_none h), by rw [upd_ne (tabG_ne (x.tabs P m).1 (nt_none h))]; exact (x.tabs P m).2⟩⟩
  · by_cases ha : a = p
    · subst ha; rw [upd_same] at e ⊢; exact e
    · rw [upd_ne ha] at e ⊢; exact x.sub a u e
  · have r := x.obj q ob a e1 e2
    obtain ⟨u, hu, _⟩ := r.there
    exact r.mono (same_upd hF) List.prefix_rfl (upd_ne (ne_of_none hu h))
  · have r := x.obj q ob a e1 e2
    obtain ⟨u, hu, _⟩ := r.there
    rw [upd_ne (ne_of_none hu h)]
    exact x.dis q ob a e1 e2
theorem Ext.frz {p : Addr} (x : Rel K ct F μ st H) (h : H p = none) (o : HO) : Ext F μ H (upd F p o) μ (upd H p o) := by
  have hF := x.nofrz h
  refine ⟨same_upd hF, List.prefix_rfl, fun a u e _ _ => same_upd h a u e, fun P t => tabG_upd t (nt_none h), fun a e => ?_, fun _ m => .inl m, fun a e => ?_⟩
  · by_cases ha : a = p
    · subst ha; exact .inr (.inl h)
    · rw [upd_ne ha] at e; exact .inl e
  · cases q : H a with
    | none => exact absurd q e
    | some u => rw [same_upd h a u q]; exact fun z => nomatch z
theorem pre_app {r : List Addr} : μ <+: μ ++ r := ⟨r, rfl⟩
theorem get_app {α : Type} {l : List α} {x y : α} {i : Nat} (h : (l ++ [x])[i]? = some y) : (l[i]? = some y) ∨ (i = l.length ∧ y = x) := by
  by_cases hi : i < l.length
  · rw [List.getElem?_append_left hi] at h; exact .inl h
  · rw [List.getElem?_append_right (by omega)] at h
    have : i - l.length = 0 := by
      cases q : i - l.length with
      | zero => rfl
      | succ n => rw [q] at h; simp at h
    rw [this] at h
    simp at h
    exact .inr ⟨by omega, h.symm⟩
/-- a new object of the store -/
theorem Rel.put {p : Addr} (x : Rel K ct F μ st H) (h : H p = none) {o : HO} {ob : Ob} (r : RO K ct F μ (upd H p o) p ob) : Rel K ct F (μ ++ [p]) (st ++ [some ob]) (upd H p o) := by
  have hF := x.nofrz h
  have hl := x.len
  refine ⟨fun a u e => by rw [upd_ne (ne_of_none (x.sub a u e) h)]; exact x.sub a u e, by simp [hl], fun q ob' a e1 e2 => ?_, fun q ob' a e1 e2 => ?_, fun q q' ob1 ob2 a e1 e2 e3 e4 => ?_, fun a m => ?_, fun P m => ⟨tabG_upd (x.tabs P m).1 (nt_none h), (x.tabs P m).2⟩⟩
  · rcases get_app e1 with e1 | ⟨rfl, e1'⟩
    · have hq := (List.getElem?_eq_some_iff.mp e1).1
      rw [List.getElem?_append_left (by omega)] at e2
      have r' := x.obj q ob' a e1 e2
      obtain ⟨u, hu, _⟩ := r'.there
      exact r'.mono (fun _ _ e => e) pre_app (upd_ne (ne_of_none hu h))
    · rw [hl, List.getElem?_append_right (Nat.le_refl _)] at e2
      simp at e2
      subst e2
      rw [Option.some.inj e1']
      exact r.mono (fun _ _ e => e) pre_app rfl
  · rcases get_app e1 with e1 | ⟨rfl, e1⟩
    · have hq := (List.getElem?_eq_some_iff.mp e1).1
      rw [List.getElem?_append_left (by omega)] at e2
      exact x.dis q ob' a e1 e2
    · rw [hl, List.getElem?_append_right (Nat.le_refl _)] at e2
      simp at e2
      subst e2
      exact hF
  · have old : ∀ {q : Nat} {ob' : Ob} {a : Addr}, st[q]? = some (some ob') → (μ ++ [p])[q]? = some a → μ[q]? = some a ∧ a ≠ p := fun {q ob' a} e1 e2 => by
      have hq := (List.getElem?_eq_some_iff.mp e1).1
      rw [List.getElem?_append_left (by omega)] at e2
      obtain ⟨u, hu, _⟩ := (x.obj q ob' a e1 e2).there
      exact ⟨e2, ne_of_none hu h⟩
    have new : ∀ {q : Nat} {a : Addr}, q = st.length → (μ ++ [p])[q]? = some a → a = p := fun {q a} e1 e2 => by
      rw [e1, hl, List.getElem?_append_right (Nat.le_refl _)] at e2
      simp at e2
      exact e2.symm
    rcases get_app e1 with e1 | ⟨h1, e1⟩ <;> rcases get_app e2 with e2 | ⟨h2, e2⟩
    · exact x.inj q q' ob1 ob2 a e1 e2 (old e1 e3).1 (old e2 e4).1
    · exact absurd (new h2 e4) (old e1 e3).2
    · exact absurd (new h1 e3) (old e2 e4).2
    · rw [h1, h2]
  · rcases List.mem_append.mp m with m | m
    · exact upd_there (x.mtr a m)
    · rw [List.mem_singleton.mp m, upd_same]; exact fun z => nomatch z
theorem Ext.put {p : Addr} (x : Rel K ct F μ st H) (h : H p = none) (o : HO) : Ext F μ H F (μ ++ [p]) (upd H p o) := by
  refine ⟨fun _ _ e => e, pre_app, fun a u e _ _ => same_upd h a u e, fun P t => tabG_upd t (nt_none h), fun a e => .inl e, fun a m => ?_, fun a e => ?_⟩
  · rcases List.mem_append.mp m with m | m
    · exact .inl m
    · rw [List.mem_singleton.mp m]; exact .inr h
  · cases q : H a with
    | none => exact absurd q e
    | some u => rw [same_upd h a u q]; exact fun z => nomatch z
/-- an object of the store is written -/
theorem Rel.write {p : Nat} {a : Addr} {ob ob' : Ob} {o : HO} (x : Rel K ct F μ st H) (h1 : st[p]? = some (some ob)) (h2 : μ[p]? = some a) (r : RO K ct F μ (upd H a o) a ob') : Rel K ct F μ (st.set p (some ob')) (upd H a o) := by
  have hF := x.dis p ob a h1 h2
  have hp := (List.getElem?_eq_some_iff.mp h1).1
  have old : ∀ {q : Nat} {ob1 : Ob}, (st.set p (some ob'))[q]? = some (some ob1) → (q = p ∧ ob1 = ob') ∨ (q ≠ p ∧ st[q]? = some (some ob1)) := fun {q ob1} e => by
    by_cases hq : p = q
    · subst hq
      rw [List.getElem?_set_self hp] at e
      cases e
      exact .inl ⟨rfl, rfl⟩
    · rw [List.getElem?_set_ne hq] at e
      exact .inr ⟨fun z => hq z.symm, e⟩
  have live : ∀ {q : Nat} {ob1 : Ob}, (st.set p (some ob'))[q]? = some (some ob1) → ∃ ob2, st[q]? = some (some ob2) := fun {q ob1} e => by
    rcases old e with ⟨rfl, _⟩ | ⟨_, e⟩
    · exact ⟨_, h1⟩
    · exact ⟨_, e⟩
  refine ⟨fun b u e => by rw [upd_ne (ne_of_none e hF)]; exact x.sub b u e, by rw [List.length_set]; exact x.len, fun q ob1 b e1 e2 => ?_, fun q ob1 b e1 e2 => ?_, fun q q' ob1 ob2 b e1 e2 e3 e4 => ?_, fun b m => upd_there (x.mtr b m), fun P m => ⟨tabG_upd (x.tabs P m).1 (let ⟨_, hu, mu⟩ := (x.obj p ob a h1 h2).there; nt_mut hu mu), (x.tabs P m).2⟩⟩
  · rcases old e1 with ⟨rfl, rfl⟩ | ⟨hq, e1⟩
    · rw [h2] at e2; cases e2; exact r
    · have r' := x.obj q ob1 b e1 e2
      refine r'.mono (fun _ _ e => e) List.prefix_rfl (upd_ne fun z => hq ?_)
      subst z
      exact x.inj q p ob1 ob b e1 h1 e2 h2
  · obtain ⟨ob2, e⟩ := live e1
    exact x.dis q ob2 b e e2
  · obtain ⟨o1, f1⟩ := live e1
    obtain ⟨o2, f2⟩ := live e2
    exact x.inj q q' o1 o2 b f1 f2 e3 e4
theorem Ext.write {p : Nat} {a : Addr} {ob : Ob} (x : Rel K ct F μ st H) (h1 : st[p]? = some (some ob)) (h2 : μ[p]? = some a) (o : HO) : Ext F μ H F μ (upd H a o) := by
  obtain ⟨u, hu, mu⟩ := (x.obj p ob a h1 h2).there
  refine ⟨fun _ _ e => e, List.prefix_rfl, fun b u e n _ => ?_, fun P t => tabG_upd t (nt_mut hu mu), fun b e => .inl e, fun b m => .inl m, fun b e => ?_⟩
  · rw [upd_ne (show b ≠ a from fun z => n (by rw [z]; exact List.mem_of_getElem? h2))]; exact e
  · by_cases hb : b = a
    · subst hb; rw [upd_same]; exact fun z => nomatch z
    · rw [upd_ne hb]; exact e
/-- an object of the store is frozen -/
theorem Rel.freeze {p : Nat} {a : Addr} {ob : Ob} {o : HO} (x : Rel K ct F μ st H) (h1 : st[p]? = some (some ob)) (h2 : μ[p]? = some a) (h3 : H a = some o) : Rel K ct (upd F a o) μ (st.set p none) H := by
  have hF := x.dis p ob a h1 h2
  have hp := (List.getElem?_eq_some_iff.mp h1).1
  have old : ∀ {q : Nat} {ob1 : Ob}, (st.set p none)[q]? = some (some ob1) → q ≠ p ∧ st[q]? = some (some ob1) := fun {q ob1} e => by
    by_cases hq : p = q
    · subst hq
      rw [List.getElem?_set_self hp] at e
      cases e
    · rw [List.getElem?_set_ne hq] at e
      exact ⟨fun z => hq z.symm, e⟩
  refine ⟨fun b u e => ?_, by rw [List.length_set]; exact x.len, fun q ob1 b e1 e2 => ?_, fun q ob1 b e1 e2 => ?_, fun q q' ob1 ob2 b e1 e2 e3 e4 => ?_, x.mtr, fun P m => ⟨(x.tabs P m).1, by rw [upd_ne (tabG_ne (x.tabs P m).1 (let ⟨_, hu, mu⟩ := (x.obj p ob a h1 h2).there; nt_mut hu mu))]; exact (x.tabs P m).2⟩⟩
  · by_cases hb : b = a
    · subst hb; rw [upd_same] at e; cases e; exact h3
    · rw [upd_ne hb] at e; exact x.sub b u e
  · exact (x.obj q ob1 b (old e1).2 e2).mono (same_upd hF) List.prefix_rfl rfl
  · obtain ⟨hq, e⟩ := old e1
    rw [upd_ne (show b ≠ a from fun z => hq (x.inj q p ob1 ob b e h1 e2 (by rw [z]; exact h2)))]
    exact x.dis q ob1 b e e2
  · exact x.inj q q' ob1 ob2 b (old e1).2 (old e2).2 e3 e4
theorem Ext.freeze {p : Nat} {a : Addr} {ob : Ob} (x : Rel K ct F μ st H) (h1 : st[p]? = some (some ob)) (h2 : μ[p]? = some a) (o : HO) : Ext F μ H (upd F a o) μ H := by
  have hF := x.dis p ob a h1 h2
  refine ⟨same_upd hF, List.prefix_rfl, fun b u e _ _ => e, fun P t => t, fun b e => ?_, fun b m => .inl m, fun b e => e⟩
  by_cases hb : b = a
  · subst hb; exact .inr (.inr (List.mem_of_getElem? h2))
  · rw [upd_ne hb] at e; exact .inl e
end

/-- the slots -/
structure REnv (K : PySem.W.Frag) (ct : Ct) (F : Hp) (μ : List Addr) (env : Ev) (σ : L2.St) : Prop where
  len : env.length = σ.length
  get : ∀ (i : Nat) (w : Va), env[i]? = some (some w) → ∃ v, σ[i]? = some (some v) ∧ RV K F μ w v
  inv : ct.inv σ F
theorem REnv.mono {K : PySem.W.Frag} {ct : Ct} {F F' H H' : Hp} {μ μ' : List Addr} {env : Ev} {σ : L2.St} (x : Ext F μ H F' μ' H') (r : REnv K ct F μ env σ) : REnv K ct F' μ' env σ :=
  ⟨r.len, fun i w e => let ⟨v, h1, h2⟩ := r.get i w e; ⟨v, h1, x.rv h2⟩, ct.mono _ _ _ x.fr r.inv⟩
theorem REnv.set {K : PySem.W.Frag} {ct : Ct} {F : Hp} {μ : List Addr} {env : Ev} {σ : L2.St} {w : Va} {v : V} (r : REnv K ct F μ env σ) (i : Nat) (hb : ct.Bears i) (h : RV K F μ w v) : REnv K ct F μ (env.set i (some w)) (σ.set i (some v)) := by
  refine ⟨by simp [r.len], fun j u e => ?_, hb _ _ _ r.inv⟩
  by_cases hj : i = j
  · subst hj
    by_cases hi : i < env.length
    · rw [List.getElem?_set_self hi] at e
      cases e
      exact ⟨v, List.getElem?_set_self (by rw [← r.len]; exact hi), h⟩
    · rw [List.getElem?_eq_none (by simpa using hi)] at e; cases e
  · rw [List.getElem?_set_ne hj] at e ⊢
    exact r.get j u e
end G

set_option Elab.async false
set_option linter.all false
set_option maxRecDepth 100000
set_option maxHeartbeats 4000000
namespace G
open PySem PySem.Spec PyProof.Rows L2

def R.bind {α β : Type} (m : R α) (k : α → Sto → R β) : R β := match m with
  | .ok a st => k a st
  | .err x st => .err x st
  | .stuck => .stuck
@[simp] theorem R.bind_ok {α β : Type} (a : α) (st : Sto) (k : α → Sto → R β) : (R.ok a st).bind k = k a st := rfl
@[simp] theorem R.bind_err {α β : Type} (x : Exc) (st : Sto) (k : α → Sto → R β) : (R.err x st : R α).bind k = .err x st := rfl
@[simp] theorem R.bind_stuck {α β : Type} (k : α → Sto → R β) : (R.stuck : R α).bind k = .stuck := rfl
abbrev Mx (α : Type) := Ev → Sto → R α

/-- an exception, as it lies -/
structure RX (K : PySem.W.Frag) (ct : Ct) (F : Hp) (μ : List Addr) (x : Exc) (cls : Value) (d : Option Addr) : Prop where
  cls : ∃ C, ct.tab x.cls = some C ∧ cls = .ref C
  fs : ∀ n w, x.fs.lookup n = some w → ∃ d' fvs v, d = some d' ∧ F d' = some (.xd fvs) ∧ fvs.lookup (mkS n) = some v ∧ RV K F μ w v
  dd : d = none ∨ ∃ d' fvs, d = some d' ∧ F d' = some (.xd fvs)

def GPost {α β : Type} (K : PySem.W.Frag) (ct : Ct) (W : WX) (RA : Hp → List Addr → α → β → Prop) (σ : L2.St) (F : Hp) (μ : List Addr) (H : Hp) (Q : β → Hp → Prop) : R α → Prop
  | .ok a st => ∀ F' μ' H' v, Ext F μ H F' μ' H' → Rel K ct F' μ' st H' → RA F' μ' a v → Q v H'
  | .err x st => ∀ F' μ' H' cls d, Ext F μ H F' μ' H' → Rel K ct F' μ' st H' → RX K ct F' μ' x cls d → W cls d σ H'
  | .stuck => False
def TOf {α β : Type} (K : PySem.W.Frag) (ct : Ct) (W : WX) (RA : Hp → List Addr → α → β → Prop) (m : Mx α) : L2.St → Hp → (β → Hp → Prop) → Prop := fun σ H Q =>
  ∃ F μ env st, Rel K ct F μ st H ∧ REnv K ct F μ env σ ∧ GPost K ct W RA σ F μ H Q (m env st)
abbrev RB : Hp → List Addr → Bool → Bool → Prop := fun _ _ a b => a = b

section
variable {K : PySem.W.Frag} {ct : Ct} {W : WX} {F F1 : Hp} {μ μ1 : List Addr} {H H1 : Hp} {σ : L2.St} {st : Sto} {α β γ δ : Type} {RA : Hp → List Addr → α → β → Prop} {RC : Hp → List Addr → γ → δ → Prop}
theorem GPost.at {Q : β → Hp → Prop} {m : R α} (x : Ext F μ H F1 μ1 H1) (h : GPost K ct W RA σ F μ H Q m) : GPost K ct W RA σ F1 μ1 H1 Q m := by
  cases m with
  | ok a st => exact fun F' μ' H' v e r ra => h F' μ' H' v (x.trans e) r ra
  | err y st => exact fun F' μ' H' c d e r rx => h F' μ' H' c d (x.trans e) r rx
  | stuck => exact h
theorem GPost.mono {Q Q' : β → Hp → Prop} {m : R α} (h : GPost K ct W RA σ F μ H Q m) (q : ∀ v H', Q v H' → Q' v H') : GPost K ct W RA σ F μ H Q' m := by
  cases m with
  | ok a st => exact fun F' μ' H' v e r ra => q _ _ (h F' μ' H' v e r ra)
  | err y st => exact h
  | stuck => exact h
/-- one step, then the rest -/
theorem GPost.bind {Q : δ → Hp → Prop} {N : β → Hp → Prop} {m : R α} {k : α → Sto → R γ} (h : GPost K ct W RC σ F μ H Q (m.bind k))
    (n : ∀ a st1 F1 μ1 H1 v, m = .ok a st1 → Ext F μ H F1 μ1 H1 → Rel K ct F1 μ1 st1 H1 → RA F1 μ1 a v → GPost K ct W RC σ F1 μ1 H1 Q (k a st1) → N v H1) : GPost K ct W RA σ F μ H N m := by
  cases m with
  | ok a st => exact fun F' μ' H' v e r ra => n a st F' μ' H' v rfl e r ra (h.at e)
  | err y st => exact h
  | stuck => exact h
/-- the value is here -/
theorem GPost.here {Q : β → Hp → Prop} {a : α} {v : β} (h : GPost K ct W RA σ F μ H Q (.ok a st)) (r : Rel K ct F μ st H) (ra : RA F μ a v) : Q v H := h F μ H v .refl r ra

/-! ### sequences -/
def lstOf (x : Va) (st : Sto) : Option (List Va) := match x with
  | .lst l => some l
  | .ref p => match st[p]? with
    | some (some (.lst l)) => some l
    | _ => none
  | _ => none
def dicOf (x : Va) (st : Sto) : Option (List Ky × List Va) := match x with
  | .dic k l => some (k, l)
  | .ref p => match st[p]? with
    | some (some (.dic k l)) => some (k, l)
    | _ => none
  | _ => none
/-- a list, a tuple that is read -/
def seqOf (x : Va) (st : Sto) : Option (List Va) := match x with
  | .tup l => some l
  | .scr l => some l
  | _ => lstOf x st
theorem lstOf_ok {x : Va} {v : V} {l : List Va} (r : Rel K ct F μ st H) (rv : RV K F μ x v) (h : lstOf x st = some l) : ∃ a vs, v = .ref a ∧ H a = some (.lst vs) ∧ RVs K F μ l vs := by
  cases rv with
  | lst hf rs =>
    cases h
    exact ⟨_, _, rfl, r.sub _ _ hf, rs⟩
  | @ref p a hp =>
    unfold lstOf at h
    simp only at h
    split at h
    · rename_i l' e
      cases h
      cases r.obj p _ a e hp with
      | lst h1 h2 => exact ⟨a, _, rfl, h1, h2⟩
    · cases h
  | _ => cases h
theorem dicOf_ok {x : Va} {v : V} {ks : List Ky} {l : List Va} (r : Rel K ct F μ st H) (rv : RV K F μ x v) (h : dicOf x st = some (ks, l)) : ∃ a kvs, v = .ref a ∧ H a = some (.dK kvs) ∧ kvs.map (·.1) = ks.map kyK ∧ RVs K F μ l (kvs.map (·.2)) := by
  cases rv with
  | dic hf hk rs =>
    cases h
    exact ⟨_, _, rfl, r.sub _ _ hf, hk, rs⟩
  | @ref p a hp =>
    unfold dicOf at h
    simp only at h
    split at h
    · rename_i k' l' e
      cases h
      cases r.obj p _ a e hp with
      | dic h1 h2 h3 => exact ⟨a, _, rfl, h1, h2, h3⟩
    · cases h
  | _ => cases h
theorem seqOf_ok {x : Va} {v : V} {l : List Va} (r : Rel K ct F μ st H) (rv : RV K F μ x v) (h : seqOf x st = some l) : ∃ a vs, v = .ref a ∧ (SqL K H a vs ∨ SqT K H a vs) ∧ RVs K F μ l vs := by
  cases rv with
  | tup hf rs =>
    cases h
    exact ⟨_, _, rfl, .inr (Same.tupl r.sub hf), rs⟩
  | scr hf rs =>
    cases h
    exact ⟨_, _, rfl, .inl (L2.Same.seq r.sub hf), rs⟩
  | lst hf rs =>
    obtain ⟨a, vs, e, h1, h2⟩ := lstOf_ok r (.lst hf rs) h
    exact ⟨a, vs, e, .inl (.of h1), h2⟩
  | ref hp =>
    obtain ⟨a, vs, e, h1, h2⟩ := lstOf_ok r (.ref hp) h
    exact ⟨a, vs, e, .inl (.of h1), h2⟩
  | _ => cases h

/-! ### new things -/
def mkL (m : Bool) (l : List Va) (st : Sto) : R Va := if l.length ≤ sizeLine then (if m then .ok (.ref st.length) (st ++ [some (.lst l)]) else .ok (.lst l) st) else .stuck
def mkT (l : List Va) (st : Sto) : R Va := if l.length ≤ sizeLine then .ok (.tup l) st else .stuck
theorem mkL_ok {m : Bool} {l : List Va} {vs : List V} {Q : VK} (r : Rel K ct F μ st H) (rs : RVs K F μ l vs) (h : GPost K ct W (RV K) σ F μ H Q (mkL m l st)) : vs.length ≤ sizeLine ∧ ∀ p, H p = none → Q (.ref p) (upd H p (.lst vs)) := by
  unfold mkL at h
  split at h
  · rename_i hz
    refine ⟨by rw [← rs.length]; exact hz, fun p hp => ?_⟩
    cases m with
    | false =>
      exact h _ _ _ _ (.frz r hp _) (r.frz hp _) (.lst upd_same (rs.mono (same_upd (r.nofrz hp)) List.prefix_rfl))
    | true =>
      refine h _ _ _ _ (.put r hp _) (r.put hp (.lst upd_same rs)) (.ref ?_)
      rw [r.len, List.getElem?_append_right (Nat.le_refl _)]
      simp
  · exact h.elim
theorem mkT_ok {l : List Va} {vs : List V} {Q : VK} (r : Rel K ct F μ st H) (rs : RVs K F μ l vs) (h : GPost K ct W (RV K) σ F μ H Q (mkT l st)) : vs.length ≤ sizeLine ∧ ∀ p, H p = none → Q (.ref p) (upd H p (.tup vs)) := by
  unfold mkT at h
  split at h
  · rename_i hz
    exact ⟨by rw [← rs.length]; exact hz, fun p hp => h _ _ _ _ (.frz r hp _) (r.frz hp _) (.tup (.of upd_same) (rs.mono (same_upd (r.nofrz hp)) List.prefix_rfl))⟩
  · exact h.elim
end

/-! ### two-place operations -/
/-- by values -/
def opOf (K : PySem.W.Frag) (ct : Ct) (W : WX) (g : Va → Va → Sto → R Va) : R2 := fun x y H Q =>
  ∃ F μ st w1 w2 σ, Rel K ct F μ st H ∧ RV K F μ w1 x ∧ RV K F μ w2 y ∧ GPost K ct W (RV K) σ F μ H Q (g w1 w2 st)
def mBin (g : Va → Va → Sto → R Va) (ma mb : Mx Va) : Mx Va := fun env st => (ma env st).bind fun x st => (mb env st).bind fun y st => g x y st
section
variable {X : Cx} {ct : Ct} {W : WX} {a b : Expr} {ma mb mc : Mx Va} {pos : Pos}
abbrev TE' (X : Cx) (ct : Ct) (W : WX) (m : Mx Va) : TE := TOf X.K ct W (RV X.K) m
theorem PE.mono {X : Cx} {e : Expr} {t t' : TE} (h : PE X e t) (i : ∀ σ H Q, t' σ H Q → t σ H Q) : PE X e t' := ⟨fun pins s σ H Q I q => h.run pins s σ H Q I (i σ H Q q)⟩
theorem PT.mono {X : Cx} {e : Expr} {t t' : TT} (h : PT X e t) (i : ∀ σ H Q, t' σ H Q → t σ H Q) : PT X e t' := ⟨fun pins s σ H Q I q => h.run pins s σ H Q I (i σ H Q q)⟩
theorem tOp_of {g : Va → Va → Sto → R Va} {σ : L2.St} {H : Hp} {Q : VK} (h : TE' X ct W (mBin g ma mb) σ H Q) : tOp (opOf X.K ct W g) (TE' X ct W ma) (TE' X ct W mb) σ H Q := by
  obtain ⟨F, μ, env, st, r, re, p⟩ := h
  refine ⟨F, μ, env, st, r, re, p.bind fun w1 st1 F1 μ1 H1 v1 _ x1 r1 rv1 p1 => ⟨F1, μ1, env, st1, r1, re.mono x1, p1.bind fun w2 st2 F2 μ2 H2 v2 _ x2 r2 rv2 p2 => ?_⟩⟩
  exact ⟨F2, μ2, st2, w1, w2, σ, r2, x2.rv rv1, rv2, p2⟩
theorem sim_bin {op : Operator} {g : Va → Va → Sto → R Va} (ho : OpR X (binaryOp op) (opOf X.K ct W g)) (ha : PE X a (TE' X ct W ma)) (hb : PE X b (TE' X ct W mb)) : PE X (.BinOp a op b pos) (TE' X ct W (mBin g ma mb)) :=
  PE.mono (pe_op ho ha hb) fun _ _ _ => tOp_of
end


/-! ### the kinds of values -/
def intOf : Va → Option Int | .int i => some i | _ => none
def strOf : Va → Option Tx | .str i => some i | _ => none
def blOf : Va → Option Bool | .bl i => some i | _ => none
def tupOf : Va → Option (List Va) | .tup i => some i | _ => none
section
variable {K : PySem.W.Frag} {F : Hp} {μ : List Addr} {x : Va} {v : V}
theorem intOf_ok {i : Int} (r : RV K F μ x v) (h : intOf x = some i) : v = .int i := by cases r <;> cases h; rfl
theorem strOf_ok {i : Tx} (r : RV K F μ x v) (h : strOf x = some i) : v = .str (mkS i) := by cases r <;> cases h; rfl
theorem blOf_ok {i : Bool} (r : RV K F μ x v) (h : blOf x = some i) : v = .bl i := by cases r <;> cases h; rfl
theorem tupOf_ok {l : List Va} (r : RV K F μ x v) (h : tupOf x = some l) : ∃ a vs, v = .ref a ∧ SqT K F a vs ∧ RVs K F μ l vs := by
  cases r <;> cases h
  exact ⟨_, _, rfl, by assumption, by assumption⟩
end

section
variable {X : Cx} {ct : Ct} {W : WX}
def addV (m : Bool) (x y : Va) (st : Sto) : R Va := match intOf x, intOf y with
  | some i, some j => .ok (.int (i + j)) st
  | _, _ => match strOf x, strOf y with
    | some i, some j => if i.length + j.length ≤ sizeLine then .ok (.str (i ++ j)) st else .stuck
    | _, _ => match tupOf x, tupOf y with
      | some a, some b => mkT (a ++ b) st
      | _, _ => match lstOf x st, lstOf y st with
        | some a, some b => mkL m (a ++ b) st
        | _, _ => .stuck
theorem RVs.nil_iff {K : PySem.W.Frag} {F : Hp} {μ : List Addr} {ws : List Va} (r : RVs K F μ ws []) : ws = [] := by cases r; rfl
theorem op_addV (m : Bool) : OpR X (binaryOp .Add) (opOf X.K ct W (addV m)) := by
  intro pins s σ H x y v u Q I rx ry h
  obtain ⟨F, μ, st, w1, w2, σ', r, r1, r2, p⟩ := h
  unfold addV at p
  split at p
  · rename_i i j e1 e2
    obtain rfl := intOf_ok r1 e1
    obtain rfl := intOf_ok r2 e2
    exact op_add pins s σ H _ _ v u Q I rx ry ⟨i, j, rfl, rfl, p.here r (.int _)⟩
  split at p
  · rename_i i j e1 e2
    obtain rfl := strOf_ok r1 e1
    obtain rfl := strOf_ok r2 e2
    split at p
    · rename_i hz
      exact op_add_str pins s σ H _ _ v u Q I rx ry ⟨_, _, rfl, rfl, by rw [mkS_len, mkS_len]; exact hz, by rw [mkS_app]; exact p.here r (.str _)⟩
    · exact p.elim
  split at p
  · rename_i l1 l2 e1 e2
    obtain ⟨a, vs, rfl, h1, s1⟩ := tupOf_ok r1 e1
    obtain ⟨b, ws, rfl, h2, s2⟩ := tupOf_ok r2 e2
    have p' := p
    obtain ⟨hz, q⟩ := mkT_ok r (s1.append s2) p
    refine op_catA pins s σ H _ _ v u Q I rx ry ⟨_, _, _, _, rfl, rfl, Same.tupl r.sub h1, Same.tupl r.sub h2, by rw [← List.length_append]; exact hz, fun e => ?_, fun _ e => ?_, fun _ _ => q⟩
    · subst e
      obtain rfl := s1.nil_iff
      simp only [mkT, List.nil_append] at p'
      split at p'
      · exact p'.here r (.tup h2 s2)
      · exact p'.elim
    · subst e
      obtain rfl := s2.nil_iff
      simp only [mkT, List.append_nil] at p'
      split at p'
      · exact p'.here r (.tup h1 s1)
      · exact p'.elim
  split at p
  · rename_i a b e1 e2
    obtain ⟨l1, vs1, rfl, h1, s1⟩ := lstOf_ok r r1 e1
    obtain ⟨l2, vs2, rfl, h2, s2⟩ := lstOf_ok r r2 e2
    obtain ⟨hz, q⟩ := mkL_ok r (s1.append s2) p
    exact op_cat pins s σ H _ _ v u Q I rx ry ⟨_, _, _, _, rfl, rfl, h1, h2, by rw [← List.length_append]; exact hz, q⟩
  · exact p.elim
/-- two ints, under C -/
def intV (C : Int → Int → Bool) (g : Int → Int → Va) (x y : Va) (st : Sto) : R Va := match intOf x, intOf y with
  | some i, some j => if C i j then .ok (g i j) st else .stuck
  | _, _ => .stuck
theorem op_intV {f : Value → Value → Sem Value} {C : Int → Int → Bool} {P : Int → Int → Prop} {g : Int → Int → Va} {g' : Int → Int → V} (ho : OpR X f (rI P g')) (hC : ∀ i j, C i j = true → P i j) (hg : ∀ F μ i j, RV X.K F μ (g i j) (g' i j)) : OpR X f (opOf X.K ct W (intV C g)) := by
  intro pins s σ H x y v u Q I rx ry h
  obtain ⟨F, μ, st, w1, w2, σ', r, r1, r2, p⟩ := h
  unfold intV at p
  split at p
  · rename_i i j e1 e2
    obtain rfl := intOf_ok r1 e1
    obtain rfl := intOf_ok r2 e2
    split at p
    · rename_i hc
      exact ho pins s σ H _ _ v u Q I rx ry ⟨i, j, rfl, rfl, hC i j hc, p.here r (hg _ _ i j)⟩
    · exact p.elim
  · exact p.elim
def yes : Int → Int → Bool := fun _ _ => true
theorem rI_of {f : Value → Value → Sem Value} {g : Int → Int → V} (h : OpR X f (rI0 g)) : OpR X f (rI (fun _ _ => True) g) := fun pins s σ H x y v u Q I rx ry ⟨i, j, e1, e2, _, q⟩ => h pins s σ H x y v u Q I rx ry ⟨i, j, e1, e2, q⟩
abbrev subV : Va → Va → Sto → R Va := intV yes fun i j => .int (i - j)
theorem op_subV : OpR X (binaryOp .Sub) (opOf X.K ct W subV) := op_intV (rI_of op_sub) (fun _ _ _ => trivial) fun _ _ _ _ => .int _
def small64 (i : Int) : Bool := decide (-(2 ^ 64) < i ∧ i < 2 ^ 64)
def divOk (_ j : Int) : Bool := decide (j ≠ 0 ∧ j.natAbs < 1073741824)
abbrev fdivV : Va → Va → Sto → R Va := intV divOk fun i j => .int (i.fdiv j)
theorem op_fdivV : OpR X (binaryOp .FloorDiv) (opOf X.K ct W fdivV) := op_intV op_fdivN (fun i j h => of_decide_eq_true (p := j ≠ 0 ∧ j.natAbs < 1073741824) h) fun _ _ _ _ => .int _
abbrev modV : Va → Va → Sto → R Va := intV (fun _ j => decide (j ≠ 0)) fun i j => .int (i.fmod j)
theorem op_modV : OpR X (binaryOp .Mod) (opOf X.K ct W modV) := op_intV op_modN (fun _ _ h => of_decide_eq_true h) fun _ _ _ _ => .int _
def powOk (i j : Int) : Bool := decide (0 ≤ j ∧ j ≤ 1000000 ∧ i.natAbs < 2 ^ 64)
abbrev powV : Va → Va → Sto → R Va := intV powOk fun i j => .int (i ^ j.toNat)
theorem op_powV : OpR X (binaryOp .Pow) (opOf X.K ct W powV) := op_intV op_pow (fun i j h => of_decide_eq_true (p := 0 ≤ j ∧ j ≤ 1000000 ∧ i.natAbs < 2 ^ 64) h) fun _ _ _ _ => .int _
end
end G

set_option Elab.async false
set_option linter.all false
set_option maxRecDepth 100000
set_option maxHeartbeats 4000000
/-! != of lists, == of dicts and of lists of dicts, within one model -/
namespace PySem.SeqAt
open AutoSeq1 (wpAny_loadPart')
open MeetsSeq MeetsSeq2 MeetsSeq3 SeqRoads2
section
variable {prog : Program} {w : World}
theorem gq_ne_loop (l b : Addr) (items items2 : Array Value) (n n2 : Nat) (dd dd2 : Option Addr) (sl sl2 : Array (Option Value)) (hsz : items.size = items2.size) (e : Nat → Bool) (k : Nat) :
    ∀ i : Nat, items.size - i = k → MeetsIn prog w (Builtin.«list.__eq__.loop» ⟨[.ref l, .ref b, rawInt i, rawInt 3], []⟩)
      (fun A R s => s.heap.get? l = some { cls := .type "list", dict := dd, data := .seq items n, slots := sl } ∧ s.heap.get? b = some { cls := .type "list", dict := dd2, data := .seq items2 n2, slots := sl2 } ∧
        (∀ j (h1 : j < items.size) (h2 : j < items2.size), EqP prog w A.in1 s items[j] items2[j] (e j)) ∧
        R (.ok (.ret (.bool (!((List.range items.size).drop i).all e)))) s) := by
  induction k with
  | zero =>
    intro i hk A R s h
    obtain ⟨hp, g, d, tk, os⟩ := s; obtain ⟨hl, hb, he, h⟩ := h
    wp_walk using wpAny_loadPart' hl, wpAny_loadPart' hb
    have hi1 : items[((i : Nat) : Int).toNat]? = none := by simp; omega
    have hi2 : items2[((i : Nat) : Int).toNat]? = none := by simp; omega
    have hd : (List.range items.size).drop i = [] := by simp; omega
    rw [hd] at h
    rw [hi1, hi2]
    wp_walk using wpAny_loadPart' hl, wpAny_loadPart' hb
    show R (.ok (.ret (.bool (items.size != items2.size)))) _
    rw [hsz]
    simpa using h
  | succ k ih =>
    intro i hk A R s h
    obtain ⟨hp, g, d, tk, os⟩ := s; obtain ⟨hl, hb, he, h⟩ := h
    wp_walk using wpAny_loadPart' hl, wpAny_loadPart' hb
    have hlt : i < items.size := by omega
    have hlt2 : i < items2.size := by omega
    have hi1 : items[((i : Nat) : Int).toNat]? = some items[i] := by simp [hlt]
    have hi2 : items2[((i : Nat) : Int).toNat]? = some items2[i] := by simp [hlt2]
    have hd : (List.range items.size).drop i = i :: (List.range items.size).drop (i + 1) := by simp [List.drop_eq_getElem_cons, hlt]
    have hc : ((i : Int) + 1) = ((i + 1 : Nat) : Int) := by push_cast; rfl
    rw [hd, List.all_cons] at h
    rw [hi1, hi2]
    refine wpAny_bind (he i hlt hlt2 _ _ ?_)
    cases hb' : e i with
    | true =>
      rw [hb'] at h
      wp_walk
      rw [hc]
      exact ⟨plainId_quiet plain_eq_loop _, codeAny_builtin entry_eq_loop (by
        rw [Around.under_plainId plain_eq_loop _]
        exact ih (i + 1) (by omega) A R _ ⟨hl, hb, he, by simpa using h⟩)⟩
    | false =>
      rw [hb'] at h
      wp_walk using wpAny_loadPart' hl, wpAny_loadPart' hb
      rw [hi1, hi2]
      wp_walk
      simpa using h
theorem gq_list_ne (l b : Addr) (items items2 : Array Value) (n n2 : Nat) (dd dd2 : Option Addr) (sl sl2 : Array (Option Value)) (hsz : items.size = items2.size) (e : Nat → Bool) :
    MeetsIn prog w (Builtin.«list.__ne__» ⟨[.ref l, .ref b], []⟩)
      (fun A R s => s.heap.get? l = some { cls := .type "list", dict := dd, data := .seq items n, slots := sl } ∧ s.heap.get? b = some { cls := .type "list", dict := dd2, data := .seq items2 n2, slots := sl2 } ∧
        (∀ j (h1 : j < items.size) (h2 : j < items2.size), EqP prog w A.in1 s items[j] items2[j] (e j)) ∧
        R (.ok (.ret (.bool (!(List.range items.size).all e)))) s) := by
  intro A R s h
  obtain ⟨hp, g, d, tk, os⟩ := s; obtain ⟨hl, hb, he, h⟩ := h
  have f3 := AutoSeq1.sub_list_list
  have hne : ¬ (items.size != items2.size) = true := by simp [hsz]
  wp_walk using wpAny_loadPart' hl, wpAny_loadPart' hb
  exact ⟨plainId_quiet plain_eq_loop _, codeAny_builtin entry_eq_loop (by
    rw [Around.under_plainId plain_eq_loop _]
    exact gq_ne_loop l b items items2 n n2 dd dd2 sl sl2 hsz e _ 0 rfl A R _ ⟨hl, hb, he, by simpa using h⟩)⟩
theorem gq_lists_ne {A : Around} {s : Shared} {l b : Addr} {items items2 : Array Value} {e : Nat → Bool} (hl : s.heap.IsList l items) (hb : s.heap.IsList b items2) (hsz : items.size = items2.size) (hu : A.units < cLine)
    (he : ∀ j (h1 : j < items.size) (h2 : j < items2.size), EqP prog w A.in1 s items[j] items2[j] (e j)) (E Q : Value → Shared → Prop) (h : Q (.bool (!(List.range items.size).all e)) s) : wpAny (model prog w) A (richCompare .NotEq (.ref l) (.ref b)) Q E s := by
  obtain ⟨⟨cls, dd, data, sl⟩, ho, hc, n, hd⟩ := id hl
  obtain ⟨⟨cls2, dd2, data2, sl2⟩, ho2, hc2, n2, hd2⟩ := id hb
  simp only at hc hd hc2 hd2
  subst hc hd hc2 hd2
  have ta : s.TypeIs (.ref l) "list" := ⟨_, ho, rfl⟩
  have tb : s.TypeIs (.ref b) "list" := ⟨_, ho2, rfl⟩
  exact wpAny_richCompare_same_room (op := .NotEq) ta tb F.slot_list_ne (call_meetsIn F.slot_list_ne ta F.entry_list_ne (F.args_list_ne_2 _ _) (gq_list_ne l b items items2 n n2 dd dd2 sl sl2 hsz e)
    ⟨ho, ho2, he, show Value.bool (!(List.range items.size).all e) ≠ Value.notImplemented ∧ Q (.bool (!(List.range items.size).all e)) s from ⟨(fun x => nomatch x), h⟩⟩) hu
end
end PySem.SeqAt

set_option Elab.async false
set_option linter.all false
set_option maxRecDepth 100000
set_option maxHeartbeats 4000000
namespace G
open PySem PySem.Spec PyProof.Rows L2

/-! ### * -/
theorem foldl_app (l : Array Nat) : ∀ (k : Nat) (acc : Array Nat), ((List.replicate k l).foldl (· ++ ·) acc).toList = acc.toList ++ (List.replicate k l.toList).flatten
  | 0, acc => by simp
  | k + 1, acc => by
    rw [List.replicate_succ, List.foldl_cons, foldl_app l k]
    simp [List.replicate_succ]
theorem op_mulS {X : Cx} : OpR X (binaryOp .Mult) (fun x y H Q => ∃ z n, x = .str (mkS z) ∧ y = .int n ∧ -(2 ^ 63) ≤ n ∧ n < 2 ^ 63 ∧ z.length * n.toNat ≤ sizeLine ∧ Q (.str (mkS (List.replicate n.toNat z).flatten)) H) := by
  intro pins s σ H x y v u Q I rx ry h
  obtain ⟨z, n, rfl, rfl, h1, h2, h3, q⟩ := h
  obtain ⟨t, rfl⟩ := rx
  obtain ⟨t', rfl⟩ := ry
  have hs : sizeLine = 16777216 := sizeLine_eq
  refine PySem.P.mul_str ?_ (fun ha hb => ?_) (fun ha hb => ?_) ?_
  · have e1 : ¬ n < -(2 ^ 63 : Int) := by omega
    have e2 : ¬ n ≥ 2 ^ 63 := by omega
    rw [decide_eq_false e1, decide_eq_false e2]; rfl
  · rw [mkS_len]
    have hz : z.length * n.toNat ≤ 16777216 := by omega
    have hn : 1 ≤ n := by omega
    intro hc
    have hc' : (2 ^ 63 - 1) / n < (z.length : Int) := hc
    have : (2 ^ 63 - 1 : Int) < (z.length : Int) * n := by
      have := Int.lt_mul_of_ediv_lt (by omega : (0:Int) < n) hc'
      exact this
    have e : (z.length : Int) * n = ((z.length * n.toNat : Nat) : Int) := by
      rw [Int.natCast_mul, Int.toNat_of_nonneg (by omega)]
    rw [e] at this
    omega
  · rw [mkS_len]
    show decide (z.length * n.toNat > sizeLine) = false
    exact decide_eq_false (by omega)
  · have fin : (mkS (List.replicate n.toNat z).flatten).length ≤ sizeLine := by
      rw [mkS_len, PyProof.Rows.lm_len_rep_flat, Nat.mul_comm]; exact h3
    split
    · rename_i hn
      have e0 : n.toNat = 0 := by omega
      rw [e0] at q
      exact ⟨by decide, ⟨.str (mkS []), H, I.tok _, ⟨_, rfl⟩, q⟩⟩
    · rename_i hn
      split
      · rename_i hc
        have e : (List.replicate n.toNat z).flatten = z := by
          rcases Bool.or_eq_true _ _ ▸ hc with hc | hc
          · have e1 : n = 1 := by simpa using hc
            subst e1
            simp
          · have e0 : z = [] := by
              have : (mkS z).length = 0 := by simpa using hc
              rw [mkS_len] at this
              exact List.length_eq_zero_iff.mp this
            subst e0
            simp
        rw [e] at q
        exact ⟨.str (mkS z), H, I, ⟨t, rfl⟩, q⟩
      · have e : (⟨(List.replicate n.toNat (mkS z).cps).foldl (· ++ ·) #[]⟩ : Str) = mkS (List.replicate n.toNat z).flatten := by
          apply TL.ext_tl
          show (List.foldl (· ++ ·) #[] (List.replicate n.toNat (mkS z).cps)).toList = _
          rw [foldl_app]
          simp [TL.tl, mkS]
        rw [e]
        exact ⟨fin, ⟨.str _, H, I.tok _, ⟨_, rfl⟩, q⟩⟩

section
variable {X : Cx} {ct : Ct} {W : WX}
def i63 (n : Int) : Bool := decide (-(2 ^ 63) ≤ n ∧ n < 2 ^ 63)
def mulV (m : Bool) (x y : Va) (st : Sto) : R Va := match intOf x, intOf y with
  | some i, some j => if small64 i || small64 j then .ok (.int (i * j)) st else .stuck
  | _, none => .stuck
  | _, some n => match strOf x with
    | some z => if i63 n && decide (z.length * n.toNat ≤ sizeLine) then .ok (.str (List.replicate n.toNat z).flatten) st else .stuck
    | _ => match lstOf x st with
      | some l => if i63 n && decide (l.length * n.toNat ≤ sizeLine) then mkL m (List.replicate n.toNat l).flatten st else .stuck
      | _ => .stuck
theorem op_mulV (m : Bool) : OpR X (binaryOp .Mult) (opOf X.K ct W (mulV m)) := by
  intro pins s σ H x y v u Q I rx ry h
  obtain ⟨F, μ, st, w1, w2, σ', r, r1, r2, p⟩ := h
  unfold mulV at p
  split at p
  · rename_i i j e1 e2
    obtain rfl := intOf_ok r1 e1
    obtain rfl := intOf_ok r2 e2
    split at p
    · rename_i hc
      refine op_mul pins s σ H _ _ v u Q I rx ry ⟨i, j, rfl, rfl, ?_, p.here r (.int _)⟩
      rcases Bool.or_eq_true _ _ ▸ hc with hc | hc
      · exact .inl (of_decide_eq_true hc)
      · exact .inr (of_decide_eq_true hc)
    · exact p.elim
  · exact p.elim
  · rename_i n e1 e2
    obtain rfl := intOf_ok r2 e1
    split at p
    · rename_i z ez
      obtain rfl := strOf_ok r1 ez
      split at p
      · rename_i hc
        rw [Bool.and_eq_true] at hc
        obtain ⟨h1, h2⟩ := (of_decide_eq_true hc.1 : -(2 ^ 63) ≤ n ∧ n < 2 ^ 63)
        exact op_mulS pins s σ H _ _ v u Q I rx ry ⟨z, n, rfl, rfl, h1, h2, of_decide_eq_true hc.2, p.here r (.str _)⟩
      · exact p.elim
    split at p
    · rename_i l el
      obtain ⟨a, vs, rfl, h1, s1⟩ := lstOf_ok r r1 el
      split at p
      · rename_i hc
        rw [Bool.and_eq_true] at hc
        obtain ⟨h2, h3⟩ := (of_decide_eq_true hc.1 : -(2 ^ 63) ≤ n ∧ n < 2 ^ 63)
        obtain ⟨hz, q⟩ := mkL_ok r (s1.rep n.toNat) p
        exact op_rep pins s σ H _ _ v u Q I rx ry ⟨_, n, _, rfl, rfl, h1, h2, h3, by rw [← s1.length]; exact of_decide_eq_true hc.2, q⟩
      · exact p.elim
    · exact p.elim

/-! ### ==, !=, in -/
def mapO {α β : Type} (f : α → Option β) : List α → Option (List β)
  | [] => some []
  | x :: r => match f x, mapO f r with
    | some y, some ys => some (y :: ys)
    | _, _ => none
/-- a value as data -/
def pd : Nat → Sto → Va → Option PyData
  | _, _, .non => some .none
  | _, _, .bl b => some (.bool b)
  | _, _, .int i => some (.int i)
  | _, _, .str x => some (.str (mkS x))
  | n + 1, st, .tup l => (mapO (pd n st) l).map .tuple
  | n + 1, st, .scr l => (mapO (pd n st) l).map .list
  | n + 1, st, .lst l => (mapO (pd n st) l).map .list
  | n + 1, st, .ref p => match st[p]? with
    | some (some (.lst l)) => (mapO (pd n st) l).map .list
    | _ => none
  | _, _, _ => none
theorem map_some {α β : Type} {f : α → β} {o : Option α} {y : β} (h : o.map f = some y) : ∃ x, o = some x ∧ f x = y := by
  cases o with
  | none => cases h
  | some x => exact ⟨x, rfl, Option.some.inj h⟩
section
variable {K : PySem.W.Frag} {F : Hp} {μ : List Addr} {H : Hp} {st : Sto}
theorem pd_all {n : Nat} (r : Rel K ct F μ st H) (ih : ∀ {x : Va} {v : V} {d : PyData}, RV K F μ x v → pd n st x = some d → Dp K H v d ∧ d.plain = true ∧ d.depth ≤ n) :
    ∀ {l : List Va} {vs : List V} {ds : List PyData}, RVs K F μ l vs → mapO (pd n st) l = some ds → DpAll K H vs ds ∧ PyData.plainAll ds = true ∧ PyData.depthAll ds ≤ n
  | _, _, _, .nil, h => by cases h; exact ⟨.nil, rfl, Nat.zero_le _⟩
  | _, _, _, .cons r1 t, h => by
    unfold mapO at h
    split at h
    · rename_i y ys e1 e2
      cases h
      obtain ⟨a1, a2, a3⟩ := ih r1 e1
      obtain ⟨b1, b2, b3⟩ := pd_all r ih t e2
      exact ⟨.cons a1 b1, by simp [PyData.plainAll, a2, b2], Nat.max_le.mpr ⟨a3, b3⟩⟩
    · cases h
theorem pd_ok : ∀ (n : Nat) {x : Va} {v : V} {d : PyData}, Rel K ct F μ st H → RV K F μ x v → pd n st x = some d → Dp K H v d ∧ d.plain = true ∧ d.depth ≤ n
  | n, _, _, _, r, .non, h => by cases n <;> (cases h; exact ⟨.non, rfl, Nat.zero_le _⟩)
  | n, _, _, _, r, .bl b, h => by cases n <;> (cases h; exact ⟨.bl b, rfl, Nat.zero_le _⟩)
  | n, _, _, _, r, .int b, h => by cases n <;> (cases h; exact ⟨.int b, rfl, Nat.zero_le _⟩)
  | n, _, _, _, r, .str b, h => by cases n <;> (cases h; exact ⟨.str _, rfl, Nat.zero_le _⟩)
  | 0, _, _, _, r, .tup _ _, h => by cases h
  | 0, _, _, _, r, .lst _ _, h => by cases h
  | 0, _, _, _, r, .scr _ _, h => by cases h
  | 0, _, _, _, r, .ref _, h => by cases h
  | 0, _, _, _, r, .dic _ _ _, h => by cases h
  | n + 1, _, _, _, r, .dic _ _ _, h => by cases h
  | n + 1, _, _, _, r, .tup hs rs, h => by
    obtain ⟨ds, e, rfl⟩ := map_some h
    obtain ⟨a, b, c⟩ := pd_all r (pd_ok n r) rs e
    exact ⟨.tup (Same.tupl r.sub hs) a, b, by simp only [PyData.depth]; omega⟩
  | n + 1, _, _, _, r, .lst hs rs, h => by
    obtain ⟨ds, e, rfl⟩ := map_some h
    obtain ⟨a, b, c⟩ := pd_all r (pd_ok n r) rs e
    exact ⟨.lst (.of (r.sub _ _ hs)) a, b, by simp only [PyData.depth]; omega⟩
  | n + 1, _, _, _, r, .scr hs rs, h => by
    obtain ⟨ds, e, rfl⟩ := map_some h
    obtain ⟨a, b, c⟩ := pd_all r (pd_ok n r) rs e
    exact ⟨.lst (L2.Same.seq r.sub hs) a, b, by simp only [PyData.depth]; omega⟩
  | n + 1, _, _, _, r, .ref hp, h => by
    unfold pd at h
    split at h
    · rename_i l e
      obtain ⟨ds, e', rfl⟩ := map_some h
      cases r.obj _ _ _ e hp with
      | lst h1 h2 =>
        obtain ⟨a, b, c⟩ := pd_all r (pd_ok n r) h2 e'
        exact ⟨.lst (.of h1) a, b, by simp only [PyData.depth]; omega⟩
    · cases h
end
/-- two ints compared -/
def cmpV (g : Int → Int → Bool) : Va → Va → Sto → R Va := intV yes fun i j => .bl (g i j)
theorem op_ltV : OpR X (compareOp .Lt) (opOf X.K ct W (cmpV fun i j => decide (i < j))) := op_intV (rI_of op_lt) (fun _ _ _ => trivial) fun _ _ _ _ => .bl _
theorem op_leV : OpR X (compareOp .LtE) (opOf X.K ct W (cmpV fun i j => decide (i ≤ j))) := op_intV (rI_of op_le) (fun _ _ _ => trivial) fun _ _ _ _ => .bl _
theorem op_gtV : OpR X (compareOp .Gt) (opOf X.K ct W (cmpV fun i j => decide (j < i))) := op_intV (rI_of op_gt) (fun _ _ _ => trivial) fun _ _ _ _ => .bl _
theorem op_geV : OpR X (compareOp .GtE) (opOf X.K ct W (cmpV fun i j => decide (j ≤ i))) := op_intV (rI_of op_ge) (fun _ _ _ => trivial) fun _ _ _ _ => .bl _

def kyOf : Va → Option Ky
  | .int i => some (.inl i)
  | .str x => some (.inr x)
  | _ => none
theorem kyOf_ok {K : PySem.W.Frag} {F : Hp} {μ : List Addr} {x : Va} {v : V} {k : Ky} (r : RV K F μ x v) (h : kyOf x = some k) : v = kV (kyK k) := by
  cases r <;> cases h <;> rfl
/-- the value at a key -/
def atKy : List Ky → List Va → Ky → Option Va
  | k :: ks, w :: ws, j => if k = j then some w else atKy ks ws j
  | _, _, _ => none
theorem atKy_ok {K : PySem.W.Frag} {F : Hp} {μ : List Addr} (j : Ky) : ∀ {ks : List Ky} {ws : List Va} {kvs : List (Key × V)}, kvs.map (·.1) = ks.map kyK → RVs K F μ ws (kvs.map (·.2)) →
    (∀ w, atKy ks ws j = some w → ∃ v, valV kvs (kyK j) = some v ∧ RV K F μ w v) ∧ (atKy ks ws j = none → valV kvs (kyK j) = none)
  | [], _, [], _, _ => ⟨fun _ h => (by simp [atKy] at h), fun _ => rfl⟩
  | [], _, p :: kvs, h, _ => by simp at h
  | k :: ks, _, [], h, _ => by simp at h
  | k :: ks, w :: ws, (a, b) :: kvs, h, r => by
    simp only [List.map_cons, List.cons.injEq] at h
    cases r with
    | cons r1 t =>
      have ih := atKy_ok j h.2 t
      unfold atKy
      by_cases e : k = j
      · rw [if_pos e, valV_pos (p := (a, b)) (show a = kyK j by rw [h.1, e])]
        exact ⟨fun w' hw => ⟨b, rfl, by cases hw; exact r1⟩, fun z => nomatch z⟩
      · rw [if_neg e, valV_neg (p := (a, b)) (fun z => e (kyK_inj (h.1.symm.trans z)))]
        exact ih
/-! dicts compared: their values are data; lists of such -/
def pdE (st : Sto) (x y : Va) : Option Bool := match pd 40 st x, pd 40 st y with
  | some d, some e => some (PyData.eqv d e)
  | _, _ => none
def dicAll (st : Sto) (js : List Ky) (rs : List Va) : List Ky → List Va → Option Bool
  | k :: ks, w :: ws => match atKy js rs k with
    | none => some false
    | some w' => match pdE st w w', dicAll st js rs ks ws with
      | some b, some c => some (b && c)
      | _, _ => none
  | _, _ => some true
def eqDic (st : Sto) (x y : Va) : Option Bool := match dicOf x st, dicOf y st with
  | some (ks, l), some (js, r) => if ks.length = js.length then dicAll st js r ks l else some false
  | _, _ => none
/-- things that cannot be one and the same -/
def apart : Va → Va → Bool
  | .ref p, .ref q => p != q
  | .ref _, .dic _ _ => true
  | .dic _ _, .ref _ => true
  | _, _ => false
def eq1 (st : Sto) (x y : Va) : Option Bool := match pdE st x y with
  | some b => some b
  | none => if apart x y then eqDic st x y else none
def eqZip (st : Sto) : List Va → List Va → Option (List Bool)
  | [], [] => some []
  | x :: l, y :: r => match eq1 st x y, eqZip st l r with
    | some b, some c => some (b :: c)
    | _, _ => none
  | _, _ => none
def eq2 (st : Sto) (x y : Va) : Option Bool := match eqDic st x y with
  | some b => some b
  | none => match lstOf x st, lstOf y st with
    | some l, some r => (eqZip st l r).map fun bs => bs.all id
    | _, _ => none
section
variable {X : Cx} {ct : Ct} {W : WX} {pins : List (Addr × Obj)} {σ : L2.St} {F : Hp} {μ : List Addr} {H : Hp} {st : Sto} {s : Shared} {A : Around}
theorem pdE_ok {x y : Va} {v u : V} {a b : Value} {r : Bool} (I : L2.Inv X pins σ H s) (rel : Rel X.K ct F μ st H) (r1 : RV X.K F μ x v) (r2 : RV X.K F μ y u) (ra : RelV v a) (rb : RelV u b) (hu : A.units + 41 < cLine) (h : pdE st x y = some r) : SeqAt.EqAt A s a b r := by
  unfold pdE at h
  split at h
  · rename_i d e e1 e2
    cases h
    obtain ⟨a1, a2, a3⟩ := pd_ok 40 rel r1 e1
    obtain ⟨b1, b2, b3⟩ := pd_ok 40 rel r2 e2
    obtain ⟨as, q1⟩ := Dp.reads I d _ a a1 ra
    obtain ⟨bs, q2⟩ := Dp.reads I e _ b b1 rb
    exact SeqAt.eqAt_plain d e A s a b as bs q1 q2 a2 b2 (by have := Nat.min_le_left d.depth e.depth; omega)
  · cases h
theorem dicAll_ok {js : List Ky} {rs : List Va} {kvs2 : List (Key × V)} {vs2 : List (Key × Value)} (I : L2.Inv X pins σ H s) (rel : Rel X.K ct F μ st H) (k2 : kvs2.map (·.1) = js.map kyK) (rr : RVs X.K F μ rs (kvs2.map (·.2))) (q2 : KV kvs2 vs2) (hu : A.units + 41 < cLine) :
    ∀ {ks : List Ky} {ws : List Va} {kvs : List (Key × V)} {vs : List (Key × Value)} {r : Bool}, kvs.map (·.1) = ks.map kyK → RVs X.K F μ ws (kvs.map (·.2)) → KV kvs vs → dicAll st js rs ks ws = some r → PySem.W.KeqHits A s vs2 vs r
  | [], ws, kvs, vs, r, h1, h2, h3, h => by
    have : kvs = [] := by simpa using h1
    subst this
    cases h3
    cases h2
    cases h
    exact .nil
  | k :: ks, ws, [], vs, r, h1, _, _, _ => by simp at h1
  | k :: ks, [], p :: kvs, vs, r, h1, h2, _, _ => by cases h2
  | k :: ks, w :: ws, (kk, v) :: kvs, vs, r, h1, h2, h3, h => by
    simp only [List.map_cons, List.cons.injEq] at h1
    obtain ⟨rfl, h1⟩ := h1
    cases h2 with
    | cons rw rt =>
    cases h3 with
    | @cons _ pv _ vs' rp rq =>
      obtain ⟨k', a⟩ := pv
      obtain ⟨e1, e2⟩ := rp
      simp only at e1 e2
      subst e1
      unfold dicAll at h
      cases ea : atKy js rs k with
      | none =>
        rw [ea] at h
        cases h
        refine .miss ?_
        have := (atKy_ok k k2 rr).2 ea
        have q := q2.val (kyK k)
        rw [this] at q
        cases hv : valueAt vs2 (kyK k) with
        | none => rfl
        | some y => rw [hv] at q; exact q.elim
      | some w' =>
        rw [ea] at h
        simp only at h
        obtain ⟨v', hv', rv'⟩ := (atKy_ok k k2 rr).1 w' ea
        have q := q2.val (kyK k)
        rw [hv'] at q
        cases hv : valueAt vs2 (kyK k) with
        | none => rw [hv] at q; exact q.elim
        | some y =>
          rw [hv] at q
          split at h
          · rename_i b c eb ec
            cases h
            exact .hit hv (pdE_ok I rel rw rv' e2 q hu eb) (dicAll_ok I rel k2 rr q2 hu h1 rt rq ec)
          · cases h
/-- two dicts, as they lie -/
theorem eqDic_ok {x y : Va} {v u : V} {r : Bool} (I : L2.Inv X pins σ H s) (rel : Rel X.K ct F μ st H) (r1 : RV X.K F μ x v) (r2 : RV X.K F μ y u) (hu : A.units + 41 < cLine) (h : eqDic st x y = some r) :
    ∃ a b va vb r', v = .ref a ∧ u = .ref b ∧ (a == sysModules) = false ∧ (b == sysModules) = false ∧ s.heap.DictOf (mixKind X.prog X.w) a va ∧ s.heap.DictOf (mixKind X.prog X.w) b vb ∧ (va.length = vb.length → PySem.W.KeqHits A s vb va r') ∧ (va.length == vb.length && r') = r := by
  unfold eqDic at h
  split at h
  · rename_i ks l js rs e1 e2
    obtain ⟨a, kvs, rfl, g1, g2, g3⟩ := dicOf_ok rel r1 e1
    obtain ⟨b, kvs2, rfl, f1, f2, f3⟩ := dicOf_ok rel r2 e2
    obtain ⟨_, ya, va, ra, da⟩ := (show ObjOk X.prog X.w H s.heap a (.dK kvs) from I.hok a _ g1)
    obtain ⟨_, yb, vb, rb, db⟩ := (show ObjOk X.prog X.w H s.heap b (.dK kvs2) from I.hok b _ f1)
    have la : va.length = ks.length := by
      rw [← ra.length]
      have := congrArg List.length g2
      simpa using this
    have lb : vb.length = js.length := by
      rw [← rb.length]
      have := congrArg List.length f2
      simpa using this
    split at h
    · rename_i hl
      exact ⟨a, b, va, vb, r, rfl, rfl, ya, yb, da, db, fun _ => dicAll_ok I rel f2 f3 rb hu g2 g3 ra h, by rw [la, lb, hl]; simp⟩
    · rename_i hl
      cases h
      refine ⟨a, b, va, vb, true, rfl, rfl, ya, yb, da, db, fun z => absurd (by rw [← la, ← lb]; exact z) hl, ?_⟩
      rw [la, lb]
      simpa using hl
  · cases h
theorem hitsP {prog : Program} {w : World} {vb : List (Key × Value)} : ∀ {va : List (Key × Value)} {r : Bool}, PySem.W.KeqHits A s vb va r → PySem.W.KeqHitsP prog w A s vb va r
  | _, _, .nil => .nil
  | _, _, .miss h => .miss h
  | _, _, .hit h e r => .hit h e.eqP (hitsP r)
theorem apart_ne {x y : Va} {a b : Addr} (rel : Rel X.K ct F μ st H) (r1 : RV X.K F μ x (.ref a)) (r2 : RV X.K F μ y (.ref b)) (hx : (dicOf x st).isSome = true) (hy : (dicOf y st).isSome = true) (h : apart x y = true) : a ≠ b := by
  have live : ∀ {p : Nat}, (dicOf (.ref p) st).isSome = true → ∃ o, st[p]? = some (some o) := fun {p} h => by
    unfold dicOf at h
    simp only at h
    split at h
    · rename_i k l e
      exact ⟨_, e⟩
    · cases h
  intro z
  subst z
  cases r1 with
  | @ref p _ hp =>
    cases r2 with
    | @ref q _ hq =>
      obtain ⟨o, ho⟩ := live hx
      obtain ⟨o', ho'⟩ := live hy
      have := rel.inj _ _ _ _ _ ho ho' hp hq
      subst this
      simp [apart] at h
    | dic hf _ _ =>
      obtain ⟨o, ho⟩ := live hx
      have := rel.dis _ _ _ ho hp
      rw [this] at hf
      cases hf
    | _ => simp [apart] at h
  | dic hf _ _ =>
    cases r2 with
    | @ref q _ hq =>
      obtain ⟨o, ho⟩ := live hy
      have := rel.dis _ _ _ ho hq
      rw [this] at hf
      cases hf
    | _ => simp [apart] at h
  | _ => simp [apart] at h
theorem eq1_ok {x y : Va} {v u : V} {a b : Value} {r : Bool} (I : L2.Inv X pins σ H s) (rel : Rel X.K ct F μ st H) (r1 : RV X.K F μ x v) (r2 : RV X.K F μ y u) (ra : RelV v a) (rb : RelV u b) (hu : A.units + 42 < cLine) (h : eq1 st x y = some r) : SeqAt.EqP X.prog X.w A s a b r := by
  unfold eq1 at h
  split at h
  · rename_i b' e
    cases h
    exact (pdE_ok I rel r1 r2 ra rb (by omega) e).eqP
  · split at h
    · rename_i hap
      have hd : (dicOf x st).isSome = true ∧ (dicOf y st).isSome = true := by
        unfold eqDic at h
        split at h
        · rename_i e1 e2
          exact ⟨by rw [e1]; rfl, by rw [e2]; rfl⟩
        · cases h
      obtain ⟨p, q, va, vb, r', rfl, rfl, ya, yb, da, db, hh, er⟩ := eqDic_ok (A := A.in1) I rel r1 r2 (by show A.units + 1 + 41 < cLine; omega) h
      have hne := apart_ne rel r1 r2 hd.1 hd.2 hap
      obtain rfl : a = Value.ref p := ra
      obtain rfl : b = Value.ref q := rb
      refine SeqAt.eqP_refs hne fun E Q hq => PySem.W.rcP_dicts ya yb da db (by omega) (fun z => hitsP (hh z)) E Q ?_
      rw [er]
      exact hq
    · cases h
theorem eqZip_ok (I : L2.Inv X pins σ H s) (rel : Rel X.K ct F μ st H) (hu : A.units + 42 < cLine) : ∀ {l r : List Va} {vs us : List V} {as bs : List Value} {bl : List Bool}, RVs X.K F μ l vs → RVs X.K F μ r us → Vals vs as → Vals us bs → eqZip st l r = some bl →
    as.length = bs.length ∧ bl.length = as.length ∧ ∀ (j : Nat) (h1 : j < as.length) (h2 : j < bs.length), SeqAt.EqP X.prog X.w A s as[j] bs[j] (bl.getD j true)
  | [], [], _, _, _, _, bl, .nil, .nil, h3, h4, h => by
    cases h3
    cases h4
    cases h
    exact ⟨rfl, rfl, fun j h1 => absurd h1 (Nat.not_lt_zero _)⟩
  | x :: l, y :: r, _, _, _, _, bl, .cons r1 t1, .cons r2 t2, h3, h4, h => by
    cases h3 with
    | cons a1 s1 =>
    cases h4 with
    | cons b1 s2 =>
    unfold eqZip at h
    split at h
    · rename_i b c eb ec
      cases h
      obtain ⟨i1, i2, i3⟩ := eqZip_ok I rel hu t1 t2 s1 s2 ec
      refine ⟨by simp [i1], by simp [i2], fun j h1 h2 => ?_⟩
      cases j with
      | zero => exact eq1_ok I rel r1 r2 a1 b1 hu eb
      | succ j => exact i3 j (by simpa using h1) (by simpa using h2)
    · cases h
  | [], _ :: _, _, _, _, _, _, _, _, _, _, h => by simp [eqZip] at h
  | _ :: _, [], _, _, _, _, _, _, _, _, _, h => by simp [eqZip] at h
theorem all_getD {bl : List Bool} {n : Nat} (h : bl.length = n) : (List.range n).all (fun j => bl.getD j true) = bl.all id := by
  subst h
  rw [Bool.eq_iff_iff, List.all_eq_true, List.all_eq_true]
  constructor
  · intro h b hb
    obtain ⟨j, hj, e⟩ := List.getElem_of_mem hb
    have := h j (List.mem_range.mpr hj)
    rw [List.getD_eq_getElem?_getD, List.getElem?_eq_getElem hj, e] at this
    exact this
  · intro h j hj
    have hj := List.mem_range.mp hj
    rw [List.getD_eq_getElem?_getD, List.getElem?_eq_getElem hj]
    exact h _ (List.getElem_mem hj)
theorem eq2_ok {neg : Bool} {x y : Va} {v u : V} {a b : Value} {r : Bool} {Q : Value → Shared → Prop} {E : Value → Shared → Prop} (I : L2.Inv X pins σ H s) (rel : Rel X.K ct F μ st H) (r1 : RV X.K F μ x v) (r2 : RV X.K F μ y u) (ra : RelV v a) (rb : RelV u b) (hu : A.units + 64 < cLine) (h : eq2 st x y = some r) (q : Q (.bool (if neg then !r else r)) s) :
    wpAny (model X.prog X.w) A (compareOp (if neg then .NotEq else .Eq) a b) Q E s := by
  unfold eq2 at h
  split at h
  · rename_i r0 e
    cases h
    obtain ⟨p, q', va, vb, r', rfl, rfl, ya, yb, da, db, hh, er⟩ := eqDic_ok (A := A.in1) I rel r1 r2 (by show A.units + 1 + 41 < cLine; omega) e
    obtain rfl : a = Value.ref p := ra
    obtain rfl : b = Value.ref q' := rb
    cases neg with
    | false => exact PySem.W.keq_eq ya yb da db (by omega) hh (by rw [er]; exact q)
    | true => exact PySem.W.keq_ne ya yb da db (by omega) hh (by rw [er]; exact q)
  · split at h
    · rename_i l rr e1 e2
      obtain ⟨bl, ez, rfl⟩ := map_some h
      obtain ⟨p, vs, rfl, g1, g2⟩ := lstOf_ok rel r1 e1
      obtain ⟨q', us, rfl, f1, f2⟩ := lstOf_ok rel r2 e2
      obtain ⟨its, rv, pl, hz⟩ := I.list (.of g1)
      obtain ⟨its2, rv2, pl2, hz2⟩ := I.list (.of f1)
      obtain ⟨i1, i2, i3⟩ := eqZip_ok (A := A.in1) I rel (by show A.units + 1 + 42 < cLine; omega) g2 f2 rv rv2 ez
      obtain rfl : a = Value.ref p := ra
      obtain rfl : b = Value.ref q' := rb
      have hs : its.toArray.size = its2.toArray.size := by simpa using i1
      have he : ∀ (j : Nat) (h1 : j < its.toArray.size) (h2 : j < its2.toArray.size), SeqAt.EqP X.prog X.w A.in1 s its.toArray[j] its2.toArray[j] (bl.getD j true) := fun j h1 h2 => by
        have := i3 j (by simpa using h1) (by simpa using h2)
        simpa using this
      have ha : (List.range its.toArray.size).all (fun j => bl.getD j true) = bl.all id := all_getD (by simpa using i2)
      cases neg with
      | false =>
        refine SeqAt.rcP_lists pl.isList pl2.isList hs (by omega) he E Q ?_
        rw [ha]
        exact q
      | true =>
        refine SeqAt.gq_lists_ne pl.isList pl2.isList hs (by omega) he E Q ?_
        rw [ha]
        exact q
    · cases h
end
def eqV (neg : Bool) (x y : Va) (st : Sto) : R Va := match pd 40 st x, pd 40 st y with
  | some d, some e => .ok (.bl (if neg then !PyData.eqv d e else PyData.eqv d e)) st
  | _, _ => match eq2 st x y with
    | some b => .ok (.bl (if neg then !b else b)) st
    | none => .stuck
theorem op_eqV' (hu : X.A.units + 64 < cLine) : OpR X (compareOp .Eq) (opOf X.K ct W (eqV false)) := by
  intro pins s σ H x y v u Q I rx ry h
  obtain ⟨F, μ, st, w1, w2, σ', r, r1, r2, p⟩ := h
  unfold eqV at p
  split at p
  · rename_i d e e1 e2
    obtain ⟨a1, a2, a3⟩ := pd_ok 40 r r1 e1
    obtain ⟨b1, b2, b3⟩ := pd_ok 40 r r2 e2
    obtain ⟨as, q1⟩ := Dp.reads I d _ v a1 rx
    obtain ⟨bs, q2⟩ := Dp.reads I e _ u b1 ry
    exact SeqAt.eq_plain q1 q2 a2 b2 (by have := Nat.min_le_left d.depth e.depth; omega) ⟨.bl _, H, I, rfl, p.here r (.bl _)⟩
  · split at p
    · rename_i b e
      exact eq2_ok (neg := false) I r r1 r2 rx ry hu e ⟨.bl _, H, I, rfl, p.here r (.bl _)⟩
    · exact p.elim
theorem op_neV' (hu : X.A.units + 64 < cLine) : OpR X (compareOp .NotEq) (opOf X.K ct W (eqV true)) := by
  intro pins s σ H x y v u Q I rx ry h
  obtain ⟨F, μ, st, w1, w2, σ', r, r1, r2, p⟩ := h
  unfold eqV at p
  split at p
  · rename_i d e e1 e2
    obtain ⟨a1, a2, a3⟩ := pd_ok 40 r r1 e1
    obtain ⟨b1, b2, b3⟩ := pd_ok 40 r r2 e2
    obtain ⟨as, q1⟩ := Dp.reads I d _ v a1 rx
    obtain ⟨bs, q2⟩ := Dp.reads I e _ u b1 ry
    exact SeqAt.ne_plain q1 q2 a2 b2 (by have := Nat.min_le_left d.depth e.depth; omega) ⟨.bl _, H, I, rfl, p.here r (.bl _)⟩
  · split at p
    · rename_i b e
      exact eq2_ok (neg := true) I r r1 r2 rx ry hu e ⟨.bl _, H, I, rfl, p.here r (.bl _)⟩
    · exact p.elim
def inV' (neg : Bool) (x y : Va) (st : Sto) : R Va :=
  let ans (b : Bool) : R Va := .ok (.bl (if neg then !b else b)) st
  match strOf y with
  | some z => match strOf x with
    | some [c] => ans (decide (c ∈ z))
    | _ => .stuck
  | none => match dicOf y st with
    | some (ks, ws) => match kyOf x with
      | some k => ans (atKy ks ws k).isSome
      | none => .stuck
    | none => match pd 40 st x, pd 40 st y with
      | some d, some (.list ds) => ans (ds.any fun z => PyData.eqv z d)
      | some d, some (.tuple ds) => ans (ds.any fun z => PyData.eqv z d)
      | _, _ => .stuck
theorem op_inV (hu : X.A.units + 64 < cLine) : OpR X (compareOp .In) (opOf X.K ct W (inV' false)) := by
  intro pins s σ H x y v u Q I rx ry h
  obtain ⟨F, μ, st, w1, w2, σ', r, r1, r2, p⟩ := h
  unfold inV' at p
  simp only [Bool.false_eq_true, if_false] at p
  split at p
  · rename_i z ez
    obtain rfl := strOf_ok r2 ez
    split at p
    · rename_i c ec
      obtain rfl := strOf_ok r1 ec
      refine op_in_sign pins s σ H _ _ v u Q I rx ry ⟨c, mkS z, rfl, rfl, ?_⟩
      rw [tl_mkS]
      exact p.here r (.bl _)
    · exact p.elim
  split at p
  · rename_i ks ws ed
    obtain ⟨a, kvs, rfl, h1, h2, h3⟩ := dicOf_ok r r2 ed
    split at p
    · rename_i k ek
      obtain rfl := kyOf_ok r1 ek
      obtain rfl : u = Value.ref a := ry
      refine d_in (by omega) I (.k h1) rx fun s' I' => ⟨.bl _, H, I', rfl, ?_⟩
      have q := p.here r (.bl _)
      obtain ⟨g1, g2⟩ := atKy_ok k h2 h3
      cases e : atKy ks ws k with
      | none => rw [e] at q; rw [g2 e]; exact q
      | some w => obtain ⟨v', e', _⟩ := g1 w e; rw [e] at q; rw [e']; exact q
    · exact p.elim
  split at p
  · rename_i d ds e1 e2
    obtain ⟨a1, a2, a3⟩ := pd_ok 40 r r1 e1
    obtain ⟨b1, b2, b3⟩ := pd_ok 40 r r2 e2
    obtain ⟨as, q1⟩ := Dp.reads I d _ v a1 rx
    obtain ⟨bs, q2⟩ := Dp.reads I _ _ u b1 ry
    refine SeqAt.in_list_data q2 q1 b2 a2 ?_ ⟨.bl _, H, I, rfl, p.here r (.bl _)⟩
    have := Nat.min_le_right (PyData.depthAll ds) d.depth
    omega
  · rename_i d ds e1 e2
    obtain ⟨a1, a2, a3⟩ := pd_ok 40 r r1 e1
    obtain ⟨b1, b2, b3⟩ := pd_ok 40 r r2 e2
    obtain ⟨as, q1⟩ := Dp.reads I d _ v a1 rx
    obtain ⟨bs, q2⟩ := Dp.reads I _ _ u b1 ry
    refine SeqAt.in_tuple_data q2 q1 b2 a2 ?_ ⟨.bl _, H, I, rfl, p.here r (.bl _)⟩
    have := Nat.min_le_right (PyData.depthAll ds) d.depth
    omega
  · exact p.elim
theorem op_notInV (hu : X.A.units + 64 < cLine) : OpR X (compareOp .NotIn) (opOf X.K ct W (inV' true)) := by
  intro pins s σ H x y v u Q I rx ry h
  obtain ⟨F, μ, st, w1, w2, σ', r, r1, r2, p⟩ := h
  unfold inV' at p
  simp only [if_true] at p
  split at p
  · rename_i z ez
    obtain rfl := strOf_ok r2 ez
    split at p
    · rename_i c ec
      obtain rfl := strOf_ok r1 ec
      refine op_notIn_sign pins s σ H _ _ v u Q I rx ry ⟨c, mkS z, rfl, rfl, ?_⟩
      rw [tl_mkS]
      exact p.here r (.bl _)
    · exact p.elim
  split at p
  · rename_i ks ws ed
    obtain ⟨a, kvs, rfl, h1, h2, h3⟩ := dicOf_ok r r2 ed
    split at p
    · rename_i k ek
      obtain rfl := kyOf_ok r1 ek
      obtain rfl : u = Value.ref a := ry
      refine d_notIn (by omega) I (.k h1) rx fun s' I' => ⟨.bl _, H, I', rfl, ?_⟩
      have q := p.here r (.bl _)
      obtain ⟨g1, g2⟩ := atKy_ok k h2 h3
      cases e : atKy ks ws k with
      | none => rw [e] at q; rw [g2 e]; exact q
      | some w => obtain ⟨v', e', _⟩ := g1 w e; rw [e] at q; rw [e']; exact q
    · exact p.elim
  split at p
  · rename_i d ds e1 e2
    obtain ⟨a1, a2, a3⟩ := pd_ok 40 r r1 e1
    obtain ⟨b1, b2, b3⟩ := pd_ok 40 r r2 e2
    obtain ⟨as, q1⟩ := Dp.reads I d _ v a1 rx
    obtain ⟨bs, q2⟩ := Dp.reads I _ _ u b1 ry
    refine SeqAt.notIn_list_data q2 q1 b2 a2 ?_ ⟨.bl _, H, I, rfl, p.here r (.bl _)⟩
    have := Nat.min_le_right (PyData.depthAll ds) d.depth
    omega
  · rename_i d ds e1 e2
    obtain ⟨a1, a2, a3⟩ := pd_ok 40 r r1 e1
    obtain ⟨b1, b2, b3⟩ := pd_ok 40 r r2 e2
    obtain ⟨as, q1⟩ := Dp.reads I d _ v a1 rx
    obtain ⟨bs, q2⟩ := Dp.reads I _ _ u b1 ry
    refine SeqAt.notIn_tuple_data q2 q1 b2 a2 ?_ ⟨.bl _, H, I, rfl, p.here r (.bl _)⟩
    have := Nat.min_le_right (PyData.depthAll ds) d.depth
    omega
  · exact p.elim
end
end G

set_option Elab.async false
set_option linter.all false
set_option maxRecDepth 100000
set_option maxHeartbeats 4000000
namespace G
open PySem PySem.Spec PyProof.Rows L2

/-! ### one sequence's item -/
theorem RVs.atI {K : PySem.W.Frag} {F : Hp} {μ : List Addr} {ws : List Va} {vs : List V} {i : Int} {w : Va} (r : RVs K F μ ws vs) (h : L2.atI ws i = some w) : ∃ v, L2.atI vs i = some v ∧ RV K F μ w v := by
  unfold L2.atI at h ⊢
  rw [← r.length]
  cases e : ixN ws.length i with
  | none => rw [e] at h; cases h
  | some j =>
    rw [e] at h
    exact r.get h
def ixV (x y : Va) (st : Sto) : R Va := match dicOf x st with
  | some (ks, ws) => match kyOf y with
    | some k => match atKy ks ws k with
      | some w => .ok w st
      | none => .stuck
    | none => .stuck
  | none => match intOf y with
    | none => .stuck
    | some i => match strOf x with
      | some z => match L2.atI z i with
        | some c => if z.length ≤ sizeLine then .ok (.str [c]) st else .stuck
        | none => .stuck
      | none => match seqOf x st with
        | some l => match L2.atI l i with
          | some w => .ok w st
          | none => .stuck
        | none => .stuck
section
variable {X : Cx} {ct : Ct} {W : WX}
theorem ix_V (hu : X.A.units + 64 < cLine) : IxR X (opOf X.K ct W ixV) := by
  intro value slice pins s σ H x y v u Q I rx ry h hs
  obtain ⟨F, μ, st, w1, w2, σ', r, r1, r2, p⟩ := h
  unfold ixV at p
  split at p
  · rename_i ks ws ed
    obtain ⟨a, kvs, rfl, h1, h2, h3⟩ := dicOf_ok r r1 ed
    split at p
    · rename_i k ek
      obtain rfl := kyOf_ok r2 ek
      split at p
      · rename_i w e
        obtain ⟨v', e', rv⟩ := (atKy_ok k h2 h3).1 w e
        obtain rfl : v = Value.ref a := rx
        have g : DGet H a (kV (kyK k)) (some v') := by rw [← e']; exact .k h1
        exact tail_any (dict_typeIs I g) PySem.F.slot_dict_getitem.lookup (d_getItem (by omega) I g ry fun w' s' I' rw' => ⟨v', H, I', rw', p.here r rv⟩) hs
      · exact p.elim
    · exact p.elim
  split at p
  · exact p.elim
  rename_i i ei
  obtain rfl := intOf_ok r2 ei
  split at p
  · rename_i z ez
    obtain rfl := strOf_ok r1 ez
    split at p
    · rename_i c ec
      split at p
      · rename_i hz
        exact ix_str value slice pins s σ H _ _ v u Q I rx ry ⟨mkS z, i, c, rfl, rfl, by rw [mkS_len]; exact hz, by rw [tl_mkS]; exact ec, p.here r (.str [c])⟩ hs
      · exact p.elim
    · exact p.elim
  split at p
  · rename_i l el
    obtain ⟨a, vs, rfl, hq, rs⟩ := seqOf_ok r r1 el
    split at p
    · rename_i w ew
      obtain ⟨v', e', rv⟩ := rs.atI ew
      rcases hq with hq | hq
      · exact ix_list value slice pins s σ H _ _ v u Q I rx ry ⟨a, vs, i, v', rfl, rfl, hq, e', p.here r rv⟩ hs
      · exact ix_tup value slice pins s σ H _ _ v u Q I rx ry ⟨a, vs, i, v', rfl, rfl, hq, e', p.here r rv⟩ hs
    · exact p.elim
  · exact p.elim
theorem sim_ix {a b : Expr} {ma mb : Mx Va} {pos : Pos} (hu : X.A.units + 64 < cLine) (ha : PE X a (TE' X ct W ma)) (hb : PE X b (TE' X ct W mb)) (hs : PlainIx b) : PE X (.Subscript a b pos) (TE' X ct W (mBin ixV ma mb)) :=
  PE.mono (pe_ix (ix_V hu) ha hb hs) fun _ _ _ => tOp_of

/-! ### slices -/
abbrev RO' : Hp → List Addr → Option Int → Option Int → Prop := fun _ _ a b => a = b
theorem PO.mono {e : Option Expr} {t t' : TO} (h : PO X e t) (i : ∀ σ H Q, t' σ H Q → t σ H Q) : PO X e t' := ⟨fun pins s σ H Q I q => h.run pins s σ H Q I (i σ H Q q)⟩
def mNo : Mx (Option Int) := fun _ st => .ok none st
def mPart (m : Mx Va) : Mx (Option Int) := fun env st => (m env st).bind fun w st => match intOf w with
  | some i => .ok (some i) st
  | none => .stuck
theorem sim_none : PO X none (TOf X.K ct W RO' mNo) := PO.mono po_none fun σ H Q ⟨F, μ, env, st, r, re, p⟩ => p.here r rfl
theorem sim_some {e : Expr} {m : Mx Va} (h : PE X e (TE' X ct W m)) : PO X (some e) (TOf X.K ct W RO' (mPart m)) := by
  refine PO.mono (po_some h) fun σ H Q ⟨F, μ, env, st, r, re, p⟩ => ⟨F, μ, env, st, r, re, p.bind fun w1 st1 F1 μ1 H1 v1 _ x1 r1 rv1 p1 => ?_⟩
  split at p1
  · rename_i i e
    exact ⟨i, intOf_ok rv1 e, p1.here r1 rfl⟩
  · exact p1.elim
def cut {α : Type} (l : List α) (lo hi : Option Int) : List α := (l.drop (HT.sIx l.length 0 lo)).take (HT.sIx l.length l.length hi - HT.sIx l.length 0 lo)
theorem RVs.cut {K : PySem.W.Frag} {F : Hp} {μ : List Addr} {ws : List Va} {vs : List V} {lo hi : Option Int} (r : RVs K F μ ws vs) : RVs K F μ (G.cut ws lo hi) (cutV vs lo hi) := by
  unfold G.cut cutV
  rw [← r.length]
  exact (r.drop _).take _
theorem cut_whole {α : Type} {l : List α} {lo hi : Option Int} (h : HT.sIx l.length 0 lo = 0 ∧ HT.sIx l.length l.length hi = l.length) : cut l lo hi = l := by
  unfold cut
  rw [h.1, h.2]
  simp
def sliceV (m : Bool) (x : Va) (lo hi : Option Int) (st : Sto) : R Va := match strOf x with
  | some z => if z.length ≤ sizeLine then .ok (.str (cut z lo hi)) st else .stuck
  | none => match tupOf x with
    | some l => .ok (.tup (cut l lo hi)) st
    | none => match lstOf x st with
      | some l => if l.length ≤ sizeLine then mkL m (cut l lo hi) st else .stuck
      | none => .stuck
def slOf (K : PySem.W.Frag) (ct : Ct) (W : WX) (m : Bool) : V → Option Int → Option Int → Hp → VK → Prop := fun x lo hi H Q =>
  ∃ F μ st w1 σ, Rel K ct F μ st H ∧ RV K F μ w1 x ∧ GPost K ct W (RV K) σ F μ H Q (sliceV m w1 lo hi st)
theorem sl_V (m : Bool) : SlR X (slOf X.K ct W m) := by
  intro pins s σ H x v vl vu lo hi sl Q I rx hs pl pu h
  obtain ⟨F, μ, st, w1, σ', r, r1, p⟩ := h
  unfold sliceV at p
  split at p
  · rename_i z ez
    obtain rfl := strOf_ok r1 ez
    split at p
    · rename_i hz
      refine sl_str pins s σ H _ v vl vu lo hi sl Q I rx hs pl pu ⟨mkS z, rfl, by rw [mkS_len]; exact hz, ?_⟩
      have e : cutS (mkS z) lo hi = mkS (cut z lo hi) := by
        unfold cutS cut
        rw [mkS_len, tl_mkS]
        rfl
      rw [e]
      exact p.here r (.str _)
    · exact p.elim
  split at p
  · rename_i l el
    obtain ⟨a, vs, rfl, hq, rs⟩ := tupOf_ok r1 el
    refine sl_tupA pins s σ H _ v vl vu lo hi sl Q I rx hs pl pu ⟨a, vs, rfl, Same.tupl r.sub hq, fun hw => ?_, fun _ p0 hp => ?_⟩
    · rw [← rs.length] at hw
      rw [cut_whole hw] at p
      exact p.here r (.tup hq rs)
    · exact p _ _ _ _ (.frz r hp _) (r.frz hp _) (.tup (.of upd_same) (rs.cut.mono (same_upd (r.nofrz hp)) List.prefix_rfl))
  split at p
  · rename_i l el
    obtain ⟨a, vs, rfl, hq, rs⟩ := lstOf_ok r r1 el
    split at p
    · obtain ⟨_, q⟩ := mkL_ok r rs.cut p
      exact sl_list pins s σ H _ v vl vu lo hi sl Q I rx hs pl pu ⟨a, vs, rfl, .of hq, q⟩
    · exact p.elim
  · exact p.elim
def mSlice (m : Bool) (ma : Mx Va) (ml mh : Mx (Option Int)) : Mx Va := fun env st => (ma env st).bind fun x st => (ml env st).bind fun lo st => (mh env st).bind fun hi st => sliceV m x lo hi st
theorem sim_slice {m : Bool} {e : Expr} {lo hi : Option Expr} {ma : Mx Va} {ml mh : Mx (Option Int)} {pos p2 : Pos} (he : PE X e (TE' X ct W ma)) (hl : PO X lo (TOf X.K ct W RO' ml)) (hh : PO X hi (TOf X.K ct W RO' mh)) :
    PE X (.Subscript e (.Slice lo hi none p2) pos) (TE' X ct W (mSlice m ma ml mh)) := by
  refine PE.mono (pe_slice (sl_V (ct := ct) (W := W) m) he hl hh) fun σ H Q ⟨F, μ, env, st, r, re, p⟩ => ?_
  refine ⟨F, μ, env, st, r, re, p.bind fun w1 st1 F1 μ1 H1 v1 _ x1 r1 rv1 p1 => ⟨F1, μ1, env, st1, r1, re.mono x1, p1.bind fun l st2 F2 μ2 H2 l' _ x2 r2 e2 p2 => ⟨F2, μ2, env, st2, r2, (re.mono x1).mono x2, p2.bind fun u st3 F3 μ3 H3 u' _ x3 r3 e3 p3 => ?_⟩⟩⟩
  subst e2 e3
  exact ⟨F3, μ3, st3, w1, σ, r3, x3.rv (x2.rv rv1), p3⟩

/-! ### truth -/
def truV (x : Va) (st : Sto) : Option Bool := match x with
  | .non => some false
  | .bl b => some b
  | .int i => some (i != 0)
  | .str z => if z.length ≤ sizeLine then some (!z.isEmpty) else none
  | _ => match dicOf x st with
    | some (ks, _) => some (!ks.isEmpty)
    | none => match seqOf x st with
      | some l => some (!l.isEmpty)
      | none => none
theorem isEmpty_len {α β : Type} {l : List α} {l' : List β} (h : l.length = l'.length) : (!l.isEmpty) = !l'.isEmpty := by
  cases l <;> cases l' <;> simp at h <;> rfl
theorem truV_ok {K : PySem.W.Frag} {F : Hp} {μ : List Addr} {H : Hp} {st : Sto} {x : Va} {v : V} {b : Bool} (r : Rel K ct F μ st H) (rv : RV K F μ x v) (h : truV x st = some b) : TruV K v H b := by
  have gen : ∀ {x : Va} {v : V}, RV K F μ x v → (match dicOf x st with
    | some (ks, _) => some (!ks.isEmpty)
    | none => match seqOf x st with
      | some l => some (!l.isEmpty)
      | none => none) = some b → TruV K v H b := fun {x v} rv h => by
    split at h
    · rename_i ks ws ed
      cases h
      obtain ⟨a, kvs, rfl, h1, h2, h3⟩ := dicOf_ok r rv ed
      refine .inr (.inr ⟨kvs, h1, isEmpty_len ?_⟩)
      have := congrArg List.length h2
      simpa using this.symm
    · split at h
      · rename_i l el
        cases h
        obtain ⟨a, vs, rfl, hq, rs⟩ := seqOf_ok r rv el
        rcases hq with hq | hq
        · exact .inl ⟨vs, hq, isEmpty_len rs.length⟩
        · exact .inr (.inl ⟨vs, hq, isEmpty_len rs.length⟩)
      · cases h
  cases rv with
  | non => cases h; rfl
  | bl b => cases h; rfl
  | int i => cases h; rfl
  | str z =>
    simp only [truV] at h
    split at h
    · rename_i hz
      cases h
      refine ⟨by rw [mkS_len]; exact hz, ?_⟩
      rw [mkS_len]
      cases z with
      | nil => rfl
      | cons c z =>
        simp only [List.isEmpty_cons, Bool.not_false, List.length_cons]
        symm
        rw [bne_iff_ne]
        omega
    · cases h
  | tup h1 h2 => exact gen (.tup h1 h2) h
  | lst h1 h2 => exact gen (.lst h1 h2) h
  | scr h1 h2 => exact gen (.scr h1 h2) h
  | dic h1 h2 h3 => exact gen (.dic h1 h2 h3) h
  | ref h1 => exact gen (.ref h1) h

abbrev TT' (X : Cx) (ct : Ct) (W : WX) (m : Mx Bool) : TT := TOf X.K ct W RB m
def mTru (m : Mx Va) : Mx Bool := fun env st => (m env st).bind fun w st => match truV w st with
  | some b => .ok b st
  | none => .stuck
theorem sim_tru {a : Expr} {m : Mx Va} (ha : PE X a (TE' X ct W m)) (he : ∀ whole, isTrue a X.env whole = (do let v ← whole; standAt a.pos; holding [v] (truthy v))) : PT X a (TT' X ct W (mTru m)) := by
  refine PT.mono (pt_truth ha he) fun σ H Q ⟨F, μ, env, st, r, re, p⟩ => ⟨F, μ, env, st, r, re, p.bind fun w1 st1 F1 μ1 H1 v1 _ x1 r1 rv1 p1 => ?_⟩
  split at p1
  · rename_i b e
    exact ⟨b, truV_ok r1 rv1 e, p1.here r1 rfl⟩
  · exact p1.elim
def mTst (m : Mx Va) : Mx Bool := fun env st => (m env st).bind fun w st => match blOf w with
  | some b => .ok b st
  | none => .stuck
theorem tst_of {t : TE} {m : Mx Va} {σ : L2.St} {H : Hp} {Q : Bool → Hp → Prop} (i : ∀ Q, TE' X ct W m σ H Q → t σ H Q) (h : TT' X ct W (mTst m) σ H Q) : tTest t σ H Q := by
  obtain ⟨F, μ, env, st, r, re, p⟩ := h
  refine i _ ⟨F, μ, env, st, r, re, p.bind fun w1 st1 F1 μ1 H1 v1 _ x1 r1 rv1 p1 => ?_⟩
  split at p1
  · rename_i b e
    exact ⟨b, blOf_ok rv1 e, p1.here r1 rfl⟩
  · exact p1.elim
/-- a comparison, as a value, as a test -/
theorem sim_cmp {op : CmpOp} {g : Va → Va → Sto → R Va} {a b : Expr} {ma mb : Mx Va} {pos : Pos} (ho : OpR X (compareOp op) (opOf X.K ct W g)) (ha : PE X a (TE' X ct W ma)) (hb : PE X b (TE' X ct W mb)) (hm : behindInMarks op b = false) :
    PE X (.Compare a [op] [b] pos) (TE' X ct W (mBin g ma mb)) := PE.mono (pe_cmpR ho ha hb hm) fun _ _ _ => tOp_of
theorem simT_cmp {op : CmpOp} {g : Va → Va → Sto → R Va} {a b : Expr} {ma mb : Mx Va} {pos : Pos} (ho : OpR X (compareOp op) (opOf X.K ct W g)) (ha : PE X a (TE' X ct W ma)) (hb : PE X b (TE' X ct W mb)) (hm : behindInMarks op b = false) :
    PT X (.Compare a [op] [b] pos) (TT' X ct W (mTst (mBin g ma mb))) := PT.mono (pt_cmpR ho ha hb hm) fun _ _ _ h => tst_of (fun _ => tOp_of) h
def mChain (g g' : Va → Va → Sto → R Va) (ma mb mc : Mx Va) : Mx Va := fun env st => (ma env st).bind fun x st => (mb env st).bind fun y st => (g x y st).bind fun z st => match blOf z with
  | none => .stuck
  | some false => .ok (.bl false) st
  | some true => (mc env st).bind fun w st => g' y w st
theorem tChain_of {g g' : Va → Va → Sto → R Va} {ma mb mc : Mx Va} {σ : L2.St} {H : Hp} {Q : VK} (h : TE' X ct W (mChain g g' ma mb mc) σ H Q) : tChain (opOf X.K ct W g) (opOf X.K ct W g') (TE' X ct W ma) (TE' X ct W mb) (TE' X ct W mc) σ H Q := by
  obtain ⟨F, μ, env, st, r, re, p⟩ := h
  refine ⟨F, μ, env, st, r, re, p.bind fun w1 st1 F1 μ1 H1 v1 _ x1 r1 rv1 p1 => ⟨F1, μ1, env, st1, r1, re.mono x1, p1.bind fun w2 st2 F2 μ2 H2 v2 _ x2 r2 rv2 p2 => ?_⟩⟩
  refine ⟨F2, μ2, st2, w1, w2, σ, r2, x2.rv rv1, rv2, p2.bind fun z st3 F3 μ3 H3 zv _ x3 r3 rz p3 => ?_⟩
  split at p3
  · exact p3.elim
  · rename_i e
    refine ⟨false, blOf_ok rz e, ?_⟩
    rw [if_neg Bool.false_ne_true]
    exact p3.here r3 (.bl false)
  · rename_i e
    refine ⟨true, blOf_ok rz e, ?_⟩
    rw [if_pos rfl]
    refine ⟨F3, μ3, env, st3, r3, ((re.mono x1).mono x2).mono x3, p3.bind fun w st4 F4 μ4 H4 wv _ x4 r4 rw p4 => ?_⟩
    exact ⟨F4, μ4, st4, w2, w, σ, r4, x4.rv (x3.rv rv2), rw, p4⟩
theorem sim_chain {op op' : CmpOp} {g g' : Va → Va → Sto → R Va} {a b c : Expr} {ma mb mc : Mx Va} {pos : Pos} (ho : OpR X (compareOp op) (opOf X.K ct W g)) (ho' : OpR X (compareOp op') (opOf X.K ct W g')) (ha : PE X a (TE' X ct W ma)) (hb : PE X b (TE' X ct W mb)) (hc : PE X c (TE' X ct W mc))
    (hm : lastMarks [op, op'] [b, c] = false) : PE X (.Compare a [op, op'] [b, c] pos) (TE' X ct W (mChain g g' ma mb mc)) := PE.mono (pe_chain ho ho' ha hb hc hm) fun _ _ _ => tChain_of
theorem simT_chain {op op' : CmpOp} {g g' : Va → Va → Sto → R Va} {a b c : Expr} {ma mb mc : Mx Va} {pos : Pos} (ho : OpR X (compareOp op) (opOf X.K ct W g)) (ho' : OpR X (compareOp op') (opOf X.K ct W g')) (ha : PE X a (TE' X ct W ma)) (hb : PE X b (TE' X ct W mb)) (hc : PE X c (TE' X ct W mc))
    (hm : lastMarks [op, op'] [b, c] = false) : PT X (.Compare a [op, op'] [b, c] pos) (TT' X ct W (mTst (mChain g g' ma mb mc))) := PT.mono (pt_chain ho ho' ha hb hc hm) fun _ _ _ h => tst_of (fun _ => tChain_of) h

/-! ### is None -/
def isNon : Va → Bool
  | .non => true
  | _ => false
def isNV (neg : Bool) (x y : Va) (st : Sto) : R Va := match y with
  | .non => .ok (.bl (if neg then !isNon x else isNon x)) st
  | _ => .stuck
theorem rv_non {K : PySem.W.Frag} {F : Hp} {μ : List Addr} {x : Va} {v : V} (r : RV K F μ x v) : decide (v = V.non) = isNon x := by
  cases r <;> simp [isNon]
theorem op_isNV : OpR X (compareOp .Is) (opOf X.K ct W (isNV false)) := by
  intro pins s σ H x y v u Q I rx ry h
  obtain ⟨F, μ, st, w1, w2, σ', r, r1, r2, p⟩ := h
  cases r2 with
  | non =>
    refine op_isN pins s σ H x _ v u Q I rx ry ⟨rfl, ?_⟩
    rw [rv_non r1]
    exact p.here r (.bl _)
  | _ => exact p.elim
theorem op_notNV : OpR X (compareOp .IsNot) (opOf X.K ct W (isNV true)) := by
  intro pins s σ H x y v u Q I rx ry h
  obtain ⟨F, μ, st, w1, w2, σ', r, r1, r2, p⟩ := h
  cases r2 with
  | non =>
    refine op_notN pins s σ H x _ v u Q I rx ry ⟨rfl, ?_⟩
    rw [rv_non r1]
    exact p.here r (.bl _)
  | _ => exact p.elim
end
end G

set_option Elab.async false
set_option linter.all false
set_option maxRecDepth 100000
set_option maxHeartbeats 4000000
namespace G
open PySem PySem.Spec PyProof.Rows L2

section
variable {X : Cx} {ct : Ct} {W : WX}
/-! ### names, constants -/
def mVar (i : Nat) : Mx Va := fun env st => match env[i]? with
  | some (some w) => .ok w st
  | _ => .stuck
theorem sim_var {i : Nat} {x : Str} {pos : Pos} (hN : X.N[i]? = some x) (hv : Vis X.env.scope x) (hd : (x == ("__debug__" : Str)) = false) (hcd : (x == ("__classdict__" : Str)) = false) : PE X (.Name x pos) (TE' X ct W (mVar i)) := by
  refine PE.mono (pe_var hN hv hd hcd) fun σ H Q ⟨F, μ, env, st, r, re, p⟩ => ?_
  unfold mVar at p
  split at p
  · rename_i w e
    obtain ⟨v, e1, rv⟩ := re.get i w e
    exact ⟨v, e1, p.here r rv⟩
  · exact p.elim
def mC (w : Va) : Mx Va := fun _ st => .ok w st
theorem sim_C {e : Expr} {v : V} {w : Va} (h : PE X e (tC v)) (rv : ∀ F μ, RV X.K F μ w v) : PE X e (TE' X ct W (mC w)) :=
  PE.mono h fun σ H Q ⟨F, μ, env, st, r, re, p⟩ => p.here r (rv F μ)

/-! ### if, and, or, not -/
def mIf (mt : Mx Bool) (ma mb : Mx Va) : Mx Va := fun env st => (mt env st).bind fun b st => if b = true then ma env st else mb env st
theorem sim_if {c a b : Expr} {mt : Mx Bool} {ma mb : Mx Va} {pos : Pos} (hc : PT X c (TT' X ct W mt)) (ha : PE X a (TE' X ct W ma)) (hb : PE X b (TE' X ct W mb)) : PE X (.IfExp c a b pos) (TE' X ct W (mIf mt ma mb)) := by
  refine PE.mono (pe_ifExp hc ha hb) fun σ H Q ⟨F, μ, env, st, r, re, p⟩ => ⟨F, μ, env, st, r, re, p.bind fun k st1 F1 μ1 H1 k' _ x1 r1 rk p1 => ?_⟩
  subst rk
  cases k with
  | true => exact ⟨F1, μ1, env, st1, r1, re.mono x1, p1⟩
  | false => exact ⟨F1, μ1, env, st1, r1, re.mono x1, p1⟩
def mAnd (ma mb : Mx Va) : Mx Va := fun env st => (ma env st).bind fun x st => match truV x st with
  | some true => mb env st
  | some false => .ok x st
  | none => .stuck
def mOr (ma mb : Mx Va) : Mx Va := fun env st => (ma env st).bind fun x st => match truV x st with
  | some true => .ok x st
  | some false => mb env st
  | none => .stuck
def mNot (mt : Mx Va) : Mx Va := fun env st => (mt env st).bind fun x st => match truV x st with
  | some b => .ok (.bl (!b)) st
  | none => .stuck
theorem sim_and {a b : Expr} {rest : List Expr} {ma mb : Mx Va} {pos : Pos} (ha : PE X a (TE' X ct W ma)) (hb : PE X (.BoolOp .And (b :: rest) pos) (TE' X ct W mb)) : PE X (.BoolOp .And (a :: b :: rest) pos) (TE' X ct W (mAnd ma mb)) := by
  refine PE.mono (pe_andT ha hb) fun σ H Q ⟨F, μ, env, st, r, re, p⟩ => ⟨F, μ, env, st, r, re, p.bind fun w st1 F1 μ1 H1 v _ x1 r1 rv p1 => ?_⟩
  split at p1
  · rename_i e
    refine ⟨true, truV_ok r1 rv e, ?_⟩
    rw [if_pos rfl]
    exact ⟨F1, μ1, env, st1, r1, re.mono x1, p1⟩
  · rename_i e
    refine ⟨false, truV_ok r1 rv e, ?_⟩
    rw [if_neg Bool.false_ne_true]
    exact p1.here r1 rv
  · exact p1.elim
theorem sim_or {a b : Expr} {rest : List Expr} {ma mb : Mx Va} {pos : Pos} (ha : PE X a (TE' X ct W ma)) (hb : PE X (.BoolOp .Or (b :: rest) pos) (TE' X ct W mb)) : PE X (.BoolOp .Or (a :: b :: rest) pos) (TE' X ct W (mOr ma mb)) := by
  refine PE.mono (pe_orT ha hb) fun σ H Q ⟨F, μ, env, st, r, re, p⟩ => ⟨F, μ, env, st, r, re, p.bind fun w st1 F1 μ1 H1 v _ x1 r1 rv p1 => ?_⟩
  split at p1
  · rename_i e
    refine ⟨true, truV_ok r1 rv e, ?_⟩
    rw [if_pos rfl]
    exact p1.here r1 rv
  · rename_i e
    refine ⟨false, truV_ok r1 rv e, ?_⟩
    rw [if_neg Bool.false_ne_true]
    exact ⟨F1, μ1, env, st1, r1, re.mono x1, p1⟩
  · exact p1.elim
theorem sim_not {a : Expr} {ma : Mx Va} {pos : Pos} (ha : PE X a (TE' X ct W ma)) : PE X (.UnaryOp .Not a pos) (TE' X ct W (mNot ma)) := by
  refine PE.mono (pe_notT ha) fun σ H Q ⟨F, μ, env, st, r, re, p⟩ => ⟨F, μ, env, st, r, re, p.bind fun w st1 F1 μ1 H1 v _ x1 r1 rv p1 => ?_⟩
  split at p1
  · rename_i b e
    exact ⟨b, truV_ok r1 rv e, p1.here r1 (.bl _)⟩
  · exact p1.elim
def mNeg (ma : Mx Va) : Mx Va := fun env st => (ma env st).bind fun x st => match intOf x with
  | some i => .ok (.int (-i)) st
  | none => .stuck
theorem sim_neg {a : Expr} {ma : Mx Va} {pos : Pos} (ha : PE X a (TE' X ct W ma)) : PE X (.UnaryOp .USub a pos) (TE' X ct W (mNeg ma)) := by
  refine PE.mono (pe_un un_neg ha) fun σ H Q ⟨F, μ, env, st, r, re, p⟩ => ⟨F, μ, env, st, r, re, p.bind fun w st1 F1 μ1 H1 v _ x1 r1 rv p1 => ?_⟩
  split at p1
  · rename_i i e
    exact ⟨i, intOf_ok rv e, p1.here r1 (.int _)⟩
  · exact p1.elim
/-- tests -/
def mTAnd (ma mb : Mx Bool) : Mx Bool := fun env st => (ma env st).bind fun b st => if b = true then mb env st else .ok false st
def mTOr (ma mb : Mx Bool) : Mx Bool := fun env st => (ma env st).bind fun b st => if b = true then .ok true st else mb env st
def mTNot (ma : Mx Bool) : Mx Bool := fun env st => (ma env st).bind fun b st => .ok (!b) st
theorem PW.mono {X : Cx} {e : Expr} {t t' : TT} (h : PW X e t) (i : ∀ σ H Q, t' σ H Q → t σ H Q) : PW X e t' := ⟨fun wh pins s σ H Q I q => h.run wh pins s σ H Q I (i σ H Q q)⟩
theorem sim_tand {a b : Expr} {rest : List Expr} {ma mb : Mx Bool} {pos : Pos} (ha : PT X a (TT' X ct W ma)) (hb : PW X (.BoolOp .And (b :: rest) pos) (TT' X ct W mb)) : PW X (.BoolOp .And (a :: b :: rest) pos) (TT' X ct W (mTAnd ma mb)) := by
  refine PW.mono (pw_and ha hb) fun σ H Q ⟨F, μ, env, st, r, re, p⟩ => ⟨F, μ, env, st, r, re, p.bind fun k st1 F1 μ1 H1 k' _ x1 r1 rk p1 => ?_⟩
  subst rk
  cases k with
  | true => exact ⟨F1, μ1, env, st1, r1, re.mono x1, p1⟩
  | false => exact p1.here r1 rfl
theorem sim_tor {a b : Expr} {rest : List Expr} {ma mb : Mx Bool} {pos : Pos} (ha : PT X a (TT' X ct W ma)) (hb : PW X (.BoolOp .Or (b :: rest) pos) (TT' X ct W mb)) : PW X (.BoolOp .Or (a :: b :: rest) pos) (TT' X ct W (mTOr ma mb)) := by
  refine PW.mono (pw_or ha hb) fun σ H Q ⟨F, μ, env, st, r, re, p⟩ => ⟨F, μ, env, st, r, re, p.bind fun k st1 F1 μ1 H1 k' _ x1 r1 rk p1 => ?_⟩
  subst rk
  cases k with
  | true => exact p1.here r1 rfl
  | false => exact ⟨F1, μ1, env, st1, r1, re.mono x1, p1⟩
theorem sim_tnot {a : Expr} {ma : Mx Bool} {pos : Pos} (ha : PT X a (TT' X ct W ma)) : PT X (.UnaryOp .Not a pos) (TT' X ct W (mTNot ma)) := by
  refine PT.mono (pt_not ha) fun σ H Q ⟨F, μ, env, st, r, re, p⟩ => ⟨F, μ, env, st, r, re, p.bind fun k st1 F1 μ1 H1 k' _ x1 r1 rk p1 => ?_⟩
  subst rk
  exact p1.here r1 rfl

/-! ### argument lists, displays -/
abbrev TA' (X : Cx) (ct : Ct) (W : WX) (m : Mx (List Va)) : TA := TOf X.K ct W (RVs X.K) m
theorem PA.mono {X : Cx} {e : List Expr} {t t' : TA} (h : PA X e t) (i : ∀ σ H Q, t' σ H Q → t σ H Q) : PA X e t' := ⟨fun pos pins s σ H Q I q => h.run pos pins s σ H Q I (i σ H Q q)⟩
def mNil : Mx (List Va) := fun _ st => .ok [] st
def mCons (ma : Mx Va) (ml : Mx (List Va)) : Mx (List Va) := fun env st => (ma env st).bind fun x st => (ml env st).bind fun xs st => .ok (x :: xs) st
theorem sim_anil : PA X [] (TA' X ct W mNil) := PA.mono pa_nil fun σ H Q ⟨F, μ, env, st, r, re, p⟩ => p.here r .nil
theorem tCons_of {ma : Mx Va} {ml : Mx (List Va)} {σ : L2.St} {H : Hp} {Q : List V → Hp → Prop} (h : TA' X ct W (mCons ma ml) σ H Q) : tCons (TE' X ct W ma) (TA' X ct W ml) σ H Q := by
  obtain ⟨F, μ, env, st, r, re, p⟩ := h
  refine ⟨F, μ, env, st, r, re, p.bind fun w st1 F1 μ1 H1 v _ x1 r1 rv p1 => ⟨F1, μ1, env, st1, r1, re.mono x1, p1.bind fun ws st2 F2 μ2 H2 vs _ x2 r2 rvs p2 => ?_⟩⟩
  exact p2.here r2 (.cons (x2.rv rv) rvs)
theorem sim_acons {e : Expr} {es : List Expr} {ma : Mx Va} {ml : Mx (List Va)} (ha : PE X e (TE' X ct W ma)) (hr : PA X es (TA' X ct W ml)) (hs : starEach (e :: es) X.env = (false, eval e X.env) :: starEach es X.env) : PA X (e :: es) (TA' X ct W (mCons ma ml)) :=
  PA.mono (pa_cons ha hr hs) fun _ _ _ => tCons_of
def mTup (ml : Mx (List Va)) : Mx Va := fun env st => (ml env st).bind fun l st => mkT l st
def mLst (m : Bool) (ml : Mx (List Va)) : Mx Va := fun env st => (ml env st).bind fun l st => mkL m l st
theorem sim_tup {es : List Expr} {x1 : Nat} {ml : Mx (List Va)} {pos : Pos} (h : PA X es (TA' X ct W ml)) : PE X (.Tuple es x1 pos) (TE' X ct W (mTup ml)) :=
  PE.mono (pe_tup h) fun σ H Q ⟨F, μ, env, st, r, re, p⟩ => ⟨F, μ, env, st, r, re, p.bind fun ws st1 F1 μ1 H1 vs _ x1 r1 rvs p1 => mkT_ok r1 rvs p1⟩
theorem sim_lst {m : Bool} {es : List Expr} {ml : Mx (List Va)} {pos : Pos} (h : PA X es (TA' X ct W ml)) : PE X (.List es pos) (TE' X ct W (mLst m ml)) :=
  PE.mono (pe_lst h) fun σ H Q ⟨F, μ, env, st, r, re, p⟩ => ⟨F, μ, env, st, r, re, p.bind fun ws st1 F1 μ1 H1 vs _ x1 r1 rvs p1 => mkL_ok r1 rvs p1⟩

/-! ### calls of built-ins -/
def cOf (K : PySem.W.Frag) (ct : Ct) (W : WX) (g : List Va → Sto → R Va) : List V → Hp → VK → Prop := fun xs H Q =>
  ∃ F μ st ws σ, Rel K ct F μ st H ∧ RVs K F μ ws xs ∧ GPost K ct W (RV K) σ F μ H Q (g ws st)
def mFn (g : List Va → Sto → R Va) (ml : Mx (List Va)) : Mx Va := fun env st => (ml env st).bind fun l st => g l st
theorem tCB_of {g : List Va → Sto → R Va} {ml : Mx (List Va)} {σ : L2.St} {H : Hp} {Q : VK} (h : TE' X ct W (mFn g ml) σ H Q) : tCB (cOf X.K ct W g) (TA' X ct W ml) σ H Q := by
  obtain ⟨F, μ, env, st, r, re, p⟩ := h
  exact ⟨F, μ, env, st, r, re, p.bind fun ws st1 F1 μ1 H1 vs _ x1 r1 rvs p1 => ⟨F1, μ1, st1, ws, σ, r1, rvs, p1⟩⟩
def mOf (K : PySem.W.Frag) (ct : Ct) (W : WX) (g : Va → List Va → Sto → R Va) : V → List V → Hp → VK → Prop := fun x xs H Q =>
  ∃ F μ st w ws σ, Rel K ct F μ st H ∧ RV K F μ w x ∧ RVs K F μ ws xs ∧ GPost K ct W (RV K) σ F μ H Q (g w ws st)

/-- len -/
def lenV (l : List Va) (st : Sto) : R Va := match l with
  | [x] => match strOf x with
    | some z => if z.length ≤ sizeLine then .ok (.int z.length) st else .stuck
    | none => match seqOf x st with
      | some l => .ok (.int l.length) st
      | none => match dicOf x st with
        | some (ks, _) => .ok (.int ks.length) st
        | none => .stuck
  | _ => .stuck
theorem RVs.one {K : PySem.W.Frag} {F : Hp} {μ : List Addr} {x : Va} {vs : List V} (r : RVs K F μ [x] vs) : ∃ v, vs = [v] ∧ RV K F μ x v := by
  cases r with
  | cons r t => cases t; exact ⟨_, rfl, r⟩
theorem RVs.two {K : PySem.W.Frag} {F : Hp} {μ : List Addr} {x y : Va} {vs : List V} (r : RVs K F μ [x, y] vs) : ∃ v u, vs = [v, u] ∧ RV K F μ x v ∧ RV K F μ y u := by
  cases r with
  | cons r t =>
    obtain ⟨u, rfl, q⟩ := t.one
    exact ⟨_, u, rfl, r, q⟩
theorem call_lenV : CallR X (.builtin "len") (cOf X.K ct W lenV) := by
  intro pins s σ H xs us Q I rs h
  obtain ⟨F, μ, st, ws, σ', r, rv, p⟩ := h
  unfold lenV at p
  split at p
  · rename_i x
    obtain ⟨v, rfl, r1⟩ := rv.one
    split at p
    · rename_i z ez
      obtain rfl := strOf_ok r1 ez
      split at p
      · rename_i hz
        refine call_len_str pins s σ H _ us Q I rs ⟨mkS z, rfl, by rw [mkS_len]; exact hz, ?_⟩
        rw [mkS_len]
        exact p.here r (.int _)
      · exact p.elim
    split at p
    · rename_i l el
      obtain ⟨a, vs, rfl, hq, rs'⟩ := seqOf_ok r r1 el
      refine call_len_seq pins s σ H _ us Q I rs ⟨a, vs, rfl, hq, ?_⟩
      rw [← rs'.length]
      exact p.here r (.int _)
    split at p
    · rename_i ks ws ed
      obtain ⟨a, kvs, rfl, h1, h2, h3⟩ := dicOf_ok r r1 ed
      refine call_lenD pins s σ H _ us Q I rs ⟨a, kvs, rfl, h1, ?_⟩
      have e : kvs.length = ks.length := by simpa using congrArg List.length h2
      rw [e]
      exact p.here r (.int _)
    · exact p.elim
  · exact p.elim
/-- list(..), tuple(..) -/
def listV (m : Bool) (l : List Va) (st : Sto) : R Va := match l with
  | [x] => match seqOf x st with
    | some l => mkL m l st
    | none => .stuck
  | _ => .stuck
theorem call_listV (m : Bool) : CallR X (.type "list") (cOf X.K ct W (listV m)) := by
  intro pins s σ H xs us Q I rs h
  obtain ⟨F, μ, st, ws, σ', r, rv, p⟩ := h
  unfold listV at p
  split at p
  · rename_i x
    obtain ⟨v, rfl, r1⟩ := rv.one
    split at p
    · rename_i l el
      obtain ⟨a, vs, rfl, hq, rs'⟩ := seqOf_ok r r1 el
      exact call_list_of pins s σ H _ us Q I rs ⟨a, vs, rfl, hq, (mkL_ok r rs' p).2⟩
    · exact p.elim
  · exact p.elim
def tupleV (l : List Va) (st : Sto) : R Va := match l with
  | [x] => match tupOf x with
    | some l => .ok (.tup l) st
    | none => match lstOf x st with
      | some l => mkT l st
      | none => .stuck
  | _ => .stuck
theorem call_tupleV : CallR X (.type "tuple") (cOf X.K ct W tupleV) := by
  intro pins s σ H xs us Q I rs h
  obtain ⟨F, μ, st, ws, σ', r, rv, p⟩ := h
  unfold tupleV at p
  split at p
  · rename_i x
    obtain ⟨v, rfl, r1⟩ := rv.one
    split at p
    · rename_i l el
      obtain ⟨a, vs, rfl, hq, rs'⟩ := tupOf_ok r1 el
      exact call_tuple_of pins s σ H _ us Q I rs ⟨a, vs, rfl, .inr ⟨Same.tupl r.sub hq, p.here r (.tup hq rs')⟩⟩
    split at p
    · rename_i l el
      obtain ⟨a, vs, rfl, hq, rs'⟩ := lstOf_ok r r1 el
      exact call_tuple_of pins s σ H _ us Q I rs ⟨a, vs, rfl, .inl ⟨.of hq, (mkT_ok r rs' p).2⟩⟩
    · exact p.elim
  · exact p.elim
/-- str(n) -/
def numI (i : Int) : Tx := tx (toString i)
theorem numI_ok (i : Int) : (toString i : Str) = mkS (numI i) := mkS_tx _
def strV (l : List Va) (st : Sto) : R Va := match l with
  | [x] => match intOf x with
    | some i => if decide (i.natAbs.log2 < 1920) = true then .ok (.str (numI i)) st else .stuck
    | none => .stuck
  | _ => .stuck
theorem call_strV : CallR X (.type "str") (cOf X.K ct W strV) := by
  intro pins s σ H xs us Q I rs h
  obtain ⟨F, μ, st, ws, σ', r, rv, p⟩ := h
  unfold strV at p
  split at p
  · rename_i x
    obtain ⟨v, rfl, r1⟩ := rv.one
    split at p
    · rename_i i ei
      obtain rfl := intOf_ok r1 ei
      split at p
      · rename_i hc
        refine call_str_int pins s σ H _ us Q I rs ⟨i, rfl, of_decide_eq_true hc, ?_⟩
        rw [numI_ok]
        exact p.here r (.str _)
      · exact p.elim
    · exact p.elim
  · exact p.elim
/-- int(..) -/
def toIntV (l : List Va) (st : Sto) : R Va := match l with
  | [x] => match intOf x with
    | some i => .ok (.int i) st
    | none => match blOf x with
      | some b => .ok (.int (if b then 1 else 0)) st
      | none => match strOf x with
        | some z => match PySem.intText? (mkS z) with
          | some n => if z.length ≤ 640 then .ok (.int n) st else .stuck
          | none => .stuck
        | none => .stuck
  | _ => .stuck
theorem call_toIntV : CallR X (.type "int") (cOf X.K ct W toIntV) := by
  intro pins s σ H xs us Q I rs h
  obtain ⟨F, μ, st, ws, σ', r, rv, p⟩ := h
  unfold toIntV at p
  split at p
  · rename_i x
    obtain ⟨v, rfl, r1⟩ := rv.one
    split at p
    · rename_i i ei
      obtain rfl := intOf_ok r1 ei
      exact call_int1 pins s σ H _ us Q I rs (.inl ⟨i, rfl, p.here r (.int _)⟩)
    split at p
    · rename_i b eb
      obtain rfl := blOf_ok r1 eb
      exact call_int1 pins s σ H _ us Q I rs (.inr ⟨b, rfl, p.here r (.int _)⟩)
    split at p
    · rename_i z ez
      obtain rfl := strOf_ok r1 ez
      split at p
      · rename_i n en
        split at p
        · rename_i hz
          exact call_int_str pins s σ H _ us Q I rs ⟨mkS z, n, rfl, en, by rw [mkS_len]; exact hz, p.here r (.int _)⟩
        · exact p.elim
      · exact p.elim
    · exact p.elim
  · exact p.elim
end
end G

set_option Elab.async false
set_option linter.all false
set_option maxRecDepth 100000
set_option maxHeartbeats 4000000
namespace G
open PySem PySem.Spec PyProof.Rows L2

section
variable {X : Cx} {ct : Ct} {W : WX}
/-! ### isinstance of a built-in type -/
def tyNm (x : Va) (st : Sto) : Option String := match x with
  | .non => some "NoneType"
  | .bl _ => some "bool"
  | .int _ => some "int"
  | .str _ => some "str"
  | .tup _ => some "tuple"
  | .lst _ => some "list"
  | .scr _ => some "list"
  | .dic _ _ => some "dict"
  | .ref p => match st[p]? with
    | some (some (.lst _)) => some "list"
    | some (some (.dic _ _)) => some "dict"
    | _ => none
theorem tyNm_ok {K : PySem.W.Frag} {F : Hp} {μ : List Addr} {H : Hp} {st : Sto} {x : Va} {v : V} {t : String} (r : Rel K ct F μ st H) (rv : RV K F μ x v) (h : tyNm x st = some t) : TyX K H v (.type t) := by
  cases rv with
  | non => cases h; exact .base .non
  | bl b => cases h; exact .base (.bl b)
  | int i => cases h; exact .base (.int i)
  | str i => cases h; exact .base (.str _)
  | tup hs rs =>
    cases h
    rcases hs with (hs | ⟨o, hs⟩) | ⟨o, its, n, h1, h2, _⟩
    · exact .base (.tup (r.sub _ _ hs))
    · exact .fTuple (r.sub _ _ hs)
    · exact .kTuple h1 h2
  | lst hs rs => cases h; exact .base (.lst (r.sub _ _ hs))
  | scr hs rs =>
    cases h
    rcases hs with (hs | ⟨o, hs⟩) | ⟨o, its, n, h1, h2, _⟩
    · exact .base (.lst (r.sub _ _ hs))
    · exact .base (.frz (r.sub _ _ hs))
    · exact .kList h1 h2
  | dic hs h1 h2 => cases h; exact .base (.dK (r.sub _ _ hs))
  | ref hp =>
    unfold tyNm at h
    simp only at h
    split at h
    · rename_i l e
      cases h
      cases r.obj _ _ _ e hp with
      | lst h1 h2 => exact .base (.lst h1)
    · rename_i ks l e
      cases h
      cases r.obj _ _ _ e hp with
      | dic h1 h2 h3 => exact .base (.dK h1)
    · cases h
def isiV (c : String) (l : List Va) (st : Sto) : R Va := match l with
  | [x] => match tyNm x st with
    | some t => match kitB t c with
      | some b => .ok (.bl b) st
      | none => .stuck
    | none => .stuck
  | _ => .stuck
def mIsi (c : String) (ma : Mx Va) : Mx Va := fun env st => (ma env st).bind fun x st => isiV c [x] st
theorem sim_isi {a : Expr} {ma : Mx Va} {c : String} {x y : Str} {p p' pos : Pos} (hg : Gl X x) (hm : X.mg x = none) (hv : bootBuiltins x = some (.builtin "isinstance")) (hn : x ≠ "__name__") (hdb : (x == ("__debug__" : Str)) = false)
    (hg' : Gl X y) (hm' : X.mg y = none) (hv' : bootBuiltins y = some (.type c)) (hn' : y ≠ "__name__") (hdb' : (y == ("__debug__" : Str)) = false)
    (ha : PE X a (TE' X ct W ma)) (hs : starEach (a :: [.Name y p']) X.env = (false, eval a X.env) :: starEach [.Name y p'] X.env) :
    PE X (.Call (.Name x p) [a, .Name y p'] [] pos) (TE' X ct W (mIsi c ma)) := by
  refine PE.mono (pe_callB call_isi hg hm hv (pa_cons ha (pa_cons (pe_bltn (v := .ty c) hg' hm' hv' rfl hn' hdb') pa_nil) hs) hn hdb hs) fun σ H Q ⟨F, μ, env, st, r, re, p⟩ => ⟨F, μ, env, st, r, re, p.bind fun w st1 F1 μ1 H1 v _ x1 r1 rv p1 => ?_⟩
  unfold isiV at p1
  simp only at p1
  split at p1
  · rename_i t et
    split at p1
    · rename_i b eb
      exact ⟨v, .ty c, .type t, .type c, b, rfl, .ty c, tyNm_ok r1 rv et, kit_ty eb, p1.here r1 (.bl b)⟩
    · exact p1.elim
  · exact p1.elim

/-! ### methods that change a list -/
def appendV (x : Va) (l : List Va) (st : Sto) : R Va := match x, l with
  | .ref p, [y] => match st[p]? with
    | some (some (.lst xs)) => if xs.length < sizeLine then .ok .non (st.set p (some (.lst (xs ++ [y])))) else .stuck
    | _ => .stuck
  | _, _ => .stuck
theorem mt_appendV : MtR X "list.append" (mOf X.K ct W appendV) := by
  intro pins s σ H x vs v us Q I rx rv h
  obtain ⟨F, μ, st, w, ws, σ', r, r1, r2, p⟩ := h
  unfold appendV at p
  split at p
  · rename_i q y
    obtain ⟨yv, rfl, ry⟩ := r2.one
    cases r1 with
    | @ref _ a hp =>
    split at p
    · rename_i xs e
      split at p
      · rename_i hz
        cases r.obj _ _ _ e hp with
        | @lst _ vs' h1 h2 =>
          refine mt_append pins s σ H _ _ v us Q I rx rv ⟨a, vs', yv, rfl, rfl, h1, by rw [← h2.length]; exact hz, ?_⟩
          exact p _ _ _ _ (.write r e hp _) (r.write e hp (.lst upd_same (h2.append (.cons ry .nil)))) .non
      · exact p.elim
    · exact p.elim
  · exact p.elim
theorem extend_tuple_any (l : Addr) (items : Array Value) (n : Nat) (b : Addr) (items2 : Array Value) (n2 : Nat) (dd : Option Addr) (sl : Array (Option Value)) (hs0 : ¬(!items.isEmpty && Builtin.List.listTooLong (items.size + items2.size)) = true) (hs1 : items.size ≤ sizeLine) (hs2 : items.size + items2.size ≤ sizeLine + 1) :
    Meets (Builtin.«list.extend» ⟨[.ref l, .ref b], []⟩) (fun _ R s => s.heap.get? l = some { cls := .type "list", dict := none, data := .seq items n, slots := #[] } ∧ s.heap.get? b = some { cls := .type "tuple", dict := dd, data := .seq items2 n2, slots := sl } ∧ R (.ok (.ret Value.none)) { s with heap := s.heap.update l (Obj.mapSeq fun x => x ++ items2), toks := s.toks }) :=
  .of_wp fun prog w A R s h => by
    obtain ⟨hp, g, d, tk, os⟩ := s; obtain ⟨hl, hb, h⟩ := h; have f1 := AutoSeq1.idx_int; have f2 := AutoSeq1.sub_tuple_tuple; have f3 := AutoSeq1.sub_list_list; have f4 := AutoSeq1.sub_tuple_list; have f5 := AutoSeq1.sub_list_tuple;
    have hz' : (items ++ items2).size ≤ sizeLine + 1 := by rw [Array.size_append]; exact hs2
    wp_walk using (wpAny_updateSeq hl rfl (hz := hs1) (_hz' := hz')), AutoSeq1.wpAny_loadPart' hl, AutoSeq1.wpAny_loadPart' hb; exact ⟨_, rfl, h⟩
theorem mt_extendT : MtR X "list.extend" (fun x vs H Q => ∃ l b xs zs, x = .ref l ∧ vs = [.ref b] ∧ H l = some (.lst xs) ∧ SqT X.K H b zs ∧ xs.length + zs.length ≤ sizeLine ∧ Q .non (upd H l (.lst (xs ++ zs)))) := by
  intro pins s σ H x vs v us Q I rx rv h
  obtain ⟨l, b, xs, zs, rfl, rfl, hH, hT, hz, q⟩ := h
  cases rx
  obtain ⟨u, rfl, ru⟩ := Vals.one rv
  cases ru
  obtain ⟨z, its, n, r, hl, e⟩ := I.lstM hH
  obtain ⟨its2, r2, ⟨⟨c2, dd, dt, sl⟩, e2, hc, n2, hd⟩, _⟩ := I.tuple hT
  simp only at hc hd
  subst hc hd
  have hl2 := r2.length
  have hsz : its.toArray.size + its2.toArray.size ≤ sizeLine := by rw [List.size_toArray, List.size_toArray]; omega
  have hlong : ¬ (!its.toArray.isEmpty && Builtin.List.listTooLong (its.toArray.size + its2.toArray.size)) = true := by
    rw [notLongL hsz, Bool.and_false]
    exact Bool.false_ne_true
  refine call_meets F.slot_list_extend ⟨_, e, rfl⟩ F.entry_list_extend (F.args_list_extend_2 _ _)
    (extend_tuple_any l its.toArray n b its2.toArray n2 dd sl hlong (by rw [List.size_toArray]; omega) (by omega)) ⟨e, e2, ?_⟩
  refine ⟨.non, _, I.lset (its' := its ++ its2) hH e (by simp) (r.append r2) ?_, rfl, q⟩
  rw [List.length_append]
  omega
def extendV (x : Va) (l : List Va) (st : Sto) : R Va := match x, l with
  | .ref p, [y] => match st[p]? with
    | some (some (.lst xs)) => match tupOf y with
      | some zs => if xs.length + zs.length ≤ sizeLine then .ok .non (st.set p (some (.lst (xs ++ zs)))) else .stuck
      | none => match lstOf y st with
        | some zs => if xs.length + zs.length ≤ sizeLine then .ok .non (st.set p (some (.lst (xs ++ zs)))) else .stuck
        | none => .stuck
    | _ => .stuck
  | _, _ => .stuck
theorem mt_extendV : MtR X "list.extend" (mOf X.K ct W extendV) := by
  intro pins s σ H x vs v us Q I rx rv h
  obtain ⟨F, μ, st, w, ws, σ', r, r1, r2, p⟩ := h
  unfold extendV at p
  split at p
  · rename_i q y
    obtain ⟨yv, rfl, ry⟩ := r2.one
    cases r1 with
    | @ref _ a hp =>
    split at p
    · rename_i xs e
      cases r.obj _ _ _ e hp with
      | @lst _ vs' h1 h2 =>
      split at p
      · rename_i zs ez
        obtain ⟨b, zv, rfl, hb, rz⟩ := tupOf_ok ry ez
        split at p
        · rename_i hz
          refine mt_extendT pins s σ H _ _ v us Q I rx rv ⟨a, b, vs', zv, rfl, rfl, h1, Same.tupl r.sub hb, by rw [← h2.length, ← rz.length]; exact hz, ?_⟩
          exact p _ _ _ _ (.write r e hp _) (r.write e hp (.lst upd_same (h2.append rz))) .non
        · exact p.elim
      split at p
      · rename_i zs ez
        obtain ⟨b, zv, rfl, hb, rz⟩ := lstOf_ok r ry ez
        split at p
        · rename_i hz
          refine mt_extend pins s σ H _ _ v us Q I rx rv ⟨a, b, vs', zv, rfl, rfl, h1, hb, by rw [← h2.length, ← rz.length]; exact hz, ?_⟩
          exact p _ _ _ _ (.write r e hp _) (r.write e hp (.lst upd_same (h2.append rz))) .non
        · exact p.elim
      · exact p.elim
    · exact p.elim
  · exact p.elim
/-- pop() -/
def popV (x : Va) (l : List Va) (st : Sto) : R Va := match x, l with
  | .ref p, [] => match st[p]? with
    | some (some (.lst xs)) => match xs[xs.length - 1]? with
      | some y => .ok y (st.set p (some (.lst xs.dropLast)))
      | none => .stuck
    | _ => .stuck
  | .ref p, [.int i] => match st[p]? with
    | some (some (.lst xs)) => if i63 i then match seqIndex? i xs.length with
        | some k => match xs[k]? with
          | some y => .ok y (st.set p (some (.lst (xs.eraseIdx k))))
          | none => .stuck
        | none => .stuck
      else .stuck
    | _ => .stuck
  | _, _ => .stuck
theorem mt_popV : MtR X "list.pop" (mOf X.K ct W popV) := by
  intro pins s σ H x vs v us Q I rx rv h
  obtain ⟨F, μ, st, w, ws, σ', r, r1, r2, p⟩ := h
  unfold popV at p
  split at p
  · rename_i q
    cases r2
    cases r1 with
    | @ref _ a hp =>
    split at p
    · rename_i xs e
      cases r.obj _ _ _ e hp with
      | @lst _ vs' h1 h2 =>
      split at p
      · rename_i y ey
        obtain ⟨yv, e1, ry⟩ := h2.get ey
        refine mt_pop pins s σ H _ _ v us Q I rx rv ⟨a, vs', yv, rfl, rfl, h1, by rw [← h2.length]; exact e1, ?_⟩
        exact p _ _ _ _ (.write r e hp _) (r.write e hp (.lst upd_same h2.dropLast)) ry
      · exact p.elim
    · exact p.elim
  · rename_i q i
    obtain ⟨iv, rfl, ri⟩ := r2.one
    cases ri
    cases r1 with
    | @ref _ a hp =>
    split at p
    · rename_i xs e
      cases r.obj _ _ _ e hp with
      | @lst _ vs' h1 h2 =>
      split at p
      · rename_i hi
        obtain ⟨i1, i2⟩ := (of_decide_eq_true hi : -(2 ^ 63) ≤ i ∧ i < 2 ^ 63)
        split at p
        · rename_i k ek
          split at p
          · rename_i y ey
            obtain ⟨yv, e1, ry⟩ := h2.get ey
            refine mt_popAt pins s σ H _ _ v us Q I rx rv ⟨a, vs', i, k, yv, rfl, rfl, h1, i1, i2, by rw [← h2.length]; exact ek, e1, ?_⟩
            exact p _ _ _ _ (.write r e hp _) (r.write e hp (.lst upd_same (h2.eraseIdx k))) ry
          · exact p.elim
        · exact p.elim
      · exact p.elim
    · exact p.elim
  · exact p.elim
/-- insert(i, y), 0 ≤ i -/
def insertV (x : Va) (l : List Va) (st : Sto) : R Va := match x, l with
  | .ref p, [.int i, y] => match st[p]? with
    | some (some (.lst xs)) => if decide (xs.length < sizeLine ∧ 0 ≤ i ∧ i < 2 ^ 63) = true then .ok .non (st.set p (some (.lst (xs.take i.toNat ++ [y] ++ xs.drop i.toNat)))) else .stuck
    | _ => .stuck
  | _, _ => .stuck
theorem mt_insertV : MtR X "list.insert" (mOf X.K ct W insertV) := by
  intro pins s σ H x vs v us Q I rx rv h
  obtain ⟨F, μ, st, w, ws, σ', r, r1, r2, p⟩ := h
  unfold insertV at p
  split at p
  · rename_i q i y
    obtain ⟨iv, yv, rfl, ri, ry⟩ := r2.two
    cases ri
    cases r1 with
    | @ref _ a hp =>
    split at p
    · rename_i xs e
      cases r.obj _ _ _ e hp with
      | @lst _ vs' h1 h2 =>
      split at p
      · rename_i hc
        obtain ⟨c1, c2, c3⟩ := (of_decide_eq_true hc : xs.length < sizeLine ∧ 0 ≤ i ∧ i < 2 ^ 63)
        refine mt_insert pins s σ H _ _ v us Q I rx rv ⟨a, vs', i, yv, rfl, rfl, h1, by rw [← h2.length]; exact c1, c2, c3, ?_⟩
        exact p _ _ _ _ (.write r e hp _) (r.write e hp (.lst upd_same (((h2.take _).append (.cons ry .nil)).append (h2.drop _)))) .non
      · exact p.elim
    · exact p.elim
  · exact p.elim
/-! ### methods of texts -/
def strsOf : List Va → Option (List Tx) := mapO strOf
theorem strsOf_ok {K : PySem.W.Frag} {F : Hp} {μ : List Addr} : ∀ {l : List Va} {vs : List V} {zs : List Tx}, RVs K F μ l vs → strsOf l = some zs → vs = (zs.map mkS).map V.str
  | [], _, _, .nil, h => by cases h; rfl
  | x :: l, _, _, .cons r t, h => by
    unfold strsOf mapO at h
    split at h
    · rename_i y ys e1 e2
      cases h
      rw [strOf_ok r e1, strsOf_ok t e2]
      rfl
    · cases h
def joinV (x : Va) (l : List Va) (st : Sto) : R Va := match l with
  | [y] => match strOf x, seqOf y st with
    | some a, some ys => match strsOf ys with
      | some zs => if (zs.map (·.length)).sum + zs.length * a.length ≤ 16777216 then .ok (.str (TL.joinL a zs)) st else .stuck
      | none => .stuck
    | _, _ => .stuck
  | _ => .stuck
theorem join_mk (a : Tx) (zs : List Tx) : Txt.join (mkS a) (zs.map mkS) = mkS (TL.joinL a zs) := by
  apply TL.ext_tl
  rw [TL.join_eq, TL.tl_join]
  have e : (zs.map mkS).map TL.tl = zs := by
    rw [List.map_map]
    conv => rhs; rw [← List.map_id zs]
    exact List.map_congr_left fun x _ => tl_mkS x
  rw [e]
  show TL.joinL (mkS a).cps.toList zs = (mkS _).cps.toList
  rw [tl_mkS, tl_mkS]
theorem mt_joinV : MtR X "str.join" (mOf X.K ct W joinV) := by
  intro pins s σ H x vs v us Q I rx rv h
  obtain ⟨F, μ, st, w, ws, σ', r, r1, r2, p⟩ := h
  unfold joinV at p
  split at p
  · rename_i y
    obtain ⟨yv, rfl, ry⟩ := r2.one
    split at p
    · rename_i a ys ea ey
      obtain rfl := strOf_ok r1 ea
      obtain ⟨l, vs, rfl, hq, rs⟩ := seqOf_ok r ry ey
      split at p
      · rename_i zs ez
        obtain rfl := strsOf_ok rs ez
        split at p
        · rename_i hz
          refine mt_join pins s σ H _ _ v us Q I rx rv ⟨mkS a, l, zs.map mkS, rfl, rfl, hq, ?_, ?_⟩
          · have e : ((zs.map mkS).map (·.length)) = zs.map (·.length) := by
              rw [List.map_map]
              exact List.map_congr_left fun x _ => mkS_len x
            rw [e, List.length_map, mkS_len]
            exact hz
          · rw [join_mk]
            exact p.here r (.str _)
        · exact p.elim
      · exact p.elim
    · exact p.elim
  · exact p.elim
/-- of a text, by a text -/
def tt1 (g : Tx → Tx → Option Va) (x : Va) (l : List Va) (st : Sto) : R Va := match l with
  | [y] => match strOf x, strOf y with
    | some a, some b => match g a b with
      | some w => .ok w st
      | none => .stuck
    | _, _ => .stuck
  | _ => .stuck
theorem mt_tt1 {id : String} {r0 : V → List V → Hp → VK → Prop} (hm : MtR X id r0) {g : Tx → Tx → Option Va} (hr : ∀ (a b : Tx) (w : Va) (F : Hp) (μ : List Addr) (H : Hp) (Q : VK), g a b = some w → (∀ v, RV X.K F μ w v → Q v H) → r0 (.str (mkS a)) [.str (mkS b)] H Q) : MtR X id (mOf X.K ct W (tt1 g)) := by
  intro pins s σ H x vs v us Q I rx rv h
  obtain ⟨F, μ, st, w, ws, σ', r, r1, r2, p⟩ := h
  unfold tt1 at p
  split at p
  · rename_i y
    obtain ⟨yv, rfl, ry⟩ := r2.one
    split at p
    · rename_i a b ea eb
      obtain rfl := strOf_ok r1 ea
      obtain rfl := strOf_ok ry eb
      split at p
      · rename_i w' ew
        exact hm pins s σ H _ _ v us Q I rx rv (hr a b w' F μ H Q ew fun v q => p.here r q)
      · exact p.elim
    · exact p.elim
  · exact p.elim
abbrev findV := tt1 fun a b => some (.int (Txt.find (mkS a) (mkS b)))
theorem mt_findV : MtR X "str.find" (mOf X.K ct W findV) := mt_tt1 mt_find fun a b w F μ H Q e h => by
  cases e
  exact ⟨_, _, rfl, rfl, h _ (.int _)⟩
abbrev lstripV := tt1 fun a b => if a.length ≤ sizeLine then some (.str (Txt.lstripChars (mkS a) (mkS b)).cps.toList) else none
theorem mt_lstripV : MtR X "str.lstrip" (mOf X.K ct W lstripV) := mt_tt1 mt_lstripChars fun a b w F μ H Q e h => by
  split at e
  · rename_i hz
    cases e
    refine ⟨_, _, rfl, rfl, by rw [mkS_len]; exact hz, ?_⟩
    have := h _ (.str _)
    rw [mkS_tl] at this
    exact this
  · cases e
/-- of a text alone -/
def tt0 (g : Tx → Va) (x : Va) (l : List Va) (st : Sto) : R Va := match l with
  | [] => match strOf x with
    | some a => .ok (g a) st
    | none => .stuck
  | _ => .stuck
theorem mt_tt0 {id : String} {r0 : V → List V → Hp → VK → Prop} (hm : MtR X id r0) {g : Tx → Va} (hr : ∀ (a : Tx) (F : Hp) (μ : List Addr) (H : Hp) (Q : VK), (∀ v, RV X.K F μ (g a) v → Q v H) → r0 (.str (mkS a)) [] H Q) : MtR X id (mOf X.K ct W (tt0 g)) := by
  intro pins s σ H x vs v us Q I rx rv h
  obtain ⟨F, μ, st, w, ws, σ', r, r1, r2, p⟩ := h
  unfold tt0 at p
  split at p
  · cases r2
    split at p
    · rename_i a ea
      obtain rfl := strOf_ok r1 ea
      exact hm pins s σ H _ _ v us Q I rx rv (hr a F μ H Q fun v q => p.here r q)
    · exact p.elim
  · exact p.elim
abbrev isalnumV := tt0 fun a => .bl (Txt.isalnum (mkS a))
theorem mt_isalnumV : MtR X "str.isalnum" (mOf X.K ct W isalnumV) := mt_tt0 mt_isalnum fun a F μ H Q h => ⟨_, rfl, rfl, trivial, h _ (.bl _)⟩
abbrev isdigitV := tt0 fun a => .bl (Txt.isdigit (mkS a))
theorem mt_isdigitV : MtR X "str.isdigit" (mOf X.K ct W isdigitV) := mt_tt0 mt_isdigit fun a F μ H Q h => ⟨_, rfl, rfl, trivial, h _ (.bl _)⟩
end
end G

set_option Elab.async false
set_option linter.all false
set_option maxRecDepth 100000
set_option maxHeartbeats 4000000
/-! enumerate over a tuple, over a text -/
namespace G
open PySem PySem.Spec PyProof.Rows L2
/-- enumerate(v) over any source: an iterator, then the pair-maker -/
theorem meets_enum_any {v : Value} {o : Obj} {H : Heap → Prop} (B : Begins v o H) :
    Meets (Builtin.«enumerate.__new__» ⟨[.type "enumerate", v], []⟩) (fun _ R s => H s.heap ∧ R (.ok (.ret (.ref (s.heap.push o).objs.size))) { s with heap := (s.heap.push o).push { cls := .type "enumerate", data := .fields #[.none, .bool false, .ref s.heap.objs.size, rawInt 0, .none, .none] } }) := .of_wp fun P w A R s q => by
  obtain ⟨hp, gs, dr, tk, ost⟩ := s
  obtain ⟨hH, q⟩ := q
  have subE := sub_enumerate
  have go : ∀ {A' : Around} {E' : Value → Shared → Prop} {Q' : Value → Shared → Prop}, Q' (.ref hp.objs.size) ⟨hp.push o, gs, dr, tk, ost⟩ → wpAny (model P w) A' (pyIter v) Q' E' ⟨hp, gs, dr, tk, ost⟩ := fun z => B.iter P w _ _ ⟨hp, gs, dr, tk, ost⟩ _ hH z
  wp_walk
  refine wpAny_stack_any fun st => wpAny_pure ?_
  split
  · rename_i c _ _ _ _ _
    cases (c == Value.type "enumerate") <;> (wp_walk using go; exact ⟨_, rfl, q⟩)
  · wp_walk using go
    exact ⟨_, rfl, q⟩
theorem call_enum_any {prog : Program} {w : World} {A : Around} {E : Value → Shared → Prop} {s : Shared} {v : Value} {o : Obj} {H : Heap → Prop} {Q : Value → Shared → Prop} (B : Begins v o H) (hH : H s.heap)
    (k : ∀ h', IsEnum h' (s.heap.objs.size + 1) s.heap.objs.size 0 .none → h'.get? s.heap.objs.size = some o → (∀ b ob, s.heap.get? b = some ob → h'.get? b = some ob) → Q (.ref (s.heap.objs.size + 1)) { s with heap := h' }) : wpAny (model prog w) A (call (.type "enumerate") [v]) Q E s := by
  refine callType_new F.called_enumerate (by decide) (F.typeCall_enumerate_1 _) (F.newCall_enumerate_1 _) (fun ob => F.args_object_init_2 ob _) F.entry_enumerate_new (meets_enum_any B) ⟨hH, ?_⟩
  have z1 : (s.heap.push o).objs.size = s.heap.objs.size + 1 := by rw [Heap.size_push]
  show _ ∧ _
  rw [z1]
  have ge : ((s.heap.push o).push { cls := .type "enumerate", data := .fields #[.none, .bool false, .ref s.heap.objs.size, rawInt 0, .none, .none] }).get? (s.heap.push o).objs.size = some { cls := .type "enumerate", data := .fields #[.none, .bool false, .ref s.heap.objs.size, rawInt 0, .none, .none] } := Heap.get?_push_size _ rfl
  rw [z1] at ge
  exact ⟨⟨_, ge, rfl⟩, k _ ge (Heap.get?_push_of_some _ (Heap.get?_push_size _ B.free)) fun b ob e => Heap.get?_push_of_some _ (Heap.get?_push_of_some _ e)⟩
/-- pairs of number and item -/
def IteA (get : Hp → List V → Prop) : It :=
  ⟨fun i H => ∃ (xs : List V) (x : V), get H xs ∧ xs[i]? = some x, fun i H v H' => ∃ T x, v = .ref T ∧ H T = none ∧ H' = upd H T (.tup [.int (i : Nat), x]) ∧ ∀ xs, get H xs → xs[i]? = some x, fun i H => ∃ xs : List V, get H xs ∧ xs.length = i⟩
def signV (z : Str) : List V := z.cps.toList.map fun c => .str ⟨#[c]⟩
/-- what a source of items is, under an iterator at it -/
structure Src (P : Program) (w : World) (K : PySem.W.Frag) (it : Addr) (get : Hp → List V → Prop) (tnI : Nat → Heap → Prop) : Prop where
  ob : ∀ i h, tnI i h → ∃ o, h.get? it = some o ∧ o.cls ≠ .type "enumerate" ∧ ∀ v, o.data ≠ .cell v
  keep : ∀ i h h', tnI i h → (∀ o, h.get? it = some o → h'.get? it = some o) → tnI i h'
  draws : ∀ (X : Cx), X.prog = P → X.w = w → X.K = K → X.calm = true → ∀ (i : Nat) (pins : List (Addr × Obj)) (s : Shared) (σ : L2.St) (H : Hp), Inv X pins σ H s → tnI i s.heap → ∀ xs, get H xs →
    ∃ (fp : List Addr) (Pv : Nat → Value → Prop) (St : Nat → Heap → Prop), Draws P w X.A.in1 it fp xs.length Pv St ∧ St i s.heap ∧ (∀ b ∈ fp, ∀ o, s.heap.get? b = some o → o.cls ≠ .type "enumerate") ∧ (∀ v, Pv i v → ∃ x, xs[i]? = some x ∧ RelV x v) ∧ (∀ j h, St j h → tnI j h) ∧
      ∀ ys, get H ys → ys = xs
theorem turn_enumAny {P : Program} {w : World} {K : PySem.W.Frag} {elts : List Expr} {kk : Nat} {tpos : Pos} {get : Hp → List V → Prop} {tnI : Nat → Heap → Prop} {e it : Addr} (S : Src P w K it get tnI) :
    Turn P w K (.Tuple elts kk tpos) (IteA get) [e, it] e (fun i h => (∃ old, IsEnum h e it ((i : Nat) : Int) old) ∧ tnI i h ∧ e ≠ it) where
  mem := by simp
  obj := fun i h ⟨⟨old, he⟩, hi, hne⟩ b hb => by
    have eb : b = e ∨ b = it := by simpa using hb
    rcases eb with z | z
    · rw [z]; exact ⟨_, he, fun v q => nomatch q⟩
    · rw [z]; exact let ⟨o, h1, _, h2⟩ := S.ob i h hi; ⟨o, h1, h2⟩
  keep := fun i h h' ⟨⟨old, he⟩, hi, hne⟩ k => ⟨⟨old, k e (by simp) _ he⟩, S.keep i h h' hi fun o q => k it (by simp) o q, hne⟩
  item := by
    intro X hP hw hK hc i pins s σ H E I hf ⟨⟨old, he⟩, hi, hne⟩ ⟨xs, x, hq, hx⟩
    obtain ⟨fp, Pv, St, D, hst, hfp, hv, hback, huniq⟩ := S.draws X hP hw hK hc i pins s σ H I hi xs hq
    subst hP hw hK
    have hlt : i < xs.length := (List.getElem?_eq_some_iff.mp hx).1
    have hef : e ∉ fp := fun hm => hfp e hm _ he rfl
    have hel : e < s.heap.objs.size := Heap.lt_size he
    have hil : it < s.heap.objs.size := by obtain ⟨o, q, _⟩ := S.ob i _ hi; exact Heap.lt_size q
    refine wpAny_pyNext_enum_itemD D he hst hlt hne hef fun u h' tk hu ho hst' hT hsz hk => ?_
    obtain ⟨x', hx', ru⟩ := hv u hu
    obtain rfl : x' = x := Option.some.inj (hx'.symm.trans hx)
    refine ⟨_, rfl, wpAny_letOwnedTupleGo_enum (s := { s with heap := h', toks := tk + 1 }) ho fun h'' he' sb => ?_⟩
    have hT2 : h''.get? s.heap.objs.size = some { cls := .type "tuple", data := .seq #[.int i tk, u] } := (sb.2 _ (Nat.ne_of_gt hel)).trans hT
    have fresh : ObjOk X.prog X.w (upd H s.heap.objs.size (.tup [.int (i : Nat), x'])) h'' s.heap.objs.size (.tup [.int (i : Nat), x']) := ⟨by show 2 ≤ sizeLine; decide, [.int i tk, u], .cons ⟨_, rfl⟩ (.cons ru .nil), ⟨_, hT2, rfl, _, rfl⟩⟩
    have I1 : Inv X pins σ (upd H s.heap.objs.size (.tup [.int (i : Nat), x'])) { s with heap := h'', toks := tk + 1 } :=
      I.turnedNew (t' := tk + 1) (ch := [e, it]) (fun b o hb q => (sb.2 b (fun z => hb (by simp [z]))).trans (hk b o (fun z => hb (by simp [z])) (fun z => hb (by simp [z])) q)) hf (Nat.le_refl _) fresh
    refine ⟨.ref s.heap.objs.size, _, I1, rfl, ⟨_, x', rfl, I.hok.fresh (Nat.le_refl _), rfl, fun ys hy => by rw [huniq ys hy]; exact hx⟩, ⟨⟨u, ?_⟩, S.keep (i + 1) h' h'' (hback _ _ hst') fun o q => (sb.2 it (Ne.symm hne)).trans q, hne⟩, fun b hb => ?_⟩
    · rw [show ((i + 1 : Nat) : Int) = (i : Int) + 1 by omega]
      exact he'
    · have hb' : b < s.heap.objs.size := by
        have eb : b = e ∨ b = it := by simpa using hb
        rcases eb with z | z
        · rw [z]; exact hel
        · rw [z]; exact hil
      rw [upd_ne (Nat.ne_of_lt hb')]
      exact (hf b hb).1
  done := by
    intro X hP hw hK hc i pins s σ H E I hf ⟨⟨old, he⟩, hi, hne⟩ ⟨xs, hq, hx⟩
    obtain ⟨fp, Pv, St, D, hst, hfp, hv, hback, huniq⟩ := S.draws X hP hw hK hc i pins s σ H I hi xs hq
    obtain ⟨f0, f1, f2, f3, f4, f5⟩ := hf it (by simp)
    subst hP hw hK hx
    exact wpAny_pyNext_enum_endD D he hst fun h' eb => ⟨rfl, I.turned (t' := s.toks) (fun b o hb q => eb b o hb q) f0 f1 f3 f4 f5⟩
  self := fun A i s Q E ⟨⟨_, he⟩, _⟩ h => wpAny_pyIter_enum he h
theorem vals_back {xs : List V} {us : List Value} (r : Vals xs us) : ∀ {i : Nat} {v : Value}, us[i]? = some v → ∃ x, xs[i]? = some x ∧ RelV x v := by
  induction r with
  | nil => intro i v h; simp at h
  | cons r t ih =>
    intro i v h
    cases i with
    | zero =>
      simp at h
      subst h
      exact ⟨_, rfl, r⟩
    | succ i => exact ih (by simpa using h)
theorem src_tup {P : Program} {w : World} {K : PySem.W.Frag} (a it : Addr) : Src P w K it (fun H xs => SqT K H a xs) (fun i h => h.IsTupleIter it a i) where
  ob := fun i h ⟨o, ho, hc, hd⟩ => ⟨o, ho, by rw [hc]; decide, fun v z => by rw [hd] at z; cases z⟩
  keep := fun i h h' st k => st.at k
  draws := by
    intro X hP hw hK hc i pins s σ H I st xs hq
    subst hP hw hK
    obtain ⟨its, rv, p, hz⟩ := I.tuple hq
    have hne : a ≠ it := fun z => by
      subst z
      obtain ⟨o, ho, c1, _⟩ := st
      obtain ⟨o', ho', c2, _⟩ := p
      rw [ho] at ho'
      cases ho'
      rw [c1] at c2
      exact absurd c2 (by decide)
    have hl := rv.length
    have D := Draws.tuple (prog := X.prog) (w := X.w) (A := X.A.in1) (show X.A.in1.handled = none from I.ok.hd hc) it a hne its.toArray
    rw [show its.toArray.size = xs.length by simp [hl]] at D
    refine ⟨[it, a], fun i v => its.toArray[i]? = some v, fun i h => h.IsTupleIter it a i ∧ h.IsTuple a its.toArray, D, ⟨st, p⟩, fun b hb o ho => ?_, fun v hv => ?_, fun j h hh => hh.1, fun ys hy => I.tuple_inj hy hq⟩
    · have eb : b = it ∨ b = a := by simpa using hb
      rcases eb with z | z
      · obtain ⟨o', ho', c, _⟩ := st
        rw [z, ho'] at ho
        cases ho
        rw [c]; decide
      · obtain ⟨o', ho', c, _⟩ := p
        rw [z, ho'] at ho
        cases ho
        rw [c]; decide
    · exact vals_back rv (show its[i]? = some v by simpa using hv)
theorem src_str {P : Program} {w : World} {K : PySem.W.Frag} (it : Addr) (z : Str) (t : Tok) : Src P w K it (fun _ xs => xs = signV z) (fun i h => h.IsStrIter it (strIterType z) z t i) where
  ob := fun i h ⟨o, ho, hc, hd⟩ => ⟨o, ho, by rw [hc]; unfold strIterType; split <;> decide, fun v q => by rw [hd] at q; cases q⟩
  keep := fun i h h' st k => let ⟨o, ho, r⟩ := st; ⟨o, k o ho, r⟩
  draws := by
    intro X hP hw hK hc i pins s σ H I st xs hq
    subst hP hw hK hq
    have D := Draws.text (prog := X.prog) (w := X.w) (A := X.A.in1) (show X.A.in1.handled = none from I.ok.hd hc) it z t
    rw [show z.cps.size = (signV z).length by simp [signV]] at D
    refine ⟨[it], fun i v => ∃ c u, z.cps[i]? = some c ∧ v = .str ⟨#[c]⟩ u, fun i h => h.IsStrIter it (strIterType z) z t i, D, st, fun b hb o ho => ?_, fun v hv => ?_, fun j h hh => hh, fun ys hy => hy⟩
    · have eb : b = it := by simpa using hb
      obtain ⟨o', ho', c, _⟩ := st
      rw [eb, ho'] at ho
      cases ho
      rw [c]
      unfold strIterType
      split <;> decide
    · obtain ⟨c, u, hx, rfl⟩ := hv
      refine ⟨.str ⟨#[c]⟩, ?_, u, rfl⟩
      simp [signV, hx]
def iEnumA (K : PySem.W.Frag) (ta : TA) : TI := fun σ H R => ta σ H fun vs H1 => (∃ a xs, vs = [.ref a] ∧ SqL K H1 a xs ∧ R (Ite K a) H1) ∨ (∃ a xs, vs = [.ref a] ∧ SqT K H1 a xs ∧ R (IteA fun H xs => SqT K H a xs) H1) ∨ ∃ z, vs = [.str z] ∧ R (IteA fun _ xs => xs = signV z) H1
theorem pi_enumA {X : Cx} {e : Expr} {ta : TA} {p pos tpos : Pos} {elts : List Expr} {kk : Nat} (hg : Gl X "enumerate") (hm : X.mg "enumerate" = none) (ha : PA X [e] ta) (hs : starEach [e] X.env = [(false, eval e X.env)]) : PI X (.Tuple elts kk tpos) (.Call (.Name "enumerate" p) [e] [] pos) (iEnumA X.K ta) := by
  refine ⟨fun pins s σ H R I h => Call_ (ld_blt I hg hm boot_enumerate (PyProof.Rows.callWith_type1 (thn (ha.run pos pins s σ H _ I h) fun us s1 ⟨vs, H1, I1, r1, q1⟩ => ?_) hs rfl))⟩
  have two : ∀ b, b ∈ [s1.heap.objs.size + 1, s1.heap.objs.size] → FpOk X pins H1 b := fun b hb => by
    have eb : b = s1.heap.objs.size + 1 ∨ b = s1.heap.objs.size := by simpa using hb
    have hle : s1.heap.objs.size ≤ b := by
      rcases eb with z | z
      · rw [z]; exact Nat.le_add_right _ _
      · rw [z]; exact Nat.le_refl _
    exact I1.fpOk hle (I1.hok.fresh hle)
  rcases q1 with ⟨a, xs, rfl, hq, q⟩ | ⟨a, xs, rfl, hq, q⟩ | ⟨z, rfl, q⟩
  · cases r1 with
    | cons r rr =>
    cases rr
    cases r
    obtain ⟨its, rv, p', hz⟩ := I1.list hq
    refine call_enumerate_list p'.isList fun h' he hit hsz hk => wpAny_pyIter_enum he ?_
    exact ⟨s1.heap.objs.size + 1, _, _, _, H1, rfl, I1.kept (t' := s1.toks) hk, turn_enum a (s1.heap.objs.size + 1) s1.heap.objs.size, ⟨⟨.none, he⟩, hit, Nat.succ_ne_self _⟩, two, q⟩
  · cases r1 with
    | cons r rr =>
    cases rr
    cases r
    obtain ⟨its, rv, p', hz⟩ := I1.tuple hq
    refine call_enum_any (begins_tuple a its.toArray) p' fun h' he hit hk => wpAny_pyIter_enum he ?_
    exact ⟨s1.heap.objs.size + 1, _, _, _, H1, rfl, I1.kept (t' := s1.toks) hk, turn_enumAny (src_tup a s1.heap.objs.size), ⟨⟨.none, he⟩, ⟨_, hit, rfl, rfl⟩, Nat.succ_ne_self _⟩, two, q⟩
  · cases r1 with
    | cons r rr =>
    cases rr
    obtain ⟨t, rfl⟩ := r
    refine call_enum_any (begins_text z t) trivial fun h' he hit hk => wpAny_pyIter_enum he ?_
    exact ⟨s1.heap.objs.size + 1, _, _, _, H1, rfl, I1.kept (t' := s1.toks) hk, turn_enumAny (src_str s1.heap.objs.size z t), ⟨⟨.none, he⟩, ⟨_, hit, rfl, rfl⟩, Nat.succ_ne_self _⟩, two, q⟩
end G

set_option Elab.async false
set_option linter.all false
set_option maxRecDepth 100000
set_option maxHeartbeats 4000000
namespace G
open PySem PySem.Spec PyProof.Rows L2

/-! ### what is walked -/
/-- a list of the store that must stand as it is while it is walked -/
abbrev Gd := Option (Nat × List Va)
def gdOk (g : Gd) (st : Sto) : Prop := match g with
  | none => True
  | some (p, l) => st[p]? = some (some (.lst l))
/-- J walks the items ws: at every later state -/
def IterOk (K : PySem.W.Frag) (ct : Ct) (F : Hp) (μ : List Addr) (J : It) (wg : List Va × Gd) : Prop :=
  ∀ F' μ' st' H', Same F F' → μ <+: μ' → Rel K ct F' μ' st' H' → gdOk wg.2 st' → ∀ i : Nat, (i = wg.1.length → J.stop i H') ∧
    ∀ w, wg.1[i]? = some w → J.go i H' ∧ ∀ x H'', J.yld i H' x H'' → ∃ F'', Ext F' μ' H' F'' μ' H'' ∧ Rel K ct F'' μ' st' H'' ∧ RV K F'' μ' w x
theorem IterOk.mono {K : PySem.W.Frag} {ct : Ct} {F F1 : Hp} {μ μ1 : List Addr} {J : It} {wg : List Va × Gd} (h : IterOk K ct F μ J wg) (e : Same F F1) (hp : μ <+: μ1) : IterOk K ct F1 μ1 J wg :=
  fun F' μ' st' H' e' hp' => h F' μ' st' H' (fun a o q => e' a o (e a o q)) (hp.trans hp')
abbrev RI (K : PySem.W.Frag) (ct : Ct) : Hp → List Addr → (List Va × Gd) → It → Prop := fun F μ wg J => IterOk K ct F μ J wg
abbrev TI' (X : Cx) (ct : Ct) (W : WX) (m : Mx (List Va × Gd)) : TI := TOf X.K ct W (RI X.K ct) m
theorem PI.mono {X : Cx} {tg e : Expr} {t t' : TI} (h : PI X tg e t) (i : ∀ σ H Q, t' σ H Q → t σ H Q) : PI X tg e t' := ⟨fun pins s σ H Q I q => h.run pins s σ H Q I (i σ H Q q)⟩
section
variable {K : PySem.W.Frag} {ct : Ct} {F : Hp} {μ : List Addr} {a : Addr} {ws : List Va} {vs : List V}
theorem iter_list (rs : RVs K F μ ws vs) {g : Gd} (hq : ∀ F' μ' st' H', Same F F' → μ <+: μ' → Rel K ct F' μ' st' H' → gdOk g st' → SqL K H' a vs) : IterOk K ct F μ (Itl K a) (ws, g) := by
  intro F' μ' st' H' e hp r hg i
  have h := hq F' μ' st' H' e hp r hg
  refine ⟨fun hi => ⟨vs, h, by rw [hi, ← rs.length]; exact Nat.le_refl _⟩, fun w hw => ?_⟩
  obtain ⟨v, hv, rv⟩ := rs.get hw
  refine ⟨⟨vs, v, h, hv⟩, fun x H'' y => ?_⟩
  obtain ⟨rfl, y⟩ := y
  have ex := y vs h
  rw [hv] at ex
  cases ex
  exact ⟨F', .refl, r, rv.mono e hp⟩
theorem iter_tup (rs : RVs K F μ ws vs) (hq : SqT K F a vs) : IterOk K ct F μ (Itt K a) (ws, none) := by
  intro F' μ' st' H' e hp r hg i
  have h : SqT K H' a vs := Same.tupl r.sub (Same.tupl e hq)
  refine ⟨fun hi => ⟨vs, h, by rw [hi, ← rs.length]; exact Nat.le_refl _⟩, fun w hw => ?_⟩
  obtain ⟨v, hv, rv⟩ := rs.get hw
  refine ⟨⟨vs, v, h, hv⟩, fun x H'' y => ?_⟩
  obtain ⟨rfl, y⟩ := y
  have ex := y vs h
  rw [hv] at ex
  cases ex
  exact ⟨F', .refl, r, rv.mono e hp⟩
def signs (z : Tx) : List Va := z.map fun c => .str [c]
theorem iter_str (z : Tx) : IterOk K ct F μ (Its (mkS z)) (signs z, none) := by
  intro F' μ' st' H' e hp r hg i
  have hz : (mkS z).cps.size = z.length := by simp [mkS]
  refine ⟨fun hi => ?_, fun w hw => ?_⟩
  · show (mkS z).cps.size ≤ i
    rw [hz, hi]
    simp [signs]
  · simp only [signs, List.getElem?_map] at hw
    obtain ⟨c, hc, rfl⟩ := map_some hw
    have hi := (List.getElem?_eq_some_iff.mp hc).1
    refine ⟨show i < (mkS z).cps.size by rw [hz]; exact hi, fun x H'' y => ?_⟩
    obtain ⟨rfl, c', hc', rfl⟩ := y
    have : c' = c := by
      have e1 : (mkS z).cps[i]? = z[i]? := by simp [mkS]
      rw [e1, hc] at hc'
      exact (Option.some.inj hc').symm
    subst this
    exact ⟨F', .refl, r, .str [c']⟩
def rints (lo : Int) (n : Nat) : List Va := (List.range n).map fun i => .int (lo + (i : Nat))
theorem iter_rng (lo : Int) (n : Nat) : IterOk K ct F μ (Itr lo n) (rints lo n, none) := by
  intro F' μ' st' H' e hp r hg i
  refine ⟨fun hi => ?_, fun w hw => ?_⟩
  · show n ≤ i
    rw [hi]; simp [rints]
  · simp only [rints, List.getElem?_map] at hw
    obtain ⟨c, hc, rfl⟩ := map_some hw
    have hi := (List.getElem?_eq_some_iff.mp hc).1
    rw [List.length_range] at hi
    rw [List.getElem?_range hi] at hc
    cases hc
    refine ⟨hi, fun x H'' y => ?_⟩
    obtain ⟨rfl, rfl⟩ := y
    exact ⟨F', .refl, r, .int _⟩
/-- pairs with numbers -/
def numbered (ws : List Va) : List Va := ws.zipIdx.map fun p => .tup [.int (p.2 : Nat), p.1]
theorem numbered_get {ws : List Va} {i : Nat} {w : Va} (h : (numbered ws)[i]? = some w) : ∃ x, ws[i]? = some x ∧ w = .tup [.int (i : Nat), x] := by
  unfold numbered at h
  rw [List.getElem?_map] at h
  obtain ⟨p, hp, rfl⟩ := map_some h
  rw [List.getElem?_zipIdx] at hp
  obtain ⟨x, hx, rfl⟩ := map_some hp
  exact ⟨x, hx, by simp⟩
theorem iter_enumL (rs : RVs K F μ ws vs) {g : Gd} (hq : ∀ F' μ' st' H', Same F F' → μ <+: μ' → Rel K ct F' μ' st' H' → gdOk g st' → SqL K H' a vs) : IterOk K ct F μ (Ite K a) (numbered ws, g) := by
  intro F' μ' st' H' e hp r hg i
  have h := hq F' μ' st' H' e hp r hg
  refine ⟨fun hi => ⟨vs, h, by rw [hi, ← rs.length]; simp [numbered]⟩, fun w hw => ?_⟩
  obtain ⟨y, hy, rfl⟩ := numbered_get hw
  obtain ⟨v, hv, rv⟩ := rs.get hy
  refine ⟨⟨vs, v, h, hv⟩, fun x H'' yy => ?_⟩
  obtain ⟨T, x', rfl, nT, rfl, yy⟩ := yy
  have ex := yy vs h
  rw [hv] at ex
  cases ex
  exact ⟨_, .frz r nT _, r.frz nT _, .tup (.of upd_same) (.cons (.int _) (.cons ((rv.mono e hp).mono (same_upd (r.nofrz nT)) List.prefix_rfl) .nil))⟩
end

section
variable {X : Cx} {ct : Ct} {W : WX} {tg : Expr}
/-- what a value is walked as -/
def itV (x : Va) (st : Sto) : R (List Va × Gd) := match x with
  | .str z => .ok (signs z, none) st
  | .tup l => .ok (l, none) st
  | .lst l => .ok (l, none) st
  | .scr l => .ok (l, none) st
  | .ref p => match st[p]? with
    | some (some (.lst l)) => .ok (l, some (p, l)) st
    | _ => .stuck
  | _ => .stuck
def mIt (m : Mx Va) : Mx (List Va × Gd) := fun env st => (m env st).bind itV
/-- a reading of a walked value -/
def iAny (K : PySem.W.Frag) (tl : TE) : TI := fun σ H R => tl σ H fun x H1 =>
  (∃ a, x = .ref a ∧ (∃ xs, SqL K H1 a xs) ∧ R (Itl K a) H1) ∨ (∃ a, x = .ref a ∧ (∃ xs, SqT K H1 a xs) ∧ R (Itt K a) H1) ∨ ∃ z, x = .str z ∧ R (Its z) H1
theorem PE.val {pins : List (Addr × Obj)} {σ : L2.St} {H : Hp} {s : Shared} {x : V} {v : Value} (I : L2.Inv X pins σ H s) (r : RelV x v) : True := trivial
theorem pi_any {l : Expr} {tl : TE} (hl : PE X l tl) : PI X tg l (iAny X.K tl) := by
  refine ⟨fun pins s σ H R I h => ?_⟩
  refine thn (hl.run pins s σ H _ I h) fun v s1 ⟨x, H1, I1, r1, q1⟩ => ?_
  rcases q1 with ⟨a, e, ⟨xs, hq⟩, q⟩ | ⟨a, e, ⟨xs, hq⟩, q⟩ | ⟨z, e, q⟩
  · subst e
    cases r1
    obtain ⟨its, rv, p, hz⟩ := I1.list hq
    refine wpAny_pyIter_list p.isList ?_
    refine ⟨s1.heap.objs.size, [s1.heap.objs.size], _, _, H1, rfl, I1.kept (t' := s1.toks) fun b o e => Heap.get?_push_of_some _ e, turn_list a _, ⟨_, Heap.get?_push_size _ rfl, rfl, rfl⟩, fun b hb => ?_, q⟩
    have e : b = s1.heap.objs.size := by simpa using hb
    subst e
    exact I1.fpOk (Nat.le_refl _) (I1.hok.fresh (Nat.le_refl _))
  · subst e
    cases r1
    obtain ⟨its, rv, p, hz⟩ := I1.tuple hq
    refine wpAny_pyIter_tuple (show s1.heap.IsTuple a its.toArray from p) ?_
    refine ⟨s1.heap.objs.size, [s1.heap.objs.size], _, _, H1, rfl, I1.kept (t' := s1.toks) fun b o e => Heap.get?_push_of_some _ e, turn_tuple a _, ⟨_, Heap.get?_push_size _ rfl, rfl, rfl⟩, fun b hb => ?_, q⟩
    have e : b = s1.heap.objs.size := by simpa using hb
    subst e
    exact I1.fpOk (Nat.le_refl _) (I1.hok.fresh (Nat.le_refl _))
  · subst e
    obtain ⟨t, rfl⟩ := r1
    cases ha : z.cps.all (· < 128)
    · exact wpAny_pyIter_wide ha (pi_one (tk := s1.toks) I1 _ (turn_str _ z t "str_iterator" (.inr rfl)) ⟨_, Heap.get?_push_size _ rfl, rfl, rfl⟩ q)
    · exact wpAny_pyIter_ascii ha (pi_one (tk := s1.toks) I1 _ (turn_str _ z t "str_ascii_iterator" (.inl rfl)) ⟨_, Heap.get?_push_size _ rfl, rfl, rfl⟩ q)
theorem sqL_later {K : PySem.W.Frag} {F : Hp} {μ : List Addr} {a : Addr} {vs : List V} (h : SqL K F a vs) : ∀ F' μ' st' H', Same F F' → μ <+: μ' → Rel K ct F' μ' st' H' → gdOk none st' → SqL K H' a vs :=
  fun F' μ' st' H' e _ r _ => L2.Same.seq r.sub (L2.Same.seq e h)
theorem sqL_ref {K : PySem.W.Frag} {F : Hp} {μ : List Addr} {a : Addr} {p : Nat} {l : List Va} {vs : List V} {H : Hp} {st : Sto} (r : Rel K ct F μ st H) (e1 : st[p]? = some (some (.lst l))) (e2 : μ[p]? = some a) (h : H a = some (.lst vs)) (rs : RVs K F μ l vs) :
    ∀ F' μ' st' H', Same F F' → μ <+: μ' → Rel K ct F' μ' st' H' → gdOk (some (p, l)) st' → ∃ vs', SqL K H' a vs' ∧ RVs K F' μ' l vs' := by
  intro F' μ' st' H' e hp r' hg
  cases r'.obj p _ a hg (pre_get hp e2) with
  | lst h1 h2 => exact ⟨_, .of h1, h2⟩
theorem iter_ref {K : PySem.W.Frag} {F : Hp} {μ : List Addr} {a : Addr} {p : Nat} {l : List Va} (e2 : μ[p]? = some a) : IterOk K ct F μ (Itl K a) (l, some (p, l)) := by
  intro F' μ' st' H' e hp r hg i
  cases r.obj p _ a hg (pre_get hp e2) with
  | @lst _ vs h1 h2 =>
  have h : SqL K H' a vs := .of h1
  refine ⟨fun hi => ⟨vs, h, by rw [hi, ← h2.length]; exact Nat.le_refl _⟩, fun w hw => ?_⟩
  obtain ⟨v, hv, rv⟩ := h2.get hw
  refine ⟨⟨vs, v, h, hv⟩, fun x H'' y => ?_⟩
  obtain ⟨rfl, y⟩ := y
  have ex := y vs h
  rw [hv] at ex
  cases ex
  exact ⟨F', .refl, r, rv⟩
theorem iter_enumR {K : PySem.W.Frag} {F : Hp} {μ : List Addr} {a : Addr} {p : Nat} {l : List Va} (e2 : μ[p]? = some a) : IterOk K ct F μ (Ite K a) (numbered l, some (p, l)) := by
  intro F' μ' st' H' e hp r hg i
  cases r.obj p _ a hg (pre_get hp e2) with
  | @lst _ vs h1 h2 =>
  have h : SqL K H' a vs := .of h1
  refine ⟨fun hi => ⟨vs, h, by rw [hi, ← h2.length]; simp [numbered]⟩, fun w hw => ?_⟩
  obtain ⟨y, hy, rfl⟩ := numbered_get hw
  obtain ⟨v, hv, rv⟩ := h2.get hy
  refine ⟨⟨vs, v, h, hv⟩, fun x H'' yy => ?_⟩
  obtain ⟨T, x', rfl, nT, rfl, yy⟩ := yy
  have ex := yy vs h
  rw [hv] at ex
  cases ex
  exact ⟨_, .frz r nT _, r.frz nT _, .tup (.of upd_same) (.cons (.int _) (.cons (rv.mono (same_upd (r.nofrz nT)) List.prefix_rfl) .nil))⟩
theorem sim_it {e : Expr} {m : Mx Va} (he : PE X e (TE' X ct W m)) : PI X tg e (TI' X ct W (mIt m)) := by
  refine PI.mono (pi_any he) fun σ H Q ⟨F, μ, env, st, r, re, p⟩ => ⟨F, μ, env, st, r, re, p.bind fun w st1 F1 μ1 H1 v _ x1 r1 rv p1 => ?_⟩
  unfold itV at p1
  cases rv with
  | str z => exact .inr (.inr ⟨_, rfl, p1.here r1 (iter_str z)⟩)
  | tup hs rs => exact .inr (.inl ⟨_, rfl, ⟨_, Same.tupl r1.sub hs⟩, p1.here r1 (iter_tup rs hs)⟩)
  | lst hs rs => exact .inl ⟨_, rfl, ⟨_, .of (r1.sub _ _ hs)⟩, p1.here r1 (iter_list rs (sqL_later (.of hs)))⟩
  | scr hs rs => exact .inl ⟨_, rfl, ⟨_, L2.Same.seq r1.sub hs⟩, p1.here r1 (iter_list rs (sqL_later hs))⟩
  | ref hp =>
    simp only at p1
    split at p1
    · rename_i l e
      cases r1.obj _ _ _ e hp with
      | lst h1 h2 => exact .inl ⟨_, rfl, ⟨_, .of h1⟩, p1.here r1 (iter_ref hp)⟩
    · exact p1.elim
  | _ => exact p1.elim
/-- range(i, j, -1) -/
def rdown (lo : Int) (n : Nat) : List Va := (List.range n).map fun (m : Nat) => .int (lo - m)
theorem iter_rdown {K : PySem.W.Frag} {ct : Ct} {F : Hp} {μ : List Addr} (lo : Int) (n : Nat) : IterOk K ct F μ (Itc lo (-1) n) (rdown lo n, none) := by
  intro F' μ' st H _ _ r _ i
  refine ⟨fun e => ?_, fun w hw => ?_⟩
  · show n ≤ i
    rw [e]
    simp [rdown]
  · unfold rdown at hw
    rw [List.getElem?_map] at hw
    by_cases hi : i < n
    · rw [List.getElem?_range hi] at hw
      cases hw
      refine ⟨hi, fun x H'' y => ?_⟩
      obtain ⟨rfl, rfl⟩ := y
      refine ⟨_, .refl, r, ?_⟩
      rw [show lo + (i : Nat) * (-1 : Int) = lo - (i : Nat) by omega]
      exact .int _
    · rw [List.getElem?_eq_none (by simpa using hi)] at hw
      cases hw
/-- range(n), range(a, b) -/
def i62 (i : Int) : Bool := decide (-(2 ^ 62) ≤ i ∧ i < 2 ^ 62)
def rngV (l : List Va) (st : Sto) : R (List Va × Gd) := match l with
  | [.int j] => if i62 j then .ok (rints 0 j.toNat, none) st else .stuck
  | [.int i, .int j] => if i62 i && i62 j then .ok (rints i (j - i).toNat, none) st else .stuck
  | [.int i, .int j, .int c] => if c = -1 then if i62 i && i62 j then .ok (rdown i (i - j).toNat, none) st else .stuck else .stuck
  | _ => .stuck
def mRng (ml : Mx (List Va)) : Mx (List Va × Gd) := fun env st => (ml env st).bind rngV
theorem sim_rng1 {a : Expr} {ml : Mx (List Va)} {p pos : Pos} (hg : Gl X "range") (hm : X.mg "range" = none) (ha : PA X [a] (TA' X ct W ml)) (hs : starEach [a] X.env = [(false, eval a X.env)]) (h1 : ∀ env st ws st', ml env st = .ok ws st' → ws.length = 1) :
    PI X tg (.Call (.Name "range" p) [a] [] pos) (TI' X ct W (mRng ml)) := by
  refine PI.mono (pi_range1 hg hm ha hs) fun σ H Q ⟨F, μ, env, st, r, re, p⟩ => ⟨F, μ, env, st, r, re, p.bind fun ws st1 F1 μ1 H1 vs e1 x1 r1 rvs p1 => ?_⟩
  unfold rngV at p1
  split at p1
  · rename_i j
    obtain ⟨v, rfl, rv⟩ := rvs.one
    cases rv
    split at p1
    · rename_i hc
      obtain ⟨c1, c2⟩ := (of_decide_eq_true hc : -(2 ^ 62) ≤ j ∧ j < 2 ^ 62)
      exact ⟨j, rfl, c1, c2, p1.here r1 (iter_rng 0 _)⟩
    · exact p1.elim
  · have := h1 _ _ _ _ e1
    simp at this
  · have := h1 _ _ _ _ e1
    simp at this
  · exact p1.elim
theorem sim_rng2 {a b : Expr} {ml : Mx (List Va)} {p pos : Pos} (hg : Gl X "range") (hm : X.mg "range" = none) (ha : PA X [a, b] (TA' X ct W ml)) (hs : starEach [a, b] X.env = [(false, eval a X.env), (false, eval b X.env)]) (hs2 : starEach [b] X.env = [(false, eval b X.env)]) (h1 : ∀ env st ws st', ml env st = .ok ws st' → ws.length = 2) :
    PI X tg (.Call (.Name "range" p) [a, b] [] pos) (TI' X ct W (mRng ml)) := by
  refine PI.mono (pi_range2 hg hm ha hs hs2) fun σ H Q ⟨F, μ, env, st, r, re, p⟩ => ⟨F, μ, env, st, r, re, p.bind fun ws st1 F1 μ1 H1 vs e1 x1 r1 rvs p1 => ?_⟩
  unfold rngV at p1
  split at p1
  · have := h1 _ _ _ _ e1
    simp at this
  · rename_i i j
    obtain ⟨v, u, rfl, rv, ru⟩ := rvs.two
    cases rv
    cases ru
    split at p1
    · rename_i hc
      rw [Bool.and_eq_true] at hc
      obtain ⟨c1, c2⟩ := (of_decide_eq_true hc.1 : -(2 ^ 62) ≤ i ∧ i < 2 ^ 62)
      obtain ⟨c3, c4⟩ := (of_decide_eq_true hc.2 : -(2 ^ 62) ≤ j ∧ j < 2 ^ 62)
      exact ⟨i, j, rfl, ⟨c1, c2, c3, c4⟩, p1.here r1 (iter_rng i _)⟩
    · exact p1.elim
  · have := h1 _ _ _ _ e1
    simp at this
  · exact p1.elim
theorem sim_rng3 {a b c : Expr} {ml : Mx (List Va)} {p pos : Pos} (hg : Gl X "range") (hm : X.mg "range" = none) (ha : PA X [a, b, c] (TA' X ct W ml)) (hs : starEach [a, b, c] X.env = (false, eval a X.env) :: starEach [b, c] X.env) (hpl : (backTo pos (starEach [b, c] X.env)).any (·.1) = false) (h1 : ∀ env st ws st', ml env st = .ok ws st' → ws.length = 3) :
    PI X tg (.Call (.Name "range" p) [a, b, c] [] pos) (TI' X ct W (mRng ml)) := by
  refine PI.mono (pi_range3 hg hm ha hs hpl) fun σ H Q ⟨F, μ, env, st, r, re, p⟩ => ⟨F, μ, env, st, r, re, p.bind fun ws st1 F1 μ1 H1 vs e1 x1 r1 rvs p1 => ?_⟩
  have hl := h1 _ _ _ _ e1
  unfold rngV at p1
  split at p1
  · simp at hl
  · simp at hl
  · rename_i i j k
    cases rvs with
    | cons ra rr =>
      cases rr with
      | cons rb rr =>
        cases rr with
        | cons rc rr =>
          cases rr
          cases ra
          cases rb
          cases rc
          split at p1
          · rename_i hk
            subst hk
            split at p1
            · rename_i hc
              rw [Bool.and_eq_true] at hc
              obtain ⟨c1, c2⟩ := (of_decide_eq_true hc.1 : -(2 ^ 62) ≤ i ∧ i < 2 ^ 62)
              obtain ⟨c3, c4⟩ := (of_decide_eq_true hc.2 : -(2 ^ 62) ≤ j ∧ j < 2 ^ 62)
              exact ⟨i, j, -1, _, rfl, RgC.neg c1 c2 c3 c4, p1.here r1 (iter_rdown i _)⟩
            · exact p1.elim
          · exact p1.elim
  · exact p1.elim
/-- enumerate(list, tuple, text) -/
def enumV (l : List Va) (st : Sto) : R (List Va × Gd) := match l with
  | [.lst l] => .ok (numbered l, none) st
  | [.scr l] => .ok (numbered l, none) st
  | [.tup l] => .ok (numbered l, none) st
  | [.str z] => .ok (numbered (signs z), none) st
  | [.ref p] => match st[p]? with
    | some (some (.lst l)) => .ok (numbered l, some (p, l)) st
    | _ => .stuck
  | _ => .stuck
theorem iter_enumA {K : PySem.W.Frag} {F : Hp} {μ : List Addr} {ws : List Va} {vs : List V} {get : Hp → List V → Prop} (rs : RVs K F μ ws vs) (hq : ∀ F' μ' st' H', Same F F' → μ <+: μ' → Rel K ct F' μ' st' H' → get H' vs) : IterOk K ct F μ (IteA get) (numbered ws, none) := by
  intro F' μ' st' H' e hp r hg i
  have h := hq F' μ' st' H' e hp r
  refine ⟨fun hi => ⟨vs, h, by rw [hi, ← rs.length]; simp [numbered]⟩, fun w hw => ?_⟩
  obtain ⟨y, hy, rfl⟩ := numbered_get hw
  obtain ⟨v, hv, rv⟩ := rs.get hy
  refine ⟨⟨vs, v, h, hv⟩, fun x H'' yy => ?_⟩
  obtain ⟨T, x', rfl, nT, rfl, yy⟩ := yy
  have ex := yy vs h
  rw [hv] at ex
  cases ex
  exact ⟨_, .frz r nT _, r.frz nT _, .tup (.of upd_same) (.cons (.int _) (.cons ((rv.mono e hp).mono (same_upd (r.nofrz nT)) List.prefix_rfl) .nil))⟩
theorem signs_ok {K : PySem.W.Frag} {F : Hp} {μ : List Addr} : ∀ z : Tx, RVs K F μ (signs z) (signV (mkS z)) := by
  intro z
  have e : signV (mkS z) = z.map fun c => V.str (mkS [c]) := by simp [signV, mkS]
  rw [e]
  unfold signs
  clear e
  induction z with
  | nil => exact .nil
  | cons c r ih => exact .cons (.str [c]) ih
def mEnum (ml : Mx (List Va)) : Mx (List Va × Gd) := fun env st => (ml env st).bind enumV
theorem sim_enum {e : Expr} {ml : Mx (List Va)} {p pos tpos : Pos} {elts : List Expr} {kk : Nat} (hg : Gl X "enumerate") (hm : X.mg "enumerate" = none) (ha : PA X [e] (TA' X ct W ml)) (hs : starEach [e] X.env = [(false, eval e X.env)]) :
    PI X (.Tuple elts kk tpos) (.Call (.Name "enumerate" p) [e] [] pos) (TI' X ct W (mEnum ml)) := by
  refine PI.mono (pi_enumA hg hm ha hs) fun σ H Q ⟨F, μ, env, st, r, re, p⟩ => ⟨F, μ, env, st, r, re, p.bind fun ws st1 F1 μ1 H1 vs e1 x1 r1 rvs p1 => ?_⟩
  unfold enumV at p1
  split at p1
  · obtain ⟨v, rfl, rv⟩ := rvs.one
    cases rv with
    | lst hs rs => exact .inl ⟨_, _, rfl, .of (r1.sub _ _ hs), p1.here r1 (iter_enumL rs (sqL_later (.of hs)))⟩
  · obtain ⟨v, rfl, rv⟩ := rvs.one
    cases rv with
    | scr hs rs => exact .inl ⟨_, _, rfl, L2.Same.seq r1.sub hs, p1.here r1 (iter_enumL rs (sqL_later hs))⟩
  · obtain ⟨v, rfl, rv⟩ := rvs.one
    cases rv with
    | tup hs rs => exact .inr (.inl ⟨_, _, rfl, Same.tupl r1.sub hs, p1.here r1 (iter_enumA rs fun F' μ' st' H' e _ r => Same.tupl r.sub (Same.tupl e hs))⟩)
  · obtain ⟨v, rfl, rv⟩ := rvs.one
    cases rv with
    | str _ => exact .inr (.inr ⟨_, rfl, p1.here r1 (iter_enumA (signs_ok _) fun _ _ _ _ _ _ _ => rfl)⟩)
  · obtain ⟨v, rfl, rv⟩ := rvs.one
    cases rv with
    | ref hp =>
      split at p1
      · rename_i l e
        cases r1.obj _ _ _ e hp with
        | lst h1 h2 => exact .inl ⟨_, _, rfl, .of h1, p1.here r1 (iter_enumR hp)⟩
      · exact p1.elim
  · exact p1.elim
end
end G

set_option Elab.async false
set_option linter.all false
set_option maxRecDepth 100000
set_option maxHeartbeats 4000000
namespace G
open PySem PySem.Spec PyProof.Rows L2

/-! ### equality that is reckoned -/
mutual
def vaEq : Va → Va → Bool
  | .non, .non => true
  | .bl a, .bl b => a == b
  | .int a, .int b => decide (a = b)
  | .str a, .str b => decide (a = b)
  | .tup a, .tup b => vasEq a b
  | .lst a, .lst b => vasEq a b
  | .scr a, .scr b => vasEq a b
  | .dic k a, .dic j b => decide (k = j) && vasEq a b
  | .ref a, .ref b => decide (a = b)
  | _, _ => false
def vasEq : List Va → List Va → Bool
  | [], [] => true
  | x :: xs, y :: ys => vaEq x y && vasEq xs ys
  | _, _ => false
end
mutual
theorem vaEq_eq : ∀ (x y : Va), vaEq x y = true → x = y
  | .non, y, h => by cases y <;> first | rfl | (simp [vaEq] at h)
  | .bl a, y, h => by cases y <;> simp [vaEq] at h; rw [h]
  | .int a, y, h => by cases y <;> simp [vaEq] at h; rw [h]
  | .str a, y, h => by cases y <;> simp [vaEq] at h; rw [h]
  | .tup a, y, h => by cases y <;> simp [vaEq] at h; rw [vasEq_eq _ _ h]
  | .lst a, y, h => by cases y <;> simp [vaEq] at h; rw [vasEq_eq _ _ h]
  | .scr a, y, h => by cases y <;> simp [vaEq] at h; rw [vasEq_eq _ _ h]
  | .dic k a, y, h => by cases y <;> simp [vaEq] at h; rw [h.1, vasEq_eq _ _ h.2]
  | .ref a, y, h => by cases y <;> simp [vaEq] at h; rw [h]
theorem vasEq_eq : ∀ (x y : List Va), vasEq x y = true → x = y
  | [], y, h => by cases y <;> first | rfl | (simp [vasEq] at h)
  | x :: xs, y, h => by
    cases y with
    | nil => simp [vasEq] at h
    | cons y ys =>
      simp [vasEq] at h
      rw [vaEq_eq _ _ h.1, vasEq_eq _ _ h.2]
end
mutual
theorem vaEq_refl : ∀ (x : Va), vaEq x x = true
  | .non => rfl
  | .bl a => by simp [vaEq]
  | .int a => by simp [vaEq]
  | .str a => by simp [vaEq]
  | .tup a => by simp only [vaEq]; exact vasEq_refl a
  | .lst a => by simp only [vaEq]; exact vasEq_refl a
  | .scr a => by simp only [vaEq]; exact vasEq_refl a
  | .dic k a => by simp [vaEq, vasEq_refl a]
  | .ref a => by simp [vaEq]
theorem vasEq_refl : ∀ (x : List Va), vasEq x x = true
  | [] => rfl
  | x :: xs => by simp [vasEq, vaEq_refl x, vasEq_refl xs]
end
def gdB (g : Gd) (st : Sto) : Bool := match g with
  | none => true
  | some (p, l) => match st[p]? with
    | some (some (.lst l')) => vasEq l' l
    | _ => false
theorem gdB_ok {g : Gd} {st : Sto} (h : gdB g st = true) : gdOk g st := by
  unfold gdB at h
  unfold gdOk
  split at h
  · trivial
  · split at h
    · rename_i e
      try simp only
      rw [e, vasEq_eq _ _ h]
    · cases h

/-! ### targets -/
abbrev Tg := Sum Nat (List Nat)
def setAll {α : Type} : List Nat → List α → List (Option α) → List (Option α)
  | i :: is, x :: xs, σ => setAll is xs (σ.set i (some x))
  | _, _, σ => σ
/-- a tuple's items, or a list's -/
def itms (w : Va) (st : Sto) : Option (List Va) := match w with
  | .tup l => some l
  | _ => lstOf w st
def tgV (tg : Tg) (w : Va) (env : Ev) (st : Sto) : Option Ev := match tg with
  | .inl i => some (env.set i (some w))
  | .inr is => match itms w st with
    | some l => if l.length = is.length then some (setAll is l env) else none
    | none => none
def gSet (K : PySem.W.Frag) (tg : Tg) : TG := fun v σ H Q => match tg with
  | .inl i => Q (σ.set i (some v)) H
  | .inr is => ∃ a xs, v = .ref a ∧ (SqT K H a xs ∨ SqL K H a xs) ∧ xs.length = is.length ∧ Q (setAll is xs σ) H
def tgIx : Tg → List Nat
  | .inl i => [i]
  | .inr is => is
theorem REnv.setAll {K : PySem.W.Frag} {ct : Ct} {F : Hp} {μ : List Addr} : ∀ {is : List Nat} {ws : List Va} {vs : List V} {env : Ev} {σ : L2.St}, (∀ j ∈ is, ct.Bears j) → REnv K ct F μ env σ → RVs K F μ ws vs → REnv K ct F μ (G.setAll is ws env) (G.setAll is vs σ)
  | [], _, _, _, _, _, r, _ => r
  | _ :: _, _, _, _, _, _, r, .nil => r
  | i :: is, _, _, _, _, hb, r, .cons h t => by
    simp only [G.setAll]
    exact REnv.setAll (fun j hj => hb j (List.mem_cons_of_mem _ hj)) (r.set i (hb i List.mem_cons_self) h) t
theorem gSet_of {K : PySem.W.Frag} {ct : Ct} {F : Hp} {μ : List Addr} {st : Sto} {H : Hp} {tg : Tg} {w : Va} {v : V} {env env' : Ev} {σ : L2.St} {Q : L2.St → Hp → Prop} (r : Rel K ct F μ st H) (re : REnv K ct F μ env σ) (rv : RV K F μ w v) (h : tgV tg w env st = some env') (hb : ∀ j ∈ tgIx tg, ct.Bears j)
    (hQ : ∀ σ', REnv K ct F μ env' σ' → (∃ vs : List V, σ' = setAll (tgIx tg) vs σ) → Q σ' H) : gSet K tg v σ H Q := by
  cases tg with
  | inl i =>
    cases h
    exact hQ _ (re.set i (hb i List.mem_cons_self) rv) ⟨[v], rfl⟩
  | inr is =>
    simp only [tgV] at h
    split at h
    · rename_i l el
      split at h
      · rename_i hl
        cases h
        have key : ∃ a vs, v = .ref a ∧ (SqT K H a vs ∨ SqL K H a vs) ∧ RVs K F μ l vs := by
          unfold itms at el
          split at el
          · obtain ⟨a, vs, h1, hq, rs⟩ := tupOf_ok rv el
            exact ⟨a, vs, h1, .inl (Same.tupl r.sub hq), rs⟩
          · obtain ⟨a, vs, h1, hq, rs⟩ := lstOf_ok r rv el
            exact ⟨a, vs, h1, .inr (.of hq), rs⟩
        obtain ⟨a, vs, rfl, hq, rs⟩ := key
        exact ⟨a, vs, rfl, hq, by rw [← rs.length]; exact hl, hQ _ (REnv.setAll hb re rs) ⟨vs, rfl⟩⟩
      · cases h
    · cases h
section
variable {X : Cx}
def gSeqs : List Nat → TGs
  | [] => gNil
  | i :: is => gCons (gName i) (gSeqs is)
theorem gSeqs_of : ∀ {is : List Nat} {vs : List V} {σ : L2.St} {H : Hp} {Q : L2.St → Hp → Prop}, vs.length = is.length → Q (setAll is vs σ) H → gSeqs is vs σ H Q
  | [], [], _, _, _, _, h => ⟨rfl, h⟩
  | i :: is, v :: vs, _, _, _, hl, h => ⟨v, vs, rfl, gSeqs_of (by simpa using hl) h⟩
theorem pg_mono {e : Expr} {t t' : TG} (h : PG X e t) (i : ∀ v σ H Q, t' v σ H Q → t v σ H Q) : PG X e t' := ⟨fun pins s σ H v u Q I r q => h.run pins s σ H v u Q I r (i v σ H Q q)⟩
theorem sim_tgName {i : Nat} {x : Str} {pos : Pos} (hN : X.N.Nodup) (hi : X.N[i]? = some x) (hx : Loc X.env.scope x) (hf : X.fn x = true ∨ X.env.scope.names.lookup x = some .local) : PG X (.Name x pos) (gSet X.K (.inl i)) :=
  pg_mono (pg_name hN hi hx hf) fun _ _ _ _ q => q
theorem sim_tgTup {es : List Expr} {is : List Nat} {k : Nat} {pos : Pos} (hc : X.calm = true) (h : PGs X es (gSeqs is)) (hn : (assignEach es X.env).length = is.length) (hst : (assignEach es X.env).findIdx? (·.1) = none) : PG X (.Tuple es k pos) (gSet X.K (.inr is)) :=
  ⟨fun pins s σ H v u Q I r ⟨a, xs, e, hq, hl, q⟩ => hq.elim (fun hq => (pg_tup hc h hn hst).run pins s σ H v u Q I r ⟨a, xs, e, hq, hl, gSeqs_of hl q⟩) fun hq => (pg_lst hc h hn hst).run pins s σ H v u Q I r ⟨a, xs, e, hq, hl, gSeqs_of hl q⟩⟩
end

/-! ### slots forgotten -/
def wipeE (env : Ev) : List Nat → Ev
  | [] => env
  | v :: vs => (wipeE env vs).set v none
theorem wipeE_len (env : Ev) : ∀ vs : List Nat, (wipeE env vs).length = env.length
  | [] => rfl
  | v :: vs => by unfold wipeE; rw [List.length_set, wipeE_len env vs]
theorem wipe_set (σ : L2.St) (i : Nat) (x : Option V) : ∀ vs : List Nat, i ∈ vs → wipe (σ.set i x) vs = wipe σ vs
  | [], h => by cases h
  | v :: vs, h => by
    unfold wipe
    by_cases e : i ∈ vs
    · rw [wipe_set σ i x vs e]
    · have hv : i = v := by
        rcases List.mem_cons.mp h with h | h
        · exact h
        · exact absurd h e
      subst hv
      have gen : ∀ (us : List Nat), i ∉ us → wipe (σ.set i x) us = (wipe σ us).set i x := by
        intro us
        induction us with
        | nil => intro _; rfl
        | cons u us ih =>
          intro hn
          simp only [List.mem_cons, not_or] at hn
          unfold wipe
          rw [ih hn.2, List.set_comm _ _ hn.1]
      rw [gen vs e, List.set_set]
theorem wipe_set' (i : Nat) (x : Option V) : ∀ (us : List Nat) (σ : L2.St), i ∉ us → wipe (σ.set i x) us = (wipe σ us).set i x
  | [], _, _ => rfl
  | u :: us, σ, hn => by
    simp only [List.mem_cons, not_or] at hn
    unfold wipe
    rw [wipe_set' i x us σ hn.2, List.set_comm _ _ hn.1]
theorem wipe_wipe : ∀ (vs : List Nat) (σ : L2.St), wipe (wipe σ vs) vs = wipe σ vs
  | [], _ => rfl
  | v :: vs, σ => by
    show (wipe ((wipe σ vs).set v none) vs).set v none = (wipe σ vs).set v none
    by_cases h : v ∈ vs
    · rw [wipe_set _ v none vs h, wipe_wipe vs]
    · rw [wipe_set' v none vs _ h, List.set_set, wipe_wipe vs]
theorem wipe_setAll : ∀ (is vs : List Nat) (xs : List V) (σ : L2.St), (∀ i ∈ is, i ∈ vs) → wipe (setAll is xs σ) vs = wipe σ vs
  | [], _, _, _, _ => by simp [setAll]
  | _ :: _, _, [], _, _ => by simp [setAll]
  | i :: is, vs, x :: xs, σ, h => by
    unfold setAll
    rw [wipe_setAll is vs xs _ fun j hj => h j (List.mem_cons_of_mem _ hj), wipe_set σ i _ vs (h i List.mem_cons_self)]
theorem REnv.wipe {K : PySem.W.Frag} {ct : Ct} {F : Hp} {μ : List Addr} {env : Ev} {σ : L2.St} (r : REnv K ct F μ env σ) : ∀ vs : List Nat, (∀ j ∈ vs, ct.Bears j) → REnv K ct F μ (wipeE env vs) (L2.wipe σ vs)
  | [], _ => r
  | v :: vs, hb => by
    have ih := REnv.wipe r vs fun j hj => hb j (List.mem_cons_of_mem _ hj)
    unfold wipeE L2.wipe
    refine ⟨by simp [ih.len], fun i w e => ?_, hb v List.mem_cons_self _ _ _ ih.inv⟩
    by_cases hi : v = i
    · subst hi
      by_cases hl : v < (wipeE env vs).length
      · rw [List.getElem?_set_self hl] at e; cases e
      · rw [List.getElem?_eq_none (by simpa using hl)] at e; cases e
    · rw [List.getElem?_set_ne hi] at e ⊢
      exact ih.get i w e

/-! ### a thing that is tracked apart -/
section
variable {K : PySem.W.Frag} {ct : Ct} {F F1 : Hp} {μ μ1 : List Addr} {H H1 : Hp} {st : Sto} {D : Addr} {o : HO}
theorem nt_lst {l : List V} (h : H D = some (.lst l)) : ∀ ps, H D ≠ some (.tbl ps) := fun ps e => by rw [h] at e; cases e
theorem Rel.lay (r : Rel K ct F μ st H) (hD : D ∉ μ) (hF : F D = none) (hT : ∀ ps, H D ≠ some (.tbl ps)) (o : HO) : Rel K ct F μ st (upd H D o) := by
  have ne : ∀ {p : Nat} {a : Addr}, μ[p]? = some a → a ≠ D := fun {p a} e z => hD (z ▸ List.mem_of_getElem? e)
  refine ⟨fun a u e => by rw [upd_ne (ne_of_none e hF)]; exact r.sub a u e, r.len, fun p ob a e1 e2 => (r.obj p ob a e1 e2).mono (fun _ _ q => q) List.prefix_rfl (upd_ne (ne e2)), r.dis, r.inj, fun a m => upd_there (r.mtr a m), fun P m => ⟨tabG_upd (r.tabs P m).1 hT, (r.tabs P m).2⟩⟩
theorem Ext.lay (x : Ext F1 μ1 H1 F μ H) (h1 : H1 D = none) (hD : D ∉ μ1) (o : HO) : Ext F1 μ1 H1 F μ (upd H D o) := by
  refine ⟨x.fr, x.pre, fun a u e n nt => ?_, fun P t => ?_, x.new, x.mnew, fun a e => upd_there (x.there a e)⟩
  · rw [upd_ne (ne_of_none e h1)]
    exact x.keep a u e n nt
  · have n := tabG_ne t (nt_none h1)
    obtain ⟨ps, h2, h3⟩ := x.tab P t
    exact ⟨ps, by rw [upd_ne n]; exact h2, h3⟩
theorem Rel.take (r : Rel K ct F μ st H) (hD : D ∉ μ) (hF : F D = none) (h : H D = some o) (hT : ∀ ps, H D ≠ some (.tbl ps)) : Rel K ct (upd F D o) μ st H := by
  have ne : ∀ {p : Nat} {a : Addr}, μ[p]? = some a → a ≠ D := fun {p a} e z => hD (z ▸ List.mem_of_getElem? e)
  refine ⟨fun a u e => ?_, r.len, fun p ob a e1 e2 => (r.obj p ob a e1 e2).mono (same_upd hF) List.prefix_rfl rfl, fun p ob a e1 e2 => ?_, r.inj, r.mtr, fun P m => ⟨(r.tabs P m).1, by rw [upd_ne (tabG_ne (r.tabs P m).1 hT)]; exact (r.tabs P m).2⟩⟩
  · by_cases ha : a = D
    · subst ha; rw [upd_same] at e; cases e; exact h
    · rw [upd_ne ha] at e; exact r.sub a u e
  · rw [upd_ne (ne e2)]; exact r.dis p ob a e1 e2
theorem Ext.take (x : Ext F1 μ1 H1 F μ H) (hF : F D = none) (h1 : H1 D = none) (o : HO) : Ext F1 μ1 H1 (upd F D o) μ H := by
  refine ⟨fun a u e => same_upd hF a u (x.fr a u e), x.pre, x.keep, x.tab, fun a e => ?_, x.mnew, x.there⟩
  by_cases ha : a = D
  · subst ha; exact .inr (.inl h1)
  · rw [upd_ne ha] at e; exact x.new a e
theorem Rel.adopt (r : Rel K ct F μ st H) (hD : D ∉ μ) (hF : F D = none) {ob : Ob} (h : RO K ct F μ H D ob) : Rel K ct F (μ ++ [D]) (st ++ [some ob]) H := by
  have hl := r.len
  have hne : ∀ {p : Nat} {ob' : Ob} {a : Addr}, st[p]? = some (some ob') → (μ ++ [D])[p]? = some a → μ[p]? = some a := fun {p ob' a} e1 e2 => by
    have hq := (List.getElem?_eq_some_iff.mp e1).1
    rw [List.getElem?_append_left (by omega)] at e2
    exact e2
  have new : ∀ {q : Nat} {a : Addr}, q = st.length → (μ ++ [D])[q]? = some a → a = D := fun {q a} e1 e2 => by
    rw [e1, hl, List.getElem?_append_right (Nat.le_refl _)] at e2
    simp at e2
    exact e2.symm
  refine ⟨r.sub, by simp [hl], fun q ob' a e1 e2 => ?_, fun q ob' a e1 e2 => ?_, fun q q' o1 o2 a e1 e2 e3 e4 => ?_, fun a m => ?_, r.tabs⟩
  · rcases get_app e1 with e1 | ⟨hq, e1'⟩
    · exact (r.obj q ob' a e1 (hne e1 e2)).mono (fun _ _ e => e) pre_app rfl
    · rw [new hq e2, Option.some.inj e1']
      exact h.mono (fun _ _ e => e) pre_app rfl
  · rcases get_app e1 with e1 | ⟨hq, e1'⟩
    · exact r.dis q ob' a e1 (hne e1 e2)
    · rw [new hq e2]; exact hF
  · rcases get_app e1 with e1 | ⟨h1, e1⟩ <;> rcases get_app e2 with e2 | ⟨h2, e2⟩
    · exact r.inj q q' o1 o2 a e1 e2 (hne e1 e3) (hne e2 e4)
    · exact absurd (new h2 e4 ▸ List.mem_of_getElem? (hne e1 e3)) hD
    · exact absurd (new h1 e3 ▸ List.mem_of_getElem? (hne e2 e4)) hD
    · rw [h1, h2]
  · rcases List.mem_append.mp m with m | m
    · exact r.mtr a m
    · obtain ⟨u, hu, _⟩ := h.there
      rw [List.mem_singleton.mp m, hu]
      exact fun z => nomatch z
theorem Ext.adopt (x : Ext F1 μ1 H1 F μ H) (h1 : H1 D = none) : Ext F1 μ1 H1 F (μ ++ [D]) H := by
  refine ⟨x.fr, x.pre.trans pre_app, x.keep, x.tab, x.new, fun a m => ?_, x.there⟩
  rcases List.mem_append.mp m with m | m
  · exact x.mnew a m
  · rw [List.mem_singleton.mp m]; exact .inr h1
theorem mkL_at {W : WX} {σ : L2.St} {m : Bool} {l : List Va} {vs : List V} {Q : VK} (r : Rel K ct F μ st H) (x : Ext F1 μ1 H1 F μ H) (hD : D ∉ μ) (hF : F D = none) (h1 : H1 D = none) (h : H D = some (.lst vs)) (rs : RVs K F μ l vs)
    (p : GPost K ct W (RV K) σ F1 μ1 H1 Q (mkL m l st)) : Q (.ref D) H := by
  unfold mkL at p
  split at p
  · cases m with
    | false => exact p _ _ _ _ (x.take hF h1 _) (r.take hD hF h (nt_lst h)) (.lst upd_same (rs.mono (same_upd hF) List.prefix_rfl))
    | true =>
      refine p _ _ _ _ (x.adopt h1) (r.adopt hD hF (.lst h rs)) (.ref ?_)
      rw [r.len, List.getElem?_append_right (Nat.le_refl _)]
      simp
  · exact p.elim
end

/-! ### list comprehensions -/
def lcRun (tg : Tg) (mc : Mx Bool) (me : Mx Va) (gd : Gd) (env : Ev) : List Va → List Va → Sto → R (List Va)
  | [], acc, st => if gdB gd st then .ok acc st else .stuck
  | x :: rest, acc, st => if gdB gd st then match tgV tg x env st with
      | none => .stuck
      | some env1 => match mc env1 st with
        | .ok b st1 => if b then match me env1 st1 with
            | .ok y st2 => lcRun tg mc me gd env rest (acc ++ [y]) st2
            | _ => .stuck
          else lcRun tg mc me gd env rest acc st1
        | _ => .stuck
    else .stuck
theorem lcRun_len {tg : Tg} {mc : Mx Bool} {me : Mx Va} {gd : Gd} {env : Ev} : ∀ {xs acc : List Va} {st : Sto} {l : List Va} {st' : Sto}, lcRun tg mc me gd env xs acc st = .ok l st' → acc.length ≤ l.length
  | [], acc, st, l, st', h => by
    unfold lcRun at h
    split at h
    · cases h; exact Nat.le_refl _
    · cases h
  | x :: rest, acc, st, l, st', h => by
    unfold lcRun at h
    split at h
    · split at h
      · cases h
      · split at h
        · split at h
          · split at h
            · have := lcRun_len h
              simp at this
              omega
            · cases h
          · exact lcRun_len h
        · cases h
    · cases h
def mLc (m : Bool) (vs : List Nat) (tg : Tg) (mi : Mx (List Va × Gd)) (mc : Mx Bool) (me : Mx Va) : Mx Va := fun env st => (mi env st).bind fun wg st => (lcRun tg mc me wg.2 (wipeE env vs) wg.1 [] st).bind fun l st => mkL m l st
section
variable {X : Cx} {ct : Ct} {W : WX}
abbrev W0 : WX := fun _ _ _ _ => False
theorem tLc_of {K : PySem.W.Frag} {ct : Ct} {W : WX} {m : Bool} {vs : List Nat} {tg : Tg} {mi : Mx (List Va × Gd)} {mc : Mx Bool} {me : Mx Va} {wi : TI} {σ : L2.St} {H : Hp} {Q : VK} (hwi : ∀ R, TOf K ct W (RI K ct) mi σ H R → wi σ H R) (hvs : ∀ i ∈ tgIx tg, i ∈ vs) (hb : ∀ j ∈ vs, ct.Bears j)
    (h : TOf K ct W (RV K) (mLc m vs tg mi mc me) σ H Q) : tLc wi (gSet K tg) (TOf K ct W0 RB mc) (TOf K ct W0 (RV K) me) vs σ H Q := by
  obtain ⟨F, μ, env, st, r, re, p⟩ := h
  refine hwi _ ⟨F, μ, env, st, r, re, p.bind fun wg st1 F1 μ1 H1 J _ x1 r1 hJ p1 => fun D hD => ?_⟩
  have re1 := (re.mono x1).wipe vs hb
  have Dm : D ∉ μ1 := fun m => r1.mtr D m hD
  have DF : F1 D = none := r1.nofrz hD
  -- the run ends well
  cases hrun : lcRun tg mc me wg.2 (wipeE env vs) wg.1 [] st1 with
  | err x st' => 
    have : ∀ (xs acc : List Va) (st : Sto), lcRun tg mc me wg.2 (wipeE env vs) xs acc st ≠ .err x st' := by
      intro xs
      induction xs with
      | nil => intro acc st h; unfold lcRun at h; split at h <;> cases h
      | cons y ys ih =>
        intro acc st h
        unfold lcRun at h
        split at h
        · split at h
          · cases h
          · split at h
            · split at h
              · split at h
                · exact ih _ _ h
                · cases h
              · exact ih _ _ h
            · cases h
        · cases h
    exact absurd hrun (this _ _ _)
  | stuck => rw [hrun] at p1; exact p1.elim
  | ok l stf =>
  rw [hrun] at p1
  have hz : l.length ≤ sizeLine := by
    simp only [R.bind_ok, mkL] at p1
    split at p1
    · assumption
    · exact p1.elim
  refine ⟨fun i m H => m = wg.1.length - i ∧ i ≤ wg.1.length ∧ ∃ F2 μ2 st2 acc accV, Ext F1 μ1 H1 F2 μ2 H ∧ Rel K ct F2 μ2 st2 H ∧ D ∉ μ2 ∧ F2 D = none ∧ H D = some (.lst accV) ∧ RVs K F2 μ2 acc accV ∧ lcRun tg mc me wg.2 (wipeE env vs) (wg.1.drop i) acc st2 = .ok l stf,
    ⟨_, rfl, Nat.zero_le _, F1, μ1, st1, [], [], Ext.lay .refl hD Dm _, r1.lay Dm DF (nt_none hD) _, Dm, DF, upd_same, .nil, by rw [List.drop_zero]; exact hrun⟩, ?_⟩
  rintro i n H2 ⟨rfl, hi, F2, μ2, st2, acc, accV, x2, r2, D2, DF2, hDv, racc, hl⟩
  by_cases hlt : i < wg.1.length
  · -- a turn
    obtain ⟨w, hw⟩ : ∃ w, wg.1[i]? = some w := ⟨_, List.getElem?_eq_getElem hlt⟩
    have hdrop : wg.1.drop i = w :: wg.1.drop (i + 1) := by
      rw [List.drop_eq_getElem_cons hlt]
      rw [List.getElem?_eq_getElem hlt] at hw
      rw [Option.some.inj hw]
    rw [hdrop] at hl
    unfold lcRun at hl
    split at hl
    · rename_i hg
      have hIt := (hJ F2 μ2 st2 H2 x2.fr x2.pre r2 (gdB_ok hg) i).2 w hw
      refine .inr ⟨hIt.1, fun H' => wg.1.length - (i + 1) = wg.1.length - (i + 1) ∧ i + 1 ≤ wg.1.length ∧ ∃ F2 μ2 st2 acc accV, Ext F1 μ1 H1 F2 μ2 H' ∧ Rel K ct F2 μ2 st2 H' ∧ D ∉ μ2 ∧ F2 D = none ∧ H' D = some (.lst accV) ∧ RVs K F2 μ2 acc accV ∧ lcRun tg mc me wg.2 (wipeE env vs) (wg.1.drop (i + 1)) acc st2 = .ok l stf,
        fun H' ⟨_, q2⟩ => ⟨wg.1.length - (i + 1), by omega, rfl, q2⟩, fun x H3 y => ?_⟩
      obtain ⟨F3, x3, r3, rx⟩ := hIt.2 x H3 y
      have H1none : ∀ {F'' : Hp} {μ'' : List Addr} {H'' : Hp} {F0 : Hp} {μ0 : List Addr} {H0 : Hp}, Ext F0 μ0 H0 F'' μ'' H'' → D ∉ μ0 → F0 D = none → H0 D ≠ none → D ∉ μ'' ∧ F'' D = none := fun {F'' μ'' H'' F0 μ0 H0} x a b c => by
        refine ⟨fun m => (x.mnew D m).elim a c, ?_⟩
        cases q : F'' D with
        | none => rfl
        | some o =>
          rcases x.new D (by rw [q]; exact fun z => nomatch z) with z | z | z
          · exact absurd b z
          · exact absurd z c
          · exact absurd z a
      have c2 : H2 D ≠ none := by rw [hDv]; exact fun z => nomatch z
      obtain ⟨D3, DF3⟩ := H1none x3 D2 DF2 c2
      have hDv3 : H3 D = some (.lst accV) := x3.keep D _ hDv D2 (fun _ => nofun)
      split at hl
      · cases hl
      · rename_i env1 et
        refine gSet_of r3 ((re1.mono (x2.trans x3))) rx et (fun j hj => hb j (hvs j hj)) fun σ' re' ⟨us, eσ⟩ => ⟨by rw [eσ, wipe_setAll _ _ _ _ hvs, wipe_wipe], ?_⟩
        split at hl
        · rename_i b st4 ec
          refine ⟨F3, μ2, env1, st2, r3, re', ?_⟩
          rw [ec]
          intro F4 μ4 H4 b' x4 r4 eb
          have eb : b = b' := eb
          subst eb
          have c3 : H3 D ≠ none := by rw [hDv3]; exact fun z => nomatch z
          obtain ⟨D4, DF4⟩ := H1none x4 D3 DF3 c3
          have hDv4 : H4 D = some (.lst accV) := x4.keep D _ hDv3 D3 (fun _ => nofun)
          cases b with
          | false =>
            rw [if_neg Bool.false_ne_true] at hl ⊢
            exact ⟨rfl, hlt, F4, μ4, st4, acc, accV, (x2.trans x3).trans x4, r4, D4, DF4, hDv4, x4.rvs (x3.rvs racc), hl⟩
          | true =>
            rw [if_pos rfl] at hl ⊢
            split at hl
            · rename_i y5 st5 ee
              refine ⟨F4, μ4, env1, st4, r4, re'.mono x4, ?_⟩
              rw [ee]
              intro F5 μ5 H5 yv x5 r5 ry
              have c4 : H4 D ≠ none := by rw [hDv4]; exact fun z => nomatch z
              obtain ⟨D5, DF5⟩ := H1none x5 D4 DF4 c4
              have hDv5 : H5 D = some (.lst accV) := x5.keep D _ hDv4 D4 (fun _ => nofun)
              have hlen : acc.length + 1 ≤ l.length := by
                have := lcRun_len hl
                simpa using this
              refine ⟨accV, hDv5, ?_, ?_⟩
              · rw [← racc.length]; omega
              · refine ⟨rfl, hlt, F5, μ5, st5, acc ++ [y5], accV ++ [yv], Ext.lay (((x2.trans x3).trans x4).trans x5) hD Dm _, r5.lay D5 DF5 (nt_lst hDv5) _, D5, DF5, upd_same, (x5.rvs (x4.rvs (x3.rvs racc))).append (.cons ry .nil), hl⟩
            · cases hl
        · cases hl
    · cases hl
  · -- the end
    have hi' : i = wg.1.length := by omega
    rw [List.drop_eq_nil_of_le (by omega)] at hl
    unfold lcRun at hl
    split at hl
    · rename_i hg
      cases hl
      exact .inl ⟨(hJ F2 μ2 stf H2 x2.fr x2.pre r2 (gdB_ok hg) i).1 hi', mkL_at r2 x2 D2 DF2 hD hDv racc p1⟩
    · cases hl
end
end G

set_option Elab.async false
set_option linter.all false
set_option maxRecDepth 100000
set_option maxHeartbeats 4000000
namespace G
open PySem PySem.Spec PyProof.Rows L2

/-! ### a value out of the store: everything by value -/
mutual
/-- no reference to the store -/
def free : Va → Bool
  | .tup l => frees l
  | .lst l => frees l
  | .scr l => frees l
  | .dic _ l => frees l
  | .ref _ => false
  | _ => true
def frees : List Va → Bool
  | [] => true
  | x :: r => free x && frees r
end
def mapS (f : Va → Sto → Option (Va × Sto)) : List Va → Sto → Option (List Va × Sto)
  | [], st => some ([], st)
  | x :: r, st => match f x st with
    | some (y, st1) => match mapS f r st1 with
      | some (ys, st2) => some (y :: ys, st2)
      | none => none
    | none => none
def freezeN : Nat → Va → Sto → Option (Va × Sto)
  | 0, _, _ => none
  | n + 1, w, st => if free w then some (w, st) else match w with
    | .tup l => (mapS (freezeN n) l st).map fun p => (.tup p.1, p.2)
    | .lst l => (mapS (freezeN n) l st).map fun p => (.lst p.1, p.2)
    | .dic k l => (mapS (freezeN n) l st).map fun p => (.dic k p.1, p.2)
    | .ref p => match st[p]? with
      | some (some (.lst l)) => (mapS (freezeN n) l (st.set p none)).map fun q => (.lst q.1, q.2)
      | some (some (.dic k l)) => (mapS (freezeN n) l (st.set p none)).map fun q => (.dic k q.1, q.2)
      | _ => none
    | _ => none
section
variable {K : PySem.W.Frag} {ct : Ct} {F F' : Hp} {μ μ' : List Addr} {H : Hp}
mutual
theorem RV.free : ∀ {w : Va} {v : V}, RV K F μ w v → G.free w = true → RV K F [] w v
  | _, _, .non, _ => .non
  | _, _, .bl b, _ => .bl b
  | _, _, .int i, _ => .int i
  | _, _, .str x, _ => .str x
  | _, _, .tup h r, e => .tup h (RVs.frees r (by simpa [G.free] using e))
  | _, _, .lst h r, e => .lst h (RVs.frees r (by simpa [G.free] using e))
  | _, _, .scr h r, e => .scr h (RVs.frees r (by simpa [G.free] using e))
  | _, _, .dic h k r, e => .dic h k (RVs.frees r (by simpa [G.free] using e))
  | _, _, .ref h, e => by simp [G.free] at e
theorem RVs.frees : ∀ {ws : List Va} {vs : List V}, RVs K F μ ws vs → G.frees ws = true → RVs K F [] ws vs
  | _, _, .nil, _ => .nil
  | _, _, .cons r t, e => by
    simp only [G.frees, Bool.and_eq_true] at e
    exact .cons (RV.free r e.1) (RVs.frees t e.2)
end
/-- the frozen part has grown -/
def Frz (K : PySem.W.Frag) (ct : Ct) (F : Hp) (μ : List Addr) (H : Hp) (st st' : Sto) (P : Hp → Prop) : Prop := ∃ F', Ext F μ H F' μ H ∧ Rel K ct F' μ st' H ∧ P F' ∧ (∀ b, F' b ≠ none → F b ≠ none ∨ ∃ (q : Nat) (o : Ob), st[q]? = some (some o) ∧ μ[q]? = some b) ∧ ∀ (q : Nat) (o : Ob), st'[q]? = some (some o) → st[q]? = some (some o)
theorem Frz.id {K : PySem.W.Frag} {ct : Ct} {F : Hp} {μ : List Addr} {H : Hp} {st : Sto} {P : Hp → Prop} (r : Rel K ct F μ st H) (p : P F) : Frz K ct F μ H st st P := ⟨F, .refl, r, p, fun _ h => .inl h, fun _ _ h => h⟩
/-- two steps -/
theorem Frz.chain {K : PySem.W.Frag} {ct : Ct} {F F1 : Hp} {μ : List Addr} {H : Hp} {st st1 st2 : Sto} {P : Hp → Prop} (x1 : Ext F μ H F1 μ H) (n1 : ∀ b, F1 b ≠ none → F b ≠ none ∨ ∃ (q : Nat) (o : Ob), st[q]? = some (some o) ∧ μ[q]? = some b) (l1 : ∀ (q : Nat) (o : Ob), st1[q]? = some (some o) → st[q]? = some (some o)) (h : Frz K ct F1 μ H st1 st2 P) : Frz K ct F μ H st st2 P := by
  obtain ⟨F2, x2, r2, p2, n2, l2⟩ := h
  refine ⟨F2, x1.trans x2, r2, p2, fun b hb => ?_, fun q o e => l1 q o (l2 q o e)⟩
  rcases n2 b hb with z | ⟨q, o, z1, z2⟩
  · exact n1 b z
  · exact .inr ⟨q, o, l1 q o z1, z2⟩
theorem Frz.map {K : PySem.W.Frag} {ct : Ct} {F : Hp} {μ : List Addr} {H : Hp} {st st' : Sto} {P P' : Hp → Prop} (h : Frz K ct F μ H st st' P) (i : ∀ F', Ext F μ H F' μ H → P F' → P' F') : Frz K ct F μ H st st' P' := let ⟨F', x, r, p, n, l⟩ := h; ⟨F', x, r, i F' x p, n, l⟩
theorem set_live {st : Sto} {p : Nat} {q : Nat} {o : Ob} (e : (st.set p none)[q]? = some (some o)) : q ≠ p ∧ st[q]? = some (some o) := by
  by_cases hq : p = q
  · subst hq
    by_cases hp : p < st.length
    · rw [List.getElem?_set_self hp] at e; cases e
    · rw [List.getElem?_eq_none (by simpa using hp)] at e; cases e
  · rw [List.getElem?_set_ne hq] at e
    exact ⟨fun z => hq z.symm, e⟩
theorem mapS_ok {f : Va → Sto → Option (Va × Sto)} (ih : ∀ {F : Hp} {w w' : Va} {v : V} {st st' : Sto}, Rel K ct F μ st H → RV K F μ w v → f w st = some (w', st') → Frz K ct F μ H st st' fun F' => RV K F' [] w' v) :
    ∀ {ws ws' : List Va} {vs : List V} {F : Hp} {st st' : Sto}, Rel K ct F μ st H → RVs K F μ ws vs → mapS f ws st = some (ws', st') → Frz K ct F μ H st st' fun F' => RVs K F' [] ws' vs
  | _, _, _, F, st, st', r, .nil, h => by
    cases h
    exact .id r .nil
  | _, _, _, F, st, st', r, .cons h1 t, h => by
    unfold mapS at h
    split at h
    · rename_i y st1 e1
      split at h
      · rename_i ys st2 e2
        cases h
        obtain ⟨F1, x1, r1, q1, n1, l1⟩ := ih r h1 e1
        exact .chain x1 n1 l1 ((mapS_ok ih r1 (x1.rvs t) e2).map fun F' x q => .cons (q1.mono x.fr List.prefix_rfl) q)
      · cases h
    · cases h
theorem map_pair {α β γ : Type} {f : α × β → γ} {o : Option (α × β)} {y : γ} (h : o.map f = some y) : ∃ a b, o = some (a, b) ∧ f (a, b) = y := by
  obtain ⟨⟨a, b⟩, e, q⟩ := map_some h
  exact ⟨a, b, e, q⟩
theorem freezeN_ok : ∀ (n : Nat) {F : Hp} {w w' : Va} {v : V} {st st' : Sto}, Rel K ct F μ st H → RV K F μ w v → freezeN n w st = some (w', st') → Frz K ct F μ H st st' fun F' => RV K F' [] w' v
  | 0, _, _, _, _, _, _, _, _, h => by cases h
  | n + 1, F, w, w', v, st, st', r, rv, h => by
    unfold freezeN at h
    split at h
    · rename_i e
      cases h
      exact .id r (rv.free e)
    · cases rv with
      | tup hs rs =>
        obtain ⟨l, s, e, q⟩ := map_pair h
        cases q
        exact (mapS_ok (freezeN_ok n) r rs e).map fun F' x q => .tup (Same.tupl x.fr hs) q
      | lst hs rs =>
        obtain ⟨l, s, e, q⟩ := map_pair h
        cases q
        exact (mapS_ok (freezeN_ok n) r rs e).map fun F' x q => .lst (x.fr _ _ hs) q
      | dic hs hk rs =>
        obtain ⟨l, s, e, q⟩ := map_pair h
        cases q
        exact (mapS_ok (freezeN_ok n) r rs e).map fun F' x q => .dic (x.fr _ _ hs) hk q
      | @ref p a hp =>
        simp only at h
        split at h
        · rename_i l e0
          obtain ⟨l', s, e, q⟩ := map_pair h
          cases q
          cases r.obj _ _ _ e0 hp with
          | @lst _ vs0 h1 h2 =>
            have x0 := Ext.freeze r e0 hp (.lst vs0)
            have r0 := r.freeze e0 hp h1
            refine .chain x0 (fun b hb => ?_) (fun q o e => (set_live e).2) ((mapS_ok (freezeN_ok n) r0 (x0.rvs h2) e).map fun F' x q => .lst (x.fr _ _ upd_same) q)
            by_cases z : b = a
            · exact .inr ⟨p, _, e0, by rw [z]; exact hp⟩
            · rw [upd_ne z] at hb; exact .inl hb
        · rename_i k l e0
          obtain ⟨l', s, e, q⟩ := map_pair h
          cases q
          cases r.obj _ _ _ e0 hp with
          | @dic _ _ kvs0 h1 hk h2 =>
            have x0 := Ext.freeze r e0 hp (.dK kvs0)
            have r0 := r.freeze e0 hp h1
            refine .chain x0 (fun b hb => ?_) (fun q o e => (set_live e).2) ((mapS_ok (freezeN_ok n) r0 (x0.rvs h2) e).map fun F' x q => .dic (x.fr _ _ upd_same) hk q)
            by_cases z : b = a
            · exact .inr ⟨p, _, e0, by rw [z]; exact hp⟩
            · rw [upd_ne z] at hb; exact .inl hb
        · cases h
      | _ => cases h
theorem Rel.forget {st : Sto} (r : Rel K ct F μ st H) (p : Nat) : Rel K ct F μ (st.set p none) H :=
  ⟨r.sub, by simp [r.len], fun q o a e1 e2 => r.obj q o a (set_live e1).2 e2, fun q o a e1 e2 => r.dis q o a (set_live e1).2 e2, fun q q' o o' a e1 e2 => r.inj q q' o o' a (set_live e1).2 (set_live e2).2, r.mtr, r.tabs⟩
/-- an object goes out of the store as it is, what it holds frozen -/
def takeO (p : Nat) (st : Sto) : Option Ob := match st[p]? with
  | some (some (.lst l)) => (mapS (freezeN 20) l (st.set p none)).map fun q => .lst q.1
  | some (some (.dic k l)) => (mapS (freezeN 20) l (st.set p none)).map fun q => .dic k q.1
  | _ => none
theorem takeO_ok {p : Nat} {a : Addr} {st : Sto} {ob : Ob} (r : Rel K ct F μ st H) (hp : μ[p]? = some a) (h : takeO p st = some ob) : ∃ F' st', Ext F μ H F' μ H ∧ Rel K ct F' μ st' H ∧ F' a = none ∧ RO K ct F' [] H a ob := by
  have fin : ∀ {F' : Hp} {o0 : Ob}, st[p]? = some (some o0) → (∀ b, F' b ≠ none → F b ≠ none ∨ ∃ (q : Nat) (o : Ob), (st.set p none)[q]? = some (some o) ∧ μ[q]? = some b) → F' a = none := fun {F' o0} e0 n => by
    cases q : F' a with
    | none => rfl
    | some u =>
      rcases n a (by rw [q]; exact fun z => nomatch z) with z | ⟨q', o, z1, z2⟩
      · exact absurd (r.dis p o0 a e0 hp) z
      · obtain ⟨z3, z4⟩ := set_live z1
        exact absurd (r.inj q' p o o0 a z4 e0 z2 hp) z3
  unfold takeO at h
  split at h
  · rename_i l e0
    obtain ⟨l', s, e, q⟩ := map_pair h
    cases q
    cases r.obj _ _ _ e0 hp with
    | @lst _ vs0 h1 h2 =>
      obtain ⟨F', x, r', q, n, _⟩ := mapS_ok (freezeN_ok 20) (r.forget p) h2 e
      exact ⟨F', _, x, r', fin e0 n, .lst h1 q⟩
  · rename_i k l e0
    obtain ⟨l', s, e, q⟩ := map_pair h
    cases q
    cases r.obj _ _ _ e0 hp with
    | @dic _ _ kvs0 h1 hk h2 =>
      obtain ⟨F', x, r', q, n, _⟩ := mapS_ok (freezeN_ok 20) (r.forget p) h2 e
      exact ⟨F', _, x, r', fin e0 n, .dic h1 hk q⟩
  · cases h
end

/-! ### calls of defs -/
mutual
/-- nothing that could be changed: no list, no dict -/
def flat : Va → Bool
  | .tup l => flats l
  | .lst _ => false
  | .scr _ => false
  | .dic _ _ => false
  | .ref _ => false
  | _ => true
def flats : List Va → Bool
  | [] => true
  | x :: r => flat x && flats r
end
mutual
theorem RV.flat {K : PySem.W.Frag} {F F' : Hp} {μ μ' : List Addr} (h : ∀ a xs, SqT K F a xs → SqT K F' a xs) : ∀ {w : Va} {v : V}, RV K F μ w v → G.flat w = true → RV K F' μ' w v
  | _, _, .non, _ => .non
  | _, _, .bl b, _ => .bl b
  | _, _, .int i, _ => .int i
  | _, _, .str x, _ => .str x
  | _, _, .tup hs r, e => .tup (h _ _ hs) (RVs.flats h r (by simpa [G.flat] using e))
  | _, _, .lst hs r, e => by simp [G.flat] at e
  | _, _, .scr hs r, e => by simp [G.flat] at e
  | _, _, .dic hs k r, e => by simp [G.flat] at e
  | _, _, .ref hs, e => by simp [G.flat] at e
theorem RVs.flats {K : PySem.W.Frag} {F F' : Hp} {μ μ' : List Addr} (h : ∀ a xs, SqT K F a xs → SqT K F' a xs) : ∀ {ws : List Va} {vs : List V}, RVs K F μ ws vs → G.flats ws = true → RVs K F' μ' ws vs
  | _, _, .nil, _ => .nil
  | _, _, .cons r t, e => by
    simp only [G.flats, Bool.and_eq_true] at e
    exact .cons (RV.flat h r e.1) (RVs.flats h t e.2)
end
def flatX (x : Exc) : Bool := x.fs.all fun p => flat p.2
abbrev Fn := List Va → R Va
/-- the mark of a thing that the def has made itself: a list, a dict that nobody else knows -/
def freshO (w : Va) (s : Sto) : Option Ob := match s, w with
  | [none], .lst l => some (.lst l)
  | [none], .dic k l => some (.dic k l)
  | _, _ => none
/-- nothing in it could be a thing of the caller's -/
def flatF (w : Va) (s : Sto) : Bool := match freshO w s with
  | some (.lst l) => flats l
  | some (.dic _ l) => flats l
  | _ => flat w
/-- what is handed over: by value; or into the store, if it is fresh -/
def takenV (m : Bool) (w : Va) (s st : Sto) : R Va := if m then match freshO w s with
    | some ob => .ok (.ref st.length) (st ++ [some ob])
    | none => if flat w then .ok w st else .stuck
  else .ok w st
/-- a def that sees its arguments alone: a list of the caller's store that is handed over is the caller's no more, unless nothing that comes back could be it -/
def callP (m : Bool) (φ : Fn) (ws : List Va) (st : Sto) : R Va :=
  if frees ws then match φ ws with
    | .ok w s => takenV m w s st
    | .err x _ => .err x st
    | .stuck => .stuck
  else match mapS (freezeN 20) ws st with
    | none => .stuck
    | some (ws', st') => match φ ws' with
      | .ok w s => takenV m w s (if flatF w s then st else st')
      | .err x _ => if flatX x then .err x st else .err x st'
      | .stuck => .stuck
/-- what such a def promises -/
def spP (K : PySem.W.Frag) (ct : Ct) (φ : Fn) : Sp := fun vs H Q E => ∃ F ws, Same F H ∧ (∀ P, P ∈ ct.tps → GxR.TabG H P ∧ F P = none) ∧ RVs K F [] ws vs ∧ match φ ws with
  | .ok w s => match freshO w s with
    | some ob => ∀ F' H' a, Ext F [] H F' [] H' → Same F' H' → H a = none → F' a = none → RO K ct F' [] H' a ob → Q (.ref a) H'
    | none => ∀ F' H' v, Ext F [] H F' [] H' → Same F' H' → RV K F' [] w v → Q v H'
  | .err x _ => ∀ F' H' cls d, Ext F [] H F' [] H' → Same F' H' → RX K ct F' [] x cls d → E cls d H'
  | .stuck => False
section
variable {K : PySem.W.Frag} {ct : Ct} {F F1 F' : Hp} {μ : List Addr} {H H' : Hp} {st st1 : Sto}
theorem Ext.own (x : Ext F [] H F' [] H') : Ext F μ H F' μ H' :=
  by
  refine ⟨x.fr, List.prefix_rfl, fun a o e _ => x.keep a o e (by simp), x.tab, fun a e => ?_, fun a m => .inl m, x.there⟩
  rcases x.new a e with z | z | z
  · exact .inl z
  · exact .inr (.inl z)
  · cases z
theorem tab_new (x : Ext F [] H F' [] H') {P : Addr} (h : GxR.TabG H P ∧ F P = none) : GxR.TabG H' P ∧ F' P = none := by
  refine ⟨x.tab P h.1, ?_⟩
  cases q : F' P with
  | none => rfl
  | some u =>
    rcases x.new P (by rw [q]; exact fun z => nomatch z) with z | z | z
    · exact absurd h.2 z
    · obtain ⟨ps, e, _⟩ := h.1
      rw [e] at z; cases z
    · cases z
theorem nt_hmut {u : HO} (m : Mut (some u)) : ∀ ps, u ≠ .tbl ps := fun ps e => by subst e; exact m
theorem Rel.after (r : Rel K ct F μ st H) (x : Ext F [] H F' [] H') (s : Same F' H') : Rel K ct F' μ st H' := by
  refine ⟨s, r.len, fun p o a e1 e2 => ?_, fun p o a e1 e2 => ?_, r.inj, fun a m => x.there a (r.mtr a m), fun P m => tab_new x (r.tabs P m)⟩
  · have q := r.obj p o a e1 e2
    obtain ⟨u, hu, mu⟩ := q.there
    exact q.mono x.fr List.prefix_rfl ((x.keep a u hu (by simp) (nt_hmut mu)).trans hu.symm)
  · obtain ⟨u, hu, _⟩ := (r.obj p o a e1 e2).there
    cases q : F' a with
    | none => rfl
    | some o' =>
      rcases x.new a (by rw [q]; exact fun z => nomatch z) with z | z | z
      · exact absurd (r.dis p o a e1 e2) z
      · rw [hu] at z; cases z
      · cases z
/-- the callee's frozen part less what was lent to it -/
theorem lent (r : Rel K ct F μ st H) (r1 : Rel K ct F1 μ st1 H) (x1 : Ext F μ H F1 μ H) (x : Ext F1 [] H F' [] H') (s : Same F' H') :
    ∃ F2, Ext F μ H F2 μ H' ∧ Rel K ct F2 μ st H' ∧ (∀ a xs, SqT K F' a xs → SqT K F2 a xs) ∧ Same F2 F' ∧ ∀ a fs, F' a = some (.xd fs) → F2 a = some (.xd fs) := by
  have lv : ∀ a, (∃ (p : Nat) (o : Ob), st[p]? = some (some o) ∧ μ[p]? = some a) → ∃ u, H a = some u ∧ Mut (some u) ∧ F a = none := fun a ⟨p, o, e1, e2⟩ => by
    obtain ⟨u, hu, mu⟩ := (r.obj p o a e1 e2).there
    exact ⟨u, hu, mu, r.dis p o a e1 e2⟩
  classical
  refine ⟨fun a => if ∃ (p : Nat) (o : Ob), st[p]? = some (some o) ∧ μ[p]? = some a then none else F' a, ?_⟩
  have sub : Same (fun a => if ∃ (p : Nat) (o : Ob), st[p]? = some (some o) ∧ μ[p]? = some a then none else F' a) F' := fun a u e => by
    simp only at e
    split at e
    · cases e
    · exact e
  have keepF : ∀ a u, F' a = some u → ¬ (Mut (some u)) → (if ∃ (p : Nat) (o : Ob), st[p]? = some (some o) ∧ μ[p]? = some a then none else F' a) = some u := fun a u e nm => by
    split
    · rename_i hl
      obtain ⟨u', hu, mu, _⟩ := lv a hl
      have hH' : H' a = some u' := x.keep a u' hu (by simp) (nt_hmut mu)
      rw [s a u e] at hH'
      cases hH'
      exact absurd mu nm
    · exact e
  have frF : Same F (fun a => if ∃ (p : Nat) (o : Ob), st[p]? = some (some o) ∧ μ[p]? = some a then none else F' a) := fun a u e => by
    simp only
    split
    · rename_i hl
      obtain ⟨_, _, _, z⟩ := lv a hl
      rw [e] at z; cases z
    · exact x.fr a u (x1.fr a u e)
  refine ⟨⟨frF, List.prefix_rfl, fun a o e _ => x.keep a o e (by simp), x.tab, fun a e => ?_, fun a m => .inl m, x.there⟩, ⟨fun a u e => s a u (sub a u e), r.len, fun p o a e1 e2 => ?_, fun p o a e1 e2 => ?_, r.inj, fun a m => x.there a (r.mtr a m), fun P m => ⟨(tab_new x (r1.tabs P m)).1, ?_⟩⟩, fun a xs h => ?_, sub, fun a fs e => keepF a _ e fun z => z⟩
  · split at e
    · exact absurd rfl e
    · rcases x.new a e with z | z | z
      · rcases x1.new a z with z | z | z
        · exact .inl z
        · exact .inr (.inl z)
        · exact .inr (.inr z)
      · exact .inr (.inl z)
      · cases z
  · have q := r.obj p o a e1 e2
    obtain ⟨u, hu, mu⟩ := q.there
    exact q.mono frF List.prefix_rfl ((x.keep a u hu (by simp) (nt_hmut mu)).trans hu.symm)
  · exact if_pos ⟨p, o, e1, e2⟩
  · cases q : (if ∃ (p : Nat) (o : Ob), st[p]? = some (some o) ∧ μ[p]? = some P then none else F' P) with
    | none => rfl
    | some u => have e := sub P u q; rw [(tab_new x (r1.tabs P m)).2] at e; cases e
  · rcases h with (h | ⟨o, h⟩) | h
    · exact .inl (.inl (keepF a _ h fun z => z))
    · exact .inl (.inr ⟨o, keepF a _ h fun z => z⟩)
    · exact .inr h
end

/-- what is known of a def that may be called -/
def KB (fd : FuncData) (ps ks : List Str) : Prop := ∀ us ws : List Value, us.length + ks.length = ps.length → ws.length = ks.length → bindArgs fd ⟨us, ks.zip ws⟩ = pure (ps.zip (us ++ ws))
theorem KB.binds {K : PySem.W.Frag} {fd : FuncData} {ps : List Str} (h : KB fd ps []) : Binds K fd ps [] := .all fun us hl => by
  have := h us [] (by simpa using hl) rfl
  rw [List.append_nil] at this
  exact this
structure FnC (P : Program) (w : World) (K : PySem.W.Frag) (mg : Str → Option Value) (base : Heap) (ct : Ct) (k : Nat) (ks : List Str) (f : Str) (φ : Fn) : Prop where
  ex : ∃ (a : Addr) (fd : FuncData) (ps : List Str), mg f = some (.ref a) ∧ PySem.W.keepIn K (.ref a) = true ∧ KB fd ps ks ∧ FnOk P w K mg base (L2.CX P w) k a fd ps (spP K ct φ)
theorem lookup_mem {α : Type} {n : Tx} {w : α} : ∀ {l : List (Tx × α)}, l.lookup n = some w → (n, w) ∈ l
  | [], h => by simp at h
  | (m, v) :: r, h => by
    rw [List.lookup_cons] at h
    split at h
    · rename_i e
      rw [Option.some.inj h, eq_of_beq e]
      exact List.mem_cons_self
    · exact List.mem_cons_of_mem _ (lookup_mem h)
section
variable {K : PySem.W.Frag} {ct : Ct} {F F' : Hp} {μ : List Addr} {H H' : Hp} {st : Sto}
theorem Rel.join {a : Addr} {ob : Ob} (r : Rel K ct F μ st H) (hF : F a = none) (hm : a ∉ μ) (o : RO K ct F μ H a ob) : Rel K ct F (μ ++ [a]) (st ++ [some ob]) H := by
  have hl := r.len
  have old : ∀ {q : Nat} {o' : Ob} {b : Addr}, (st ++ [some ob])[q]? = some (some o') → (μ ++ [a])[q]? = some b → (st[q]? = some (some o') ∧ μ[q]? = some b) ∨ (q = st.length ∧ b = a ∧ o' = ob) := fun {q o' b} e1 e2 => by
    by_cases hq : q < st.length
    · rw [List.getElem?_append_left hq] at e1
      rw [List.getElem?_append_left (by omega)] at e2
      exact .inl ⟨e1, e2⟩
    · have hq2 : q = st.length := by
        have := (List.getElem?_eq_some_iff.mp e1).1
        simp at this
        omega
      subst hq2
      rw [List.getElem?_append_right (Nat.le_refl _)] at e1
      rw [List.getElem?_append_right (by omega)] at e2
      simp at e1
      rw [hl] at e2
      simp at e2
      exact .inr ⟨rfl, e2.symm, e1.symm⟩
  refine ⟨r.sub, by simp [hl], fun q o' b e1 e2 => ?_, fun q o' b e1 e2 => ?_, fun q q' o1 o2 b e1 e2 e3 e4 => ?_, fun b hb => ?_, r.tabs⟩
  · rcases old e1 e2 with ⟨z1, z2⟩ | ⟨_, z2, z3⟩
    · exact (r.obj q o' b z1 z2).mono (fun _ _ h => h) (List.prefix_append _ _) rfl
    · rw [z2, z3]
      exact o.mono (fun _ _ h => h) (List.prefix_append _ _) rfl
  · rcases old e1 e2 with ⟨z1, z2⟩ | ⟨_, z2, z3⟩
    · exact r.dis q o' b z1 z2
    · rw [z2]; exact hF
  · rcases old e1 e3 with ⟨z1, z2⟩ | ⟨y1, y2, _⟩
    · rcases old e2 e4 with ⟨z3, z4⟩ | ⟨y1, y2, _⟩
      · exact r.inj q q' o1 o2 b z1 z3 z2 z4
      · exact absurd (List.mem_of_getElem? z2) (by rw [y2]; exact hm)
    · rcases old e2 e4 with ⟨z3, z4⟩ | ⟨y3, y4, _⟩
      · exact absurd (List.mem_of_getElem? z4) (by rw [y2]; exact hm)
      · rw [y1, y3]
  · rcases List.mem_append.mp hb with z | z
    · exact r.mtr b z
    · rw [List.mem_singleton.mp z]
      obtain ⟨u, hu, _⟩ := o.there
      rw [hu]; exact fun z => nomatch z
theorem Ext.join {a : Addr} (x : Ext F μ H F' μ H') (hH : H a = none) : Ext F μ H F' (μ ++ [a]) H' := by
  refine ⟨x.fr, List.prefix_append _ _, x.keep, x.tab, x.new, fun b hb => ?_, x.there⟩
  rcases List.mem_append.mp hb with z | z
  · exact x.mnew b z
  · rw [List.mem_singleton.mp z]; exact .inr hH
/-- a fresh thing, by value -/
theorem fresh_val {w : Va} {s : Sto} {a : Addr} {ob : Ob} (e : freshO w s = some ob) (o : RO K ct F [] H a ob) (hF : F a = none) (hs : Same F H) : ∃ F2, Same F F2 ∧ Same F2 H ∧ (∀ b, F2 b ≠ none → F b ≠ none ∨ b = a) ∧ RV K F2 [] w (.ref a) := by
  obtain ⟨u, hu, _⟩ := o.there
  refine ⟨upd F a u, same_upd hF, fun b x hb => ?_, fun b hb => ?_, ?_⟩
  · by_cases z : b = a
    · rw [z, upd_same] at hb; cases hb; rw [z]; exact hu
    · rw [upd_ne z] at hb; exact hs b x hb
  · by_cases z : b = a
    · exact .inr z
    · rw [upd_ne z] at hb; exact .inl hb
  · unfold freshO at e
    split at e
    · cases e
      cases o with
      | lst h1 h2 =>
        rw [hu] at h1; cases h1
        exact .lst upd_same (h2.mono (same_upd hF) List.prefix_rfl)
    · cases e
      cases o with
      | dic h1 hk h2 =>
        rw [hu] at h1; cases h1
        exact .dic upd_same hk (h2.mono (same_upd hF) List.prefix_rfl)
    · cases e
end
section
variable {X : Cx} {ct : Ct} {W : WX}
theorem taken_of {K : PySem.W.Frag} {m : Bool} {w : Va} {s : Sto} {F : Hp} {μ : List Addr} {H : Hp} {st st0 : Sto} {σ : L2.St} {Q : VK} (r0 : Rel K ct F μ st0 H) (p : GPost K ct W (RV K) σ F μ H Q (takenV m w s st)) :
    match freshO w s with
    | some ob => ∀ F' H' a, Ext F μ H F' μ H' → Rel K ct F' μ st H' → H a = none → F' a = none → RO K ct F' [] H' a ob → Q (.ref a) H'
    | none => ∀ F' H' v, Ext F μ H F' μ H' → Rel K ct F' μ st H' → RV K F' [] w v → Q v H' := by
  unfold takenV at p
  cases e : freshO w s with
  | none =>
    rw [e] at p
    cases m with
    | true =>
      simp only [if_true] at p
      split at p
      · exact fun F' H' v x r rv => p F' μ H' v x r (rv.mono (fun _ _ h => h) List.nil_prefix)
      · exact p.elim
    | false => exact fun F' H' v x r rv => p F' μ H' v x r (rv.mono (fun _ _ h => h) List.nil_prefix)
  | some ob =>
    rw [e] at p
    intro F' H' a x r hH hF o
    have hm : a ∉ μ := fun z => r0.mtr a z hH
    cases m with
    | true =>
      refine p F' (μ ++ [a]) H' (.ref a) (x.join hH) (r.join hF hm (o.mono (fun _ _ h => h) List.nil_prefix rfl)) (.ref ?_)
      rw [r.len, List.getElem?_append_right (Nat.le_refl _)]
      simp
    | false =>
      obtain ⟨F2, y1, y2, y3, y4⟩ := fresh_val e o hF r.sub
      refine p F2 μ H' (.ref a) ⟨fun b u hb => y1 b u (x.fr b u hb), x.pre, x.keep, x.tab, fun b hb => ?_, x.mnew, x.there⟩ ⟨y2, r.len, fun q o' b e1 e2 => (r.obj q o' b e1 e2).mono y1 List.prefix_rfl rfl, fun q o' b e1 e2 => ?_, r.inj, r.mtr, fun P m => ⟨(r.tabs P m).1, ?_⟩⟩ (y4.mono (fun _ _ h => h) List.nil_prefix)
      · rcases y3 b hb with z | z
        · exact x.new b z
        · rw [z]; exact .inr (.inl hH)
      · cases q2 : F2 b with
        | none => rfl
        | some u =>
          rcases y3 b (by rw [q2]; exact fun z => nomatch z) with z | z
          · exact absurd (r.dis q o' b e1 e2) z
          · rw [z] at e2; exact absurd (List.mem_of_getElem? e2) hm
      · cases q2 : F2 P with
        | none => rfl
        | some u =>
          rcases y3 P (by rw [q2]; exact fun z => nomatch z) with z | z
          · exact absurd (r.tabs P m).2 z
          · obtain ⟨ps, e5, _⟩ := (r0.tabs P m).1
            rw [z, hH] at e5; cases e5
theorem callP_of {K : PySem.W.Frag} {m : Bool} {φ : Fn} {F : Hp} {μ : List Addr} {H : Hp} {st : Sto} {σ : L2.St} {ws : List Va} {vs : List V} {Q : VK} (r : Rel K ct F μ st H) (rs : RVs K F μ ws vs) (p : GPost K ct W (RV K) σ F μ H Q (callP m φ ws st)) : spP K ct φ vs H Q (fun cls d H => W cls d σ H) := by
  unfold callP at p
  split at p
  · rename_i hf
    refine ⟨F, ws, r.sub, r.tabs, rs.frees hf, ?_⟩
    cases e : φ ws with
    | ok w s =>
      rw [e] at p
      have t := taken_of r p
      cases ef : freshO w s with
      | none => rw [ef] at t; exact (by simp only [ef]; exact fun F' H' v x s' rv => t F' H' v x.own (r.after x s') rv)
      | some ob => rw [ef] at t; exact (by simp only [ef]; exact fun F' H' a x s' hH hF o => t F' H' a x.own (r.after x s') hH hF o)
    | err y s =>
      rw [e] at p
      exact fun F' H' c d x s rx => p F' μ H' c d x.own (r.after x s) ⟨rx.cls, fun n w h => let ⟨d', fvs, v, h1, h2, h3, h4⟩ := rx.fs n w h; ⟨d', fvs, v, h1, h2, h3, h4.mono (fun _ _ h => h) List.nil_prefix⟩, rx.dd⟩
    | stuck => rw [e] at p; exact p
  split at p
  · exact p.elim
  · rename_i ws' st' em
    obtain ⟨F1, x1, r1, rs1, _, _⟩ := mapS_ok (freezeN_ok 20) r rs em
    refine ⟨F1, ws', r1.sub, r1.tabs, rs1, ?_⟩
    cases e : φ ws' with
    | ok w s =>
      rw [e] at p
      simp only at p
      have t := taken_of r p
      cases hfl : flatF w s with
      | false =>
        rw [hfl, if_neg Bool.false_ne_true] at t
        cases ef : freshO w s with
        | none => rw [ef] at t; exact (by simp only [ef]; exact fun F' H' v x s' rv => t F' H' v (x1.trans x.own) (r1.after x s') rv)
        | some ob => rw [ef] at t; exact (by simp only [ef]; exact fun F' H' a x s' hH hF o => t F' H' a (x1.trans x.own) (r1.after x s') hH hF o)
      | true =>
        rw [hfl, if_pos rfl] at t
        unfold flatF at hfl
        cases ef : freshO w s with
        | none =>
          rw [ef] at t hfl
          simp only [ef]
          intro F' H' v x s' rv
          obtain ⟨F2, y1, y2, y3, _, _⟩ := lent r r1 x1 x s'
          exact t F2 H' v y1 y2 (rv.flat y3 hfl)
        | some ob =>
          rw [ef] at t hfl
          simp only [ef]
          intro F' H' a x s' hH hF o
          obtain ⟨F2, y1, y2, y3, y4, _⟩ := lent r r1 x1 x s'
          have hF2 : F2 a = none := by
            cases q : F2 a with
            | none => rfl
            | some u => have := y4 a u q; rw [hF] at this; cases this
          refine t F2 H' a y1 y2 hH hF2 ?_
          cases o with
          | lst h1 h2 => exact .lst h1 (h2.flats y3 hfl)
          | dic h1 hk h2 => exact .dic h1 hk (h2.flats y3 hfl)
          | ins h1 h2 h3 h4 => unfold freshO at ef; split at ef <;> cases ef
    | err y s =>
      rw [e] at p
      intro F' H' c d x s rx
      simp only at p
      split at p
      · rename_i hfl
        obtain ⟨F2, y1, y2, y3, _, y5⟩ := lent r r1 x1 x s
        refine p F2 μ H' c d y1 y2 ⟨rx.cls, fun n w h => ?_, rx.dd.imp (fun e => e) fun ⟨d', fvs, g1, g2⟩ => ⟨d', fvs, g1, y5 _ _ g2⟩⟩
        obtain ⟨d', fvs, v, h1, h2, h3, h4⟩ := rx.fs n w h
        exact ⟨d', fvs, v, h1, y5 _ _ h2, h3, h4.flat y3 (List.all_eq_true.mp hfl _ (lookup_mem h))⟩
      · exact p F' μ H' c d (x1.trans x.own) (r1.after x s) ⟨rx.cls, fun n w h => let ⟨d', fvs, v, h1, h2, h3, h4⟩ := rx.fs n w h; ⟨d', fvs, v, h1, h2, h3, h4.mono (fun _ _ h => h) List.nil_prefix⟩, rx.dd⟩
    | stuck => rw [e] at p; exact p
theorem sim_call {k : Nat} {m : Bool} {f : Str} {φ : Fn} {e : Expr} {es : List Expr} {ml : Mx (List Va)} {p pos : Pos} (tk : Takes X W) (F : FnC X.prog X.w X.K X.mg X.base ct k [] f φ) (hr : Room k X.A) (hg : Gl X f) (ha : PA X (e :: es) (TA' X ct W ml))
    (hdb : (f == ("__debug__" : Str)) = false) (he : starEach (e :: es) X.env = (false, eval e X.env) :: starEach es X.env) (hpl : (backTo pos (starEach es X.env)).any (·.1) = false) :
    PE X (.Call (.Name f p) (e :: es) [] pos) (TE' X ct W (mFn (callP m φ) ml)) := by
  obtain ⟨a, fd, ps, hm, hk, hb, G⟩ := F.ex
  refine PE.mono (pe_callSD G hr hg hm hk hb.binds .nil (fun σ => passAt tk σ) ha hdb he hpl) fun σ H Q ⟨F, μ, env, st, r, re, p⟩ => ⟨F, μ, env, st, r, re, p.bind fun ws st1 F1 μ1 H1 vs _ x1 r1 rvs p1 => ?_⟩
  rw [List.append_nil]
  exact callP_of r1 rvs p1
def mSnoc (ml : Mx (List Va)) (me : Mx Va) : Mx (List Va) := fun env st => (ml env st).bind fun l st => (me env st).bind fun x st => .ok (l ++ [x]) st
theorem sim_callK {k : Nat} {m : Bool} {f kw : Str} {φ : Fn} {e v : Expr} {es : List Expr} {ml : Mx (List Va)} {me : Mx Va} {p pos kpos : Pos} (tk : Takes X W) (F : FnC X.prog X.w X.K X.mg X.base ct k [kw] f φ) (hr : Room k X.A) (hg : Gl X f) (ha : PA X (e :: es) (TA' X ct W ml)) (hv : PE X v (TE' X ct W me))
    (hdb : (f == ("__debug__" : Str)) = false) (he : starEach (e :: es) X.env = (false, eval e X.env) :: starEach es X.env) (hpl : (backTo pos (starEach (e :: es) X.env)).any (·.1) = false) :
    PE X (.Call (.Name f p) (e :: es) [⟨some kw, v, kpos⟩] pos) (TE' X ct W (mFn (callP m φ) (mSnoc ml me))) := by
  obtain ⟨a, fd, ps, hm, hk, hb, G⟩ := F.ex
  refine ⟨fun pins s σ H Q I ⟨F, μ, env, st, r, re, p0⟩ => ?_⟩
  refine wpAny_Call_Name_kw (ld_glob I hg hm ?_ hdb)
  refine PySem.W.callWith_KW (h₀ := X.base) I.ok.mod.kin hk rfl (thn (ha.run pos pins s σ H (fun vs H1 => ∃ F1 μ1 st1 l, Rel X.K ct F1 μ1 st1 H1 ∧ REnv X.K ct F1 μ1 env σ ∧ RVs X.K F1 μ1 l vs ∧ GPost X.K ct W (RV X.K) σ F1 μ1 H1 Q ((me env st1).bind fun x st => callP m φ (l ++ [x]) st)) I ⟨F, μ, env, st, r, re, ?_⟩) fun us s1 ⟨vs, H1, I1, r1, F1, μ1, st1, l, rl1, re1, rv1, q1⟩ => ?_) (by rw [hpl]; rfl) he
  · unfold mFn mSnoc at p0
    have p1 : GPost X.K ct W (RV X.K) σ F μ H Q ((ml env st).bind fun l st => (me env st).bind fun x st => callP m φ (l ++ [x]) st) := by
      cases e1 : ml env st with
      | ok l st1 =>
        rw [e1] at p0
        simp only [R.bind_ok] at p0 ⊢
        cases e2 : me env st1 with
        | ok x st2 => rw [e2] at p0; exact p0
        | err y st2 => rw [e2] at p0; exact p0
        | stuck => rw [e2] at p0; exact p0
      | err y st2 => rw [e1] at p0; exact p0
      | stuck => rw [e1] at p0; exact p0
    exact p1.bind fun l st1 F1 μ1 H1 vs _ x1 r1 rv1 q1 => ⟨F1, μ1, st1, l, r1, re.mono x1, rv1, q1⟩
  · refine thn ((pk_cons (nm := some kw) (kpos := kpos) hv pk_nil).run pos pins s1 σ H1 (fun zs H2 => zs.length = 1 ∧ spP X.K ct φ (vs ++ zs) H2 Q (fun cls d H => W cls d σ H)) I1 ⟨F1, μ1, env, st1, rl1, re1, q1.bind fun x st2 F2 μ2 H2 v _ x2 r2 rv2 q2 => ⟨rfl, callP_of r2 ((x2.rvs rv1).append (.cons rv2 .nil)) q2⟩⟩) fun ws s2 ⟨zs, H2, I2, rz, hz, q2⟩ => ⟨I2.kIn, ?_⟩
    have l2 : ws.length = [kw].length := by rw [← rz.length]; exact hz
    have l1 := G.len _ _ _ _ q2
    rw [List.length_append, r1.length, rz.length] at l1
    refine wpAny_call (codeAny_mono (G.run X.A X.stack s2 H2 ⟨us, [kw].zip ws⟩ (us ++ ws) (vs ++ zs) Q (fun cls d H => W cls d σ H) hr I2.env0 (.of_eq (hb us ws (by rw [← l2]; exact l1) l2)) (r1.append rz) q2) fun r s' hq => ?_)
    cases r with
    | error e => exact passAt tk σ pins H2 s2 e s' I2 hq
    | ok fl =>
      cases fl with
      | ret u => exact I2.after hq
      | next => exact False.elim hq
      | brk => exact False.elim hq
      | cont => exact False.elim hq
end
end G

set_option Elab.async false
set_option linter.all false
set_option maxRecDepth 100000
set_option maxHeartbeats 4000000
namespace G
open PySem PySem.Spec PyProof.Rows L2

/-! ### a comprehension with two sources -/
theorem REnv.keep {K : PySem.W.Frag} {ct : Ct} {F F' : Hp} {μ μ' : List Addr} {env : Ev} {σ : L2.St} (e : Same F F') (hp : μ <+: μ') (r : REnv K ct F μ env σ) : REnv K ct F' μ' env σ :=
  ⟨r.len, fun i w h => let ⟨v, h1, h2⟩ := r.get i w h; ⟨v, h1, h2.mono e hp⟩, ct.mono _ _ _ e r.inv⟩
theorem lc_in {K : PySem.W.Frag} {ct : Ct} {F1 Fa : Hp} {μ1 μa : List Addr} {H1 Ha : Hp} {D : Addr} {tg : Tg} {mc : Mx Bool} {me : Mx Va} {gd : Gd} {envA : Ev} {σA : L2.St} {vs : List Nat} {J : It} {ws acc l : List Va} {accV : List V} {st stf : Sto} {Nx : Hp → Prop}
    (h1 : H1 D = none) (Dm : D ∉ μ1) (hvs : ∀ i ∈ tgIx tg, i ∈ vs) (hb : ∀ j ∈ vs, ct.Bears j) (hJ : IterOk K ct Fa μa J (ws, gd)) (re : REnv K ct Fa μa envA σA) (xa : Ext F1 μ1 H1 Fa μa Ha) (ra : Rel K ct Fa μa st Ha) (Da : D ∉ μa) (DFa : Fa D = none) (hDa : Ha D = some (.lst accV)) (racc : RVs K Fa μa acc accV)
    (hrun : lcRun tg mc me gd (wipeE envA vs) ws acc st = .ok l stf) (hz : l.length ≤ sizeLine)
    (hNx : ∀ F' μ' H' accV', Same Fa F' → μa <+: μ' → Ext F1 μ1 H1 F' μ' H' → Rel K ct F' μ' stf H' → D ∉ μ' → F' D = none → H' D = some (.lst accV') → RVs K F' μ' l accV' → Nx H') :
    ∃ W1 : Nat → Nat → Hp → Prop, (∃ m, W1 0 m Ha) ∧ ∀ j k H, W1 j k H → (J.stop j H ∧ Nx H) ∨ (J.go j H ∧ ∃ Nx1 : Hp → Prop, (∀ H', Nx1 H' → ∃ k', k' < k ∧ W1 (j + 1) k' H') ∧ ∀ x H', J.yld j H x H' → gSet K tg x (L2.wipe σA vs) H' fun σ3 H5 => L2.wipe σ3 vs = L2.wipe σA vs ∧
      TOf K ct W0 RB mc σ3 H5 fun b H6 => if b = true then TOf K ct W0 (RV K) me σ3 H6 fun y H7 => ∃ acc, H7 D = some (.lst acc) ∧ acc.length < sizeLine ∧ Nx1 (upd H7 D (.lst (acc ++ [y]))) else Nx1 H6) := by
  have re1 := re.wipe vs hb
  refine ⟨fun i m H => m = ws.length - i ∧ i ≤ ws.length ∧ ∃ F2 μ2 st2 acc accV, Same Fa F2 ∧ μa <+: μ2 ∧ Ext F1 μ1 H1 F2 μ2 H ∧ Rel K ct F2 μ2 st2 H ∧ D ∉ μ2 ∧ F2 D = none ∧ H D = some (.lst accV) ∧ RVs K F2 μ2 acc accV ∧ lcRun tg mc me gd (wipeE envA vs) (ws.drop i) acc st2 = .ok l stf,
    ⟨_, rfl, Nat.zero_le _, Fa, μa, st, acc, accV, fun _ _ h => h, List.prefix_rfl, xa, ra, Da, DFa, hDa, racc, by rw [List.drop_zero]; exact hrun⟩, ?_⟩
  rintro i n H2 ⟨rfl, hi, F2, μ2, st2, acc, accV, sm, pm, x2, r2, D2, DF2, hDv, racc, hl⟩
  by_cases hlt : i < ws.length
  · obtain ⟨w, hw⟩ : ∃ w, ws[i]? = some w := ⟨_, List.getElem?_eq_getElem hlt⟩
    have hdrop : ws.drop i = w :: ws.drop (i + 1) := by
      rw [List.drop_eq_getElem_cons hlt]
      rw [List.getElem?_eq_getElem hlt] at hw
      rw [Option.some.inj hw]
    rw [hdrop] at hl
    unfold lcRun at hl
    split at hl
    · rename_i hg
      have hIt := (hJ F2 μ2 st2 H2 sm pm r2 (gdB_ok hg) i).2 w hw
      refine .inr ⟨hIt.1, fun H' => i + 1 ≤ ws.length ∧ ∃ F2 μ2 st2 acc accV, Same Fa F2 ∧ μa <+: μ2 ∧ Ext F1 μ1 H1 F2 μ2 H' ∧ Rel K ct F2 μ2 st2 H' ∧ D ∉ μ2 ∧ F2 D = none ∧ H' D = some (.lst accV) ∧ RVs K F2 μ2 acc accV ∧ lcRun tg mc me gd (wipeE envA vs) (ws.drop (i + 1)) acc st2 = .ok l stf,
        fun H' q2 => ⟨ws.length - (i + 1), by omega, rfl, q2⟩, fun x H3 y => ?_⟩
      obtain ⟨F3, x3, r3, rx⟩ := hIt.2 x H3 y
      have out : ∀ {F'' : Hp} {μ'' : List Addr} {H'' : Hp} {F0 : Hp} {μ0 : List Addr} {H0 : Hp}, Ext F0 μ0 H0 F'' μ'' H'' → D ∉ μ0 → F0 D = none → H0 D ≠ none → D ∉ μ'' ∧ F'' D = none := fun {F'' μ'' H'' F0 μ0 H0} x a b c => by
        refine ⟨fun m => (x.mnew D m).elim a c, ?_⟩
        cases q : F'' D with
        | none => rfl
        | some o =>
          rcases x.new D (by rw [q]; exact fun z => nomatch z) with z | z | z
          · exact absurd b z
          · exact absurd z c
          · exact absurd z a
      have c2 : H2 D ≠ none := by rw [hDv]; exact fun z => nomatch z
      obtain ⟨D3, DF3⟩ := out x3 D2 DF2 c2
      have hDv3 : H3 D = some (.lst accV) := x3.keep D _ hDv D2 (fun _ => nofun)
      split at hl
      · cases hl
      · rename_i env1 et
        refine gSet_of r3 (re1.keep (fun b o h => x3.fr b o (sm b o h)) (pm.trans x3.pre)) rx et (fun j hj => hb j (hvs j hj)) fun σ' re' ⟨us, eσ⟩ => ⟨by rw [eσ, wipe_setAll _ _ _ _ hvs, wipe_wipe], ?_⟩
        split at hl
        · rename_i b st4 ec
          refine ⟨F3, μ2, env1, st2, r3, re', ?_⟩
          rw [ec]
          intro F4 μ4 H4 b' x4 r4 eb
          have eb : b = b' := eb
          subst eb
          have c3 : H3 D ≠ none := by rw [hDv3]; exact fun z => nomatch z
          obtain ⟨D4, DF4⟩ := out x4 D3 DF3 c3
          have hDv4 : H4 D = some (.lst accV) := x4.keep D _ hDv3 D3 (fun _ => nofun)
          have sm4 : Same Fa F4 := fun b o h => x4.fr b o (x3.fr b o (sm b o h))
          cases b with
          | false =>
            rw [if_neg Bool.false_ne_true] at hl ⊢
            exact ⟨hlt, F4, μ4, st4, acc, accV, sm4, (pm.trans x3.pre).trans x4.pre, (x2.trans x3).trans x4, r4, D4, DF4, hDv4, x4.rvs (x3.rvs racc), hl⟩
          | true =>
            rw [if_pos rfl] at hl ⊢
            split at hl
            · rename_i y5 st5 ee
              refine ⟨F4, μ4, env1, st4, r4, re'.mono x4, ?_⟩
              rw [ee]
              intro F5 μ5 H5 yv x5 r5 ry
              have c4 : H4 D ≠ none := by rw [hDv4]; exact fun z => nomatch z
              obtain ⟨D5, DF5⟩ := out x5 D4 DF4 c4
              have hDv5 : H5 D = some (.lst accV) := x5.keep D _ hDv4 D4 (fun _ => nofun)
              have hlen : acc.length + 1 ≤ l.length := by
                have := lcRun_len hl
                simpa using this
              refine ⟨accV, hDv5, ?_, ?_⟩
              · rw [← racc.length]; omega
              · exact ⟨hlt, F5, μ5, st5, acc ++ [y5], accV ++ [yv], fun b o h => x5.fr b o (sm4 b o h), ((pm.trans x3.pre).trans x4.pre).trans x5.pre, Ext.lay (((x2.trans x3).trans x4).trans x5) h1 Dm _, r5.lay D5 DF5 (nt_lst hDv5) _, D5, DF5, upd_same, (x5.rvs (x4.rvs (x3.rvs racc))).append (.cons ry .nil), hl⟩
            · cases hl
        · cases hl
    · cases hl
  · have hi' : i = ws.length := by omega
    rw [List.drop_eq_nil_of_le (by omega)] at hl
    unfold lcRun at hl
    split at hl
    · rename_i hg
      cases hl
      exact .inl ⟨(hJ F2 μ2 _ H2 sm pm r2 (gdB_ok hg) i).1 hi', hNx F2 μ2 H2 accV sm pm x2 r2 D2 DF2 hDv racc⟩
    · cases hl
/-- two sources: the second one is looked at anew for each of the first -/
def lcRun2 (tg : Tg) (mc : Mx Bool) (mi1 : Mx (List Va × Gd)) (vs1 : List Nat) (tg1 : Tg) (mc1 : Mx Bool) (me : Mx Va) (gd : Gd) (env : Ev) : List Va → List Va → Sto → R (List Va)
  | [], acc, st => if gdB gd st then .ok acc st else .stuck
  | x :: rest, acc, st => if gdB gd st then match tgV tg x env st with
      | none => .stuck
      | some env1 => match mc env1 st with
        | .ok b st1 => if b then match mi1 env1 st1 with
            | .ok wg st2 => match lcRun tg1 mc1 me wg.2 (wipeE env1 vs1) wg.1 acc st2 with
              | .ok acc2 st3 => lcRun2 tg mc mi1 vs1 tg1 mc1 me gd env rest acc2 st3
              | _ => .stuck
            | _ => .stuck
          else lcRun2 tg mc mi1 vs1 tg1 mc1 me gd env rest acc st1
        | _ => .stuck
    else .stuck
theorem lcRun2_len {tg : Tg} {mc : Mx Bool} {mi1 : Mx (List Va × Gd)} {vs1 : List Nat} {tg1 : Tg} {mc1 : Mx Bool} {me : Mx Va} {gd : Gd} {env : Ev} : ∀ {xs acc : List Va} {st : Sto} {l : List Va} {st' : Sto}, lcRun2 tg mc mi1 vs1 tg1 mc1 me gd env xs acc st = .ok l st' → acc.length ≤ l.length
  | [], acc, st, l, st', h => by
    unfold lcRun2 at h
    split at h
    · cases h; exact Nat.le_refl _
    · cases h
  | x :: xs, acc, st, l, st', h => by
    unfold lcRun2 at h
    split at h
    · split at h
      · cases h
      · split at h
        · split at h
          · split at h
            · split at h
              · rename_i e
                exact Nat.le_trans (lcRun_len e) (lcRun2_len h)
              · cases h
            · cases h
          · exact lcRun2_len h
        · cases h
    · cases h
theorem lcRun2_err {tg : Tg} {mc : Mx Bool} {mi1 : Mx (List Va × Gd)} {vs1 : List Nat} {tg1 : Tg} {mc1 : Mx Bool} {me : Mx Va} {gd : Gd} {env : Ev} {x : Exc} {st' : Sto} : ∀ {xs acc : List Va} {st : Sto}, lcRun2 tg mc mi1 vs1 tg1 mc1 me gd env xs acc st ≠ .err x st'
  | [], acc, st, h => by
    unfold lcRun2 at h
    split at h <;> cases h
  | y :: xs, acc, st, h => by
    unfold lcRun2 at h
    split at h
    · split at h
      · cases h
      · split at h
        · split at h
          · split at h
            · split at h
              · exact lcRun2_err h
              · cases h
            · cases h
          · exact lcRun2_err h
        · cases h
    · cases h
def mLc2 (m : Bool) (vs vs1 : List Nat) (tg : Tg) (mi : Mx (List Va × Gd)) (mc : Mx Bool) (tg1 : Tg) (mi1 : Mx (List Va × Gd)) (mc1 : Mx Bool) (me : Mx Va) : Mx Va := fun env st => (mi env st).bind fun wg st => (lcRun2 tg mc mi1 vs1 tg1 mc1 me wg.2 (wipeE env vs) wg.1 [] st).bind fun l st => mkL m l st
theorem tLc2_of {K : PySem.W.Frag} {ct : Ct} {W : WX} {m : Bool} {vs vs1 : List Nat} {tg tg1 : Tg} {mi mi1 : Mx (List Va × Gd)} {mc mc1 : Mx Bool} {me : Mx Va} {wi : TI} {σ : L2.St} {H : Hp} {Q : VK} (hwi : ∀ R, TOf K ct W (RI K ct) mi σ H R → wi σ H R) (hvs : ∀ i ∈ tgIx tg, i ∈ vs) (hvs1 : ∀ i ∈ tgIx tg1, i ∈ vs1) (hb : ∀ j ∈ vs, ct.Bears j) (hb1 : ∀ j ∈ vs1, ct.Bears j)
    (h : TOf K ct W (RV K) (mLc2 m vs vs1 tg mi mc tg1 mi1 mc1 me) σ H Q) : tLc2 wi (gSet K tg) (TOf K ct W0 RB mc) (TOf K ct W0 (RI K ct) mi1) (gSet K tg1) (TOf K ct W0 RB mc1) (TOf K ct W0 (RV K) me) vs vs1 σ H Q := by
  obtain ⟨F, μ, env, st, r, re, p⟩ := h
  refine hwi _ ⟨F, μ, env, st, r, re, p.bind fun wg st1 F1 μ1 H1 J _ x1 r1 hJ p1 => fun D hD => ?_⟩
  have re1 := (re.mono x1).wipe vs hb
  have Dm : D ∉ μ1 := fun m => r1.mtr D m hD
  have DF : F1 D = none := r1.nofrz hD
  cases hrun : lcRun2 tg mc mi1 vs1 tg1 mc1 me wg.2 (wipeE env vs) wg.1 [] st1 with
  | err x st' => exact absurd hrun lcRun2_err
  | stuck => rw [hrun] at p1; exact p1.elim
  | ok l stf =>
  rw [hrun] at p1
  have hz : l.length ≤ sizeLine := by
    simp only [R.bind_ok, mkL] at p1
    split at p1
    · assumption
    · exact p1.elim
  refine ⟨fun i m H => m = wg.1.length - i ∧ i ≤ wg.1.length ∧ ∃ F2 μ2 st2 acc accV, Ext F1 μ1 H1 F2 μ2 H ∧ Rel K ct F2 μ2 st2 H ∧ D ∉ μ2 ∧ F2 D = none ∧ H D = some (.lst accV) ∧ RVs K F2 μ2 acc accV ∧ lcRun2 tg mc mi1 vs1 tg1 mc1 me wg.2 (wipeE env vs) (wg.1.drop i) acc st2 = .ok l stf,
    ⟨_, rfl, Nat.zero_le _, F1, μ1, st1, [], [], Ext.lay .refl hD Dm _, r1.lay Dm DF (nt_none hD) _, Dm, DF, upd_same, .nil, by rw [List.drop_zero]; exact hrun⟩, ?_⟩
  rintro i n H2 ⟨rfl, hi, F2, μ2, st2, acc, accV, x2, r2, D2, DF2, hDv, racc, hl⟩
  by_cases hlt : i < wg.1.length
  · obtain ⟨w, hw⟩ : ∃ w, wg.1[i]? = some w := ⟨_, List.getElem?_eq_getElem hlt⟩
    have hdrop : wg.1.drop i = w :: wg.1.drop (i + 1) := by
      rw [List.drop_eq_getElem_cons hlt]
      rw [List.getElem?_eq_getElem hlt] at hw
      rw [Option.some.inj hw]
    rw [hdrop] at hl
    unfold lcRun2 at hl
    split at hl
    · rename_i hg
      have hIt := (hJ F2 μ2 st2 H2 x2.fr x2.pre r2 (gdB_ok hg) i).2 w hw
      refine .inr ⟨hIt.1, fun H' => i + 1 ≤ wg.1.length ∧ ∃ F2 μ2 st2 acc accV, Ext F1 μ1 H1 F2 μ2 H' ∧ Rel K ct F2 μ2 st2 H' ∧ D ∉ μ2 ∧ F2 D = none ∧ H' D = some (.lst accV) ∧ RVs K F2 μ2 acc accV ∧ lcRun2 tg mc mi1 vs1 tg1 mc1 me wg.2 (wipeE env vs) (wg.1.drop (i + 1)) acc st2 = .ok l stf,
        fun H' q2 => ⟨wg.1.length - (i + 1), by omega, rfl, q2⟩, fun x H3 y => ?_⟩
      obtain ⟨F3, x3, r3, rx⟩ := hIt.2 x H3 y
      have out : ∀ {F'' : Hp} {μ'' : List Addr} {H'' : Hp} {F0 : Hp} {μ0 : List Addr} {H0 : Hp}, Ext F0 μ0 H0 F'' μ'' H'' → D ∉ μ0 → F0 D = none → H0 D ≠ none → D ∉ μ'' ∧ F'' D = none := fun {F'' μ'' H'' F0 μ0 H0} x a b c => by
        refine ⟨fun m => (x.mnew D m).elim a c, ?_⟩
        cases q : F'' D with
        | none => rfl
        | some o =>
          rcases x.new D (by rw [q]; exact fun z => nomatch z) with z | z | z
          · exact absurd b z
          · exact absurd z c
          · exact absurd z a
      have c2 : H2 D ≠ none := by rw [hDv]; exact fun z => nomatch z
      obtain ⟨D3, DF3⟩ := out x3 D2 DF2 c2
      have hDv3 : H3 D = some (.lst accV) := x3.keep D _ hDv D2 (fun _ => nofun)
      split at hl
      · cases hl
      · rename_i env1 et
        refine gSet_of r3 ((re1.mono (x2.trans x3))) rx et (fun j hj => hb j (hvs j hj)) fun σ' re' ⟨us, eσ⟩ => ⟨by rw [eσ, wipe_setAll _ _ _ _ hvs, wipe_wipe], ?_⟩
        split at hl
        · rename_i b st4 ec
          refine ⟨F3, μ2, env1, st2, r3, re', ?_⟩
          rw [ec]
          intro F4 μ4 H4 b' x4 r4 eb
          have eb : b = b' := eb
          subst eb
          have c3 : H3 D ≠ none := by rw [hDv3]; exact fun z => nomatch z
          obtain ⟨D4, DF4⟩ := out x4 D3 DF3 c3
          have hDv4 : H4 D = some (.lst accV) := x4.keep D _ hDv3 D3 (fun _ => nofun)
          cases b with
          | false =>
            rw [if_neg Bool.false_ne_true] at hl ⊢
            exact ⟨hlt, F4, μ4, st4, acc, accV, (x2.trans x3).trans x4, r4, D4, DF4, hDv4, x4.rvs (x3.rvs racc), hl⟩
          | true =>
            rw [if_pos rfl] at hl ⊢
            split at hl
            · rename_i wg1 st5 ei
              refine ⟨F4, μ4, env1, st4, r4, re'.mono x4, ?_⟩
              rw [ei]
              intro F5 μ5 H5 J1 x5 r5 hJ1
              have c4 : H4 D ≠ none := by rw [hDv4]; exact fun z => nomatch z
              obtain ⟨D5, DF5⟩ := out x5 D4 DF4 c4
              have hDv5 : H5 D = some (.lst accV) := x5.keep D _ hDv4 D4 (fun _ => nofun)
              split at hl
              · rename_i acc2 st6 el
                have hlen : acc2.length ≤ sizeLine := Nat.le_trans (lcRun2_len hl) hz
                exact lc_in hD Dm hvs1 hb1 hJ1 ((re'.mono x4).mono x5) (((x2.trans x3).trans x4).trans x5) r5 D5 DF5 hDv5 (x5.rvs (x4.rvs (x3.rvs racc))) el hlen fun F' μ' H' accV' _ _ xx rr dd ff hh rs => ⟨hlt, F', μ', st6, acc2, accV', xx, rr, dd, ff, hh, rs, hl⟩
              · cases hl
            · cases hl
        · cases hl
    · cases hl
  · have hi' : i = wg.1.length := by omega
    rw [List.drop_eq_nil_of_le (by omega)] at hl
    unfold lcRun2 at hl
    split at hl
    · rename_i hg
      cases hl
      exact .inl ⟨(hJ F2 μ2 stf H2 x2.fr x2.pre r2 (gdB_ok hg) i).1 hi', mkL_at r2 x2 D2 DF2 hD hDv racc p1⟩
    · cases hl
end G

set_option Elab.async false
set_option linter.all false
set_option maxRecDepth 100000
set_option maxHeartbeats 4000000
namespace G
open PySem PySem.Spec PyProof.Rows L2

/-! ### list(range(a, b)) -/
def rgB (a b : Int) : Bool := i62 a && i62 b && decide ((b - a).toNat ≤ 2 ^ 24)
def mLrg (m : Bool) (ma mb : Mx Va) : Mx Va := fun env st => (ma env st).bind fun x st => (mb env st).bind fun y st => match intOf x, intOf y with
  | some a, some b => if rgB a b then mkL m (rints a (b - a).toNat) st else .stuck
  | _, _ => .stuck
theorem rints_rv {K : PySem.W.Frag} {F : Hp} {μ : List Addr} (a b : Int) : RVs K F μ (rints a (b - a).toNat) (rgV a b) := by
  unfold rints rgV
  generalize (b - a).toNat = n
  have key : ∀ l : List Nat, RVs K F μ (l.map fun i => Va.int (a + (i : Nat))) (l.map fun i => V.int (a + (i : Nat))) := by
    intro l
    induction l with
    | nil => exact .nil
    | cons i r ih => exact .cons (.int _) ih
  exact key _
theorem sim_lrg {X : Cx} {ct : Ct} {W : WX} {m : Bool} {a b : Expr} {ma mb : Mx Va} {p p2 pos pos2 : Pos} (hc : X.calm = true) (hg : Gl X "list") (hm : X.mg "list" = none) (hg2 : Gl X "range") (hm2 : X.mg "range" = none) (ha : PE X a (TE' X ct W ma)) (hb : PE X b (TE' X ct W mb))
    (na : starEach [a, b] X.env = (false, eval a X.env) :: starEach [b] X.env) (nb : starEach [b] X.env = (false, eval b X.env) :: starEach [] X.env) (hp : (backTo pos2 (starEach [b] X.env)).any (·.1) = false) :
    PE X (.Call (.Name "list" p) [.Call (.Name "range" p2) [a, b] [] pos2] [] pos) (TE' X ct W (mLrg m ma mb)) := by
  refine PE.mono (pe_listRg hc hg hm (prg_2 hg2 hm2 ha hb na nb hp)) fun σ H Q ⟨F, μ, env, st, r, re, q⟩ => ⟨F, μ, env, st, r, re, q.bind fun x st1 F1 μ1 H1 xv _ x1 r1 rx q1 => ⟨F1, μ1, env, st1, r1, re.mono x1, q1.bind fun y st2 F2 μ2 H2 yv _ x2 r2 ry q2 => ?_⟩⟩
  split at q2
  · rename_i i j ei ej
    obtain rfl := intOf_ok (x2.rv rx) ei
    obtain rfl := intOf_ok ry ej
    split at q2
    · rename_i hh
      simp only [rgB, Bool.and_eq_true, decide_eq_true_eq] at hh
      obtain ⟨c1, c2⟩ := (of_decide_eq_true hh.1.1 : -(2 ^ 62) ≤ i ∧ i < 2 ^ 62)
      obtain ⟨c3, c4⟩ := (of_decide_eq_true hh.1.2 : -(2 ^ 62) ≤ j ∧ j < 2 ^ 62)
      exact ⟨i, j, rfl, rfl, ⟨c1, c2, c3, c4, hh.2⟩, (mkL_ok r2 (rints_rv i j) q2).2⟩
    · exact q2.elim
  · exact q2.elim
end G

set_option Elab.async false
set_option linter.all false
set_option maxRecDepth 100000
set_option maxHeartbeats 4000000
/-! built-ins outside of except suites: sorted, sum, dict; d.get; {} -/
namespace G
open PySem PySem.Spec PyProof.Rows L2

theorem sorted_eq : ∀ {a b : List Int}, a.Perm b → a.Pairwise (· ≤ ·) → b.Pairwise (· ≤ ·) → a = b
  | [], b, h, _, _ => by rw [List.nil_perm.mp h]
  | x :: a, b, h, h1, h2 => by
    cases b with
    | nil => exact absurd h.length_eq (by simp)
    | cons y b =>
      rw [List.pairwise_cons] at h1 h2
      have e : x = y := by
        have m1 : x ∈ y :: b := h.mem_iff.mp List.mem_cons_self
        have m2 : y ∈ x :: a := h.mem_iff.mpr List.mem_cons_self
        rcases List.mem_cons.mp m1 with e | m1
        · exact e
        · rcases List.mem_cons.mp m2 with e | m2
          · exact e.symm
          · have := h1.1 y m2
            have := h2.1 x m1
            omega
      subst e
      rw [sorted_eq (List.Perm.cons_inv h) h1.2 h2.2]
def sortI (l : List Int) : List Int := l.mergeSort fun a b => decide (a ≤ b)
theorem sortI_perm (l : List Int) : (sortI l).Perm l := List.mergeSort_perm _ _
theorem sortI_sorted (l : List Int) : (sortI l).Pairwise (· ≤ ·) := by
  have := List.pairwise_mergeSort (le := fun a b : Int => decide (a ≤ b)) (fun a b c h1 h2 => by simp at h1 h2 ⊢; omega) (fun a b => by simp; omega) l
  exact this.imp fun h => by simpa using h
theorem sortI_of {l ys : List Int} (h : ys.Perm l) (h2 : ys.Pairwise (· ≤ ·)) : ys = sortI l := sorted_eq (h.trans (sortI_perm l).symm) h2 (sortI_sorted l)
def kyInts : List Ky → Option (List Int)
  | [] => some []
  | .inl i :: r => (kyInts r).map (i :: ·)
  | .inr _ :: _ => none
def vaInts : List Va → Option (List Int)
  | [] => some []
  | .int i :: r => (vaInts r).map (i :: ·)
  | _ :: _ => none
theorem kyInts_ok : ∀ {ks : List Ky} {is : List Int}, kyInts ks = some is → ks = is.map Sum.inl
  | [], is, h => by cases h; rfl
  | .inl i :: r, is, h => by
    obtain ⟨js, e, rfl⟩ := map_some h
    rw [kyInts_ok e]
    rfl
  | .inr _ :: _, is, h => by cases h
theorem vaInts_ok : ∀ {l : List Va} {is : List Int}, vaInts l = some is → l = is.map Va.int
  | [], is, h => by cases h; rfl
  | .int i :: r, is, h => by
    obtain ⟨js, e, rfl⟩ := map_some h
    rw [vaInts_ok e]
    rfl
  | .non :: _, is, h => by cases h
  | .bl _ :: _, is, h => by cases h
  | .str _ :: _, is, h => by cases h
  | .tup _ :: _, is, h => by cases h
  | .lst _ :: _, is, h => by cases h
  | .dic _ _ :: _, is, h => by cases h
  | .scr _ :: _, is, h => by cases h
  | .ref _ :: _, is, h => by cases h
theorem rvs_ints {K : PySem.W.Frag} {F : Hp} {μ : List Addr} : ∀ {is : List Int} {vs : List V}, RVs K F μ (is.map Va.int) vs → vs = is.map V.int
  | [], _, .nil => rfl
  | i :: is, _, .cons r t => by cases r; rw [rvs_ints t]; rfl
theorem ints_rvs {K : PySem.W.Frag} {F : Hp} {μ : List Addr} : ∀ (is : List Int), RVs K F μ (is.map Va.int) (is.map V.int)
  | [] => .nil
  | i :: is => .cons (.int i) (ints_rvs is)
def mkD (m : Bool) (ks : List Ky) (l : List Va) (st : Sto) : R Va := if m then .ok (.ref st.length) (st ++ [some (.dic ks l)]) else .ok (.dic ks l) st
section
variable {K : PySem.W.Frag} {ct : Ct} {W : WX} {F : Hp} {μ : List Addr} {H : Hp} {σ : L2.St} {st : Sto}
theorem mkD_ok {m : Bool} {ks : List Ky} {l : List Va} {kvs : List (Key × V)} {Q : VK} (r : Rel K ct F μ st H) (hk : kvs.map (·.1) = ks.map kyK) (rs : RVs K F μ l (kvs.map (·.2))) (h : GPost K ct W (RV K) σ F μ H Q (mkD m ks l st)) : ∀ p, H p = none → Q (.ref p) (upd H p (.dK kvs)) := by
  intro p hp
  cases m with
  | false => exact h _ _ _ _ (.frz r hp _) (r.frz hp _) (.dic upd_same hk (rs.mono (same_upd (r.nofrz hp)) List.prefix_rfl))
  | true =>
    refine h _ _ _ _ (.put r hp _) (r.put hp (.dic upd_same hk rs)) (.ref ?_)
    rw [r.len, List.getElem?_append_right (Nat.le_refl _)]
    simp
end
inductive Cb | sorted | sum | dict
def sortedV (m : Bool) (l : List Va) (st : Sto) : R Va := match l with
  | [x] => match dicOf x st with
    | some (ks, _) => match kyInts ks with
      | some is => if is.length < 64 then mkL m ((sortI is).map .int) st else .stuck
      | none => .stuck
    | none => match lstOf x st with
      | some l => match vaInts l with
        | some is => mkL m ((sortI is).map .int) st
        | none => .stuck
      | none => .stuck
  | _ => .stuck
def sumV (l : List Va) (st : Sto) : R Va := match l with
  | [x] => match lstOf x st with
    | some l => match vaInts l with
      | some is => .ok (.int is.sum) st
      | none => .stuck
    | none => .stuck
  | _ => .stuck
def dictV (m : Bool) (l : List Va) (st : Sto) : R Va := match l with
  | [x] => match dicOf x st with
    | some (ks, l) => mkD m ks l st
    | none => .stuck
  | _ => .stuck
def cbV (b : Cb) (m : Bool) : List Va → Sto → R Va := match b with
  | .sorted => sortedV m | .sum => sumV | .dict => dictV m
def cbN : Cb → Str
  | .sorted => "sorted" | .sum => "sum" | .dict => "dict"
section
variable {X : Cx} {ct : Ct} {W : WX}
theorem call_sortedV (hc : X.calm = true) (m : Bool) : CallR X (.builtin "sorted") (cOf X.K ct W (sortedV m)) := by
  intro pins s σ H xs us Q I rs h
  obtain ⟨F, μ, st, ws, σ', r, rv, p⟩ := h
  unfold sortedV at p
  split at p
  · rename_i x
    obtain ⟨v, rfl, r1⟩ := rv.one
    split at p
    · rename_i ks l ed
      obtain ⟨a, kvs, rfl, g1, g2, g3⟩ := dicOf_ok r r1 ed
      split at p
      · rename_i is ei
        split at p
        · rename_i hl
          refine call_sortedDI hc pins s σ H _ us Q I rs ⟨a, kvs, is, rfl, .of g1, by rw [g2, kyInts_ok ei, List.map_map]; rfl, hl, fun ys p' h1 h2 hn => ?_⟩
          rw [sortI_of h1 h2]
          exact (mkL_ok r (ints_rvs _) p).2 p' hn
        · exact p.elim
      · exact p.elim
    · split at p
      · rename_i l el
        obtain ⟨a, vs, rfl, g1, g2⟩ := lstOf_ok r r1 el
        split at p
        · rename_i is ei
          rw [vaInts_ok ei] at g2
          have := rvs_ints g2
          subst this
          refine cr_sortedI pins s σ H _ us Q I rs ⟨a, is, rfl, .of g1, fun ys p' h1 h2 hn => ?_⟩
          rw [sortI_of h1 h2]
          exact (mkL_ok r (ints_rvs _) p).2 p' hn
        · exact p.elim
      · exact p.elim
  · exact p.elim
theorem call_sumV (hc : X.calm = true) : CallR X (.builtin "sum") (cOf X.K ct W sumV) := by
  intro pins s σ H xs us Q I rs h
  obtain ⟨F, μ, st, ws, σ', r, rv, p⟩ := h
  unfold sumV at p
  split at p
  · rename_i x
    obtain ⟨v, rfl, r1⟩ := rv.one
    split at p
    · rename_i l el
      obtain ⟨a, vs, rfl, g1, g2⟩ := lstOf_ok r r1 el
      split at p
      · rename_i is ei
        rw [vaInts_ok ei] at g2
        have := rvs_ints g2
        subst this
        exact cr_sum hc pins s σ H _ us Q I rs ⟨a, is, rfl, .of g1, p.here r (.int _)⟩
      · exact p.elim
    · exact p.elim
  · exact p.elim
theorem call_dictV (m : Bool) : CallR X (.type "dict") (cOf X.K ct W (dictV m)) := by
  intro pins s σ H xs us Q I rs h
  obtain ⟨F, μ, st, ws, σ', r, rv, p⟩ := h
  unfold dictV at p
  split at p
  · rename_i x
    obtain ⟨v, rfl, r1⟩ := rv.one
    split at p
    · rename_i ks l ed
      obtain ⟨a, kvs, rfl, g1, g2, g3⟩ := dicOf_ok r r1 ed
      obtain ⟨u, rfl, ru⟩ := vals1 rs
      obtain rfl : u = Value.ref a := ru
      exact d_copyOf I (.of g1) fun p' s' hn J => ⟨.ref p', _, J, rfl, mkD_ok r g2 g3 p p' hn⟩
    · exact p.elim
  · exact p.elim
theorem cb_ok (hc : X.calm = true) (b : Cb) (m : Bool) : (∃ id, CallR X (.builtin id) (cOf X.K ct W (cbV b m)) ∧ bootBuiltins (cbN b) = some (.builtin id)) ∨ ∃ t, CallR X (.type t) (cOf X.K ct W (cbV b m)) ∧ bootBuiltins (cbN b) = some (.type t) := by
  cases b
  · exact .inl ⟨_, call_sortedV hc m, by decide +kernel⟩
  · exact .inl ⟨_, call_sumV hc, by decide +kernel⟩
  · exact .inr ⟨_, call_dictV m, by decide +kernel⟩
/-- d.get(k), d.get(k, x) -/
def getV (x : Va) (l : List Va) (st : Sto) : R Va := match dicOf x st with
  | some (ks, ws) => match l with
    | [k] => match kyOf k with
      | some k => .ok ((atKy ks ws k).getD .non) st
      | none => .stuck
    | [k, d] => match kyOf k with
      | some k => .ok ((atKy ks ws k).getD d) st
      | none => .stuck
    | _ => .stuck
  | none => .stuck
theorem getD_ok {K : PySem.W.Frag} {F : Hp} {μ : List Addr} {k : Ky} {ks : List Ky} {ws : List Va} {kvs : List (Key × V)} {d : Va} {dv : V} (g2 : kvs.map (·.1) = ks.map kyK) (g3 : RVs K F μ ws (kvs.map (·.2))) (rd : RV K F μ d dv) : RV K F μ ((atKy ks ws k).getD d) ((valV kvs (kyK k)).getD dv) := by
  obtain ⟨h1, h2⟩ := atKy_ok k g2 g3
  cases e : atKy ks ws k with
  | none => rw [h2 e]; exact rd
  | some w =>
    obtain ⟨v, hv, rv⟩ := h1 w e
    rw [hv]
    exact rv
theorem mt_getV (hu : X.A.units + 64 < cLine) : MtR X "dict.get" (mOf X.K ct W getV) := by
  intro pins s σ H x vs v us Q I rx rv h
  obtain ⟨F, μ, st, w, ws, σ', r, r1, r2, p⟩ := h
  unfold getV at p
  split at p
  · rename_i ks l ed
    obtain ⟨a, kvs, rfl, g1, g2, g3⟩ := dicOf_ok r r1 ed
    obtain rfl : v = Value.ref a := rx
    split at p
    · rename_i k
      obtain ⟨kv, rfl, rk⟩ := r2.one
      obtain ⟨u, rfl, ru⟩ := vals1 rv
      split at p
      · rename_i ky ek
        obtain rfl := kyOf_ok rk ek
        exact d_get1 (by omega) I (.inl ⟨kvs, _, .of g1, rfl, rfl⟩) ru fun w' s' J rw' => ⟨_, H, J, rw', p.here r (getD_ok g2 g3 .non)⟩
      · exact p.elim
    · rename_i k d
      obtain ⟨kv, dv, rfl, rk, rd⟩ := r2.two
      cases rv with
      | cons ru rr =>
      cases rr with
      | cons ru2 rr =>
      cases rr
      split at p
      · rename_i ky ek
        obtain rfl := kyOf_ok rk ek
        exact d_get2 (by omega) I (.inl ⟨kvs, _, .of g1, rfl, rfl⟩) ru ru2 fun w' s' J rw' => ⟨_, H, J, rw', p.here r (getD_ok g2 g3 rd)⟩
      · exact p.elim
    · exact p.elim
  · exact p.elim
/-- {} -/
def mDnew (m : Bool) : Mx Va := fun _ st => mkD m [] [] st
theorem sim_dnew {m : Bool} {pos : Pos} : PE X (.Dict [] [] pos) (TE' X ct W (mDnew m)) := PE.mono pe_dnewK fun σ H Q ⟨F, μ, env, st, r, re, p⟩ => fun p' hn => mkD_ok (kvs := []) r rfl .nil p p' hn
end
end G

set_option Elab.async false
set_option linter.all false
set_option maxRecDepth 100000
set_option maxHeartbeats 8000000
namespace G
open PySem PySem.Spec PyProof.Rows L2

/-! ### all(test(sign) for sign in text) -/
/-- the test's body: return p.isalnum() or p in g -/
def signB (p g : Str) (sc : Scope) : List Stmt → Bool
  | [.Return (some (.BoolOp .Or [.Call (.Attribute (.Name p1 _) m apos) [] [] cpos, .Compare (.Name p2 _) [.In] [.Name g1 _] _] _)) _] =>
    decide (p1 = p) && (decide (m = "isalnum") && (decide (p2 = p) && (decide (g1 = g) && ((apos.endLine == cpos.line) && (!(p == ("__debug__" : Str)) && (!(g == ("__debug__" : Str)) && (decide (sc.names.lookup p = some .local) && (decide (sc.names.lookup g = some .globalImplicit) && sc.names.all fun y => decide (y.2 ≠ .cell)))))))))
  | _ => false
/-- what is known of such a test -/
structure SignF (K : PySem.W.Frag) (mg : Str → Option Value) (f : Str) (gs : Tx) : Prop where
  ex : ∃ (a : Addr) (x qual : Str) (params : Arguments) (body : List Stmt) (scope : Scope) (kws : List (Str × V)) (fd : FuncData) (N : List Str) (p g : Str) (t : Tok),
    mg f = some (.ref a) ∧ FunD K x qual params body scope [] kws a fd ∧ FnScope N [p] scope ∧ KB fd [p] [] ∧ signB p g scope body = true ∧ mg g = some (.str (mkS gs) t)
def sgV (gs : Tx) (c : Nat) : Bool := Txt.isalnum ⟨#[c]⟩ || decide (c ∈ gs)
theorem keeps_of {s : Shared} {h : Heap} {k : Nat} (e : ∀ b o, s.heap.get? b = some o → h.get? b = some o) : Keeps s { s with heap := h, toks := k } := ⟨h, k, rfl, e⟩

/-- the test's call -/
theorem elt_sign {prog : Program} {w : World} {K : PySem.W.Frag} {mg : Str → Option Value} {base : Heap} {f x : Str} {gs : Tx} {p1 p2 pos : Pos} {gsc : Scope} (S : SignF K mg f gs) (KX : K.In base) (hns : base.Ns mainGlobals mg) (hlm : base.NoLimit)
    (hk : gsc.kind = .function) (hx : gsc.names.lookup x = some .local) (hf : gsc.names.lookup f = some .globalImplicit) (hfd : (f == ("__debug__" : Str)) = false) (hxd : (x == ("__debug__" : Str)) = false)
    {cenv : Env} {A' : Around} {E' : Value → Shared → Prop} {c : Nat} {t : Tok} {s₂ : Shared} {m₂ : Str → Option Value} (hs : cenv.scope = gsc) (hgl : cenv.globals = mainGlobals) (hh : A'.handled = none) (hd : A'.depth < recursionLimit)
    (hb : ∀ b o, base.get? b = some o → s₂.heap.get? b = some o) (hn : s₂.heap.Ns cenv.locals m₂) (hm : m₂ x = some (.str ⟨#[c]⟩ t)) :
    wpAny (model prog w) A' (eval (.Call (.Name f p1) [.Name x p2] [] pos) cenv) (fun y s₃ => y = .bool (sgV gs c) ∧ Keeps s₂ s₃) E' s₂ := by
  obtain ⟨a, xn, qual, params, body, scope, kws, fd, N, p, g, tg, e1, F, FS, kb, sb, e2⟩ := S.ex
  obtain ⟨oc, od, dV, kV, doc, pm, an, cdv, ct, osl, rfl, lk, hcd, _, _⟩ := F.ex
  have kx2 : K.In s₂.heap := KX.keeps hb
  refine wpAny_Call_Name_kw (Calls.Name_function_global (by rw [hs]; exact hk) (by show cenv.scope.names.lookup f = _; rw [hs]; exact hf) (Calls.loadGlobal_global (by rw [hgl]; exact hns.keeps hb) e1 ?_) hfd)
  refine PySem.W.callWith_K (h₀ := base) KX F.kp ?_
  refine Calls.spliced_cons (wpAny_Name (wpAny_loadName_local (by rw [hs]; exact hk) (show cenv.scope.names.lookup x = _ by rw [hs]; exact hx) hn hm ?_) hxd)
  refine Calls.spliced_nil ⟨kx2, wpAny_call ?_⟩
  unfold signB at sb
  split at sb
  case h_2 => cases sb
  rename_i p1' k4 m apos cpos p2' k5 g1 k6 k7 k8 k9
  simp only [Bool.and_eq_true, decide_eq_true_eq, Bool.not_eq_true', List.all_eq_true] at sb
  obtain ⟨rfl, rfl, rfl, rfl, hline, hpd, hgd, hpl, hgg, hcl⟩ := sb
  refine codeAny_call_def hd (kx2 _ _ lk) rfl (hlm.keeps hb) (PySem.W.codeRec_of kx2 hcd) rfl (BindsTo.of_eq (kb [.str ⟨#[c]⟩ t] [] rfl rfl)) (fun y hy => hcl y hy) (fun y hy => ?_) (fun h₀ hns₀ hk₀ => ?_) FS.co FS.gen FS.kind
  · have hy : y ∈ [(p2', Value.str ⟨#[c]⟩ t)] := hy
    rw [List.mem_singleton.mp hy]
    exact hpl
  have look : (fun x => (List.zip [p2'] ([Value.str ⟨#[c]⟩ t] ++ [])).reverse.lookup x) p2' = some (.str ⟨#[c]⟩ t) := by simp
  have ld : ∀ {A : Around} {E : Value → Shared → Prop} {Q : Value → Shared → Prop} {s : Shared} {ps : Pos} {env : Env}, env.scope = scope → env.locals = s₂.heap.objs.size → (∀ b o, h₀.get? b = some o → s.heap.get? b = some o) → Q (.str ⟨#[c]⟩ t) s → wpAny (model prog w) A (eval (.Name p2' ps) env) Q E s := fun {A E Q s ps env} h1 h2 h3 h4 => by
    refine wpAny_Name (wpAny_loadName_local (by rw [h1]; exact FS.kind) (show env.scope.names.lookup p2' = _ by rw [h1]; exact hpl) (by rw [h2]; exact hns₀.keeps h3) look h4) hpd
  refine wpAny_execs_cons (wpAny_Return_some ?_)
  have fin : ∀ (k : Nat), Keeps s₂ { s₂ with heap := h₀, toks := k } := fun k => keeps_of hk₀
  refine BoolOp_or (Call_method0 rfl hline (ld rfl rfl (fun b o e => e) (SB.isalnum (wpAny_truthy_bool ?_))))
  cases hi : Txt.isalnum ⟨#[c]⟩ with
  | true =>
    simp only [if_true]
    exact ⟨by unfold sgV; rw [hi]; rfl, fin _⟩
  | false =>
    rw [if_neg Bool.false_ne_true]
    refine BoolOp_one (wpAny_Compare1 (ld rfl rfl (fun b o e => e) (Calls.Name_function_global FS.kind hgg (Calls.loadGlobal_global (hns.keeps fun b o e => hk₀ b o (hb b o e)) e2 (in_str ?_)) hgd)))
    have fo := StrLaws.found_one (mkS gs) c
    refine ⟨?_, fin _⟩
    unfold sgV
    rw [hi, Bool.false_or]
    rw [tl_mkS] at fo
    exact congrArg Value.bool fo

section
variable {X : Cx} {pins : List (Addr × Obj)} {σ : L2.St} {H : Hp} {s : Shared}
/-- the element tests the sign c, in the frame of the generator -/
def EltQ (X : Cx) (gsc : Scope) (x : Str) (elt : Expr) (pb : Nat → Bool) : Prop :=
  ∀ (ce : Env) (A' : Around) (E' : Value → Shared → Prop) (c : Nat) (t : Tok) (u : Shared) (m : Str → Option Value), ce.scope = gsc → ce.globals = X.env.globals → A'.handled = none → A'.depth ≤ X.A.depth + 1 →
    (∀ b o, X.base.get? b = some o → u.heap.get? b = some o) → u.heap.Ns ce.locals m → m x = some (.str ⟨#[c]⟩ t) → wpAny (model X.prog X.w) A' (eval elt ce) (fun y z => y = .bool (pb c) ∧ Keeps u z) E' u
/-- the generator over the signs of a text, made and ready -/
theorem gen_signs {cd P : Addr} {elt src : Expr} {x : Str} {px gp : Pos} {gsc : Scope} {pb : Nat → Bool} {te : TE} {k : Nat} {Q : Value → Shared → Prop} {R : Str → Hp → Prop}
    (hr : Room k X.A) (tb : GxR.TabB X.base X.mg cd P) (ec : X.env.code = .ref cd) (gs : GxR.GenS X.env gsc x) (hi : PE X src te) (hel : X.Ok → EltQ X gsc x elt pb) (hf : ∀ v, genFold src X.env v = pure v) (I : Inv X pins σ H s)
    (h : te σ H fun v H1 => ∃ a : Str, v = .str a ∧ GxR.TabG H1 P ∧ R a H1) (hQ : ∀ a H1 g s5, R a H1 → GxR.Ready X pins σ H1 P a pb g s5 → Q (.ref g) s5) :
    wpAny (model X.prog X.w) X.A (eval (.GeneratorExp elt [⟨.Name x px, src, [], 0⟩] gsc gp) X.env) Q X.xe s := by
  have dp := hr.dp
  refine wpAny_GeneratorExp_walksQD hr.hd gs.co (closure_ok gs.free) gs.cell gs.dot gs.loc gs.kind (by omega) ?_ hf
  refine thn (hi.run pins s σ H _ I h) fun xv u1 ⟨v, H1, J, rel, a, ev, ⟨ps, hP, tri⟩, hR⟩ => ?_
  subst ev
  obtain ⟨tk0, rfl⟩ := _root_.id rel
  refine wpAny_pyIter_str fun it St walk at0 => ?_
  have tabAt : u1.heap.get? P = some { cls := .none, data := .fields ps } := J.hok P _ hP
  have ltP : P < u1.heap.objs.size := Heap.lt_size tabAt
  have tabAt2 : (u1.heap.push it).get? P = some { cls := .none, data := .fields ps } := Heap.get?_push_of_some _ tabAt
  have cdh : PySem.W.CodeHd (u1.heap.push it) cd P := tb.code.keeps fun b o e => Heap.get?_push_of_some _ (J.bk b o e)
  have noP : ∀ b o, X.base.get? b = some o → b ≠ P := fun b o e z => by
    have q := (J.bs b o e).2
    rw [z, hP] at q
    cases q
  have lm2 : (u1.heap.push it).NoLimit := J.nolimit.push it
  have szp : (u1.heap.push it).objs.size = u1.heap.objs.size + 1 := Heap.size_push ..
  have main : ∀ (code : Value) (h3 : Heap) (tk : Nat) (more : Array Value), Heap.ExtBut P (u1.heap.push it) h3 → u1.heap.objs.size + 1 ≤ h3.objs.size → h3.get? P = some { cls := .none, data := .fields (ps ++ more) } → TriplesOk (ps ++ more).toList →
      wpAny (model X.prog X.w) X.A (builtinsFor X.env.globals X.env.builtins) (fun bi s₄ =>
        ∃ Ia fp wr n₀ Pf St₀ pz F, Value.ref u1.heap.objs.size = .ref Ia ∧ (∀ A' : Around, A'.handled = none → Walks X.prog X.w A' Ia fp wr n₀ Pf St₀) ∧ St₀ 0 s₄.heap ∧ (∀ b ∈ fp, b < s₄.heap.objs.size) ∧ s₄.heap.NoLimit ∧ cStatics ∉ wr ∧
          (∀ hr : Heap, (∀ b o, s₄.heap.get? b = some o → hr.get? b = some o) → QuietGenD X.prog X.w (genEnv gsc (cloFrom X.env.cells gsc.names []) s₄.heap.objs.size code bi X.env) x [] elt (List.range s₄.heap.objs.size) wr Pf pz F hr (X.A.depth + 1) (X.A.units + 8)) ∧
          (∀ a h₅ tk gs, gs.bare = true → s₄.heap.objs.size < a → h₅.objs.size = a + 1 → (∀ b o, s₄.heap.get? b = some o → h₅.get? b = some o) →
            WalksS X.prog X.w X.A.in4 a (a :: s₄.heap.objs.size :: List.range s₄.heap.objs.size) (s₄.heap.objs.size :: wr) (GenOnlyQ s₄.gens.size) (passing pz n₀ 0).length
              (fun j y => ∃ i, (passing pz n₀ 0)[j]? = some i ∧ F i y) (GenAt X.prog X.w X.A.in4 a s₄.gens.size s₄.heap.objs.size (List.range s₄.heap.objs.size) wr pz n₀ F) →
            GenAt X.prog X.w X.A.in4 a s₄.gens.size s₄.heap.objs.size (List.range s₄.heap.objs.size) wr pz n₀ F 0 { s₄ with gens := s₄.gens.push gs, toks := tk, heap := h₅ } →
            Q (.ref a) { s₄ with gens := s₄.gens.push gs, toks := tk, heap := h₅ })) X.xe { u1 with heap := h3, toks := tk } := by
    intro code h3 tk more hx hsz tab3 tri3
    obtain ⟨bm, ob, g1, g2, g3, g4, g5, g6, g7, g8⟩ := tb.bm
    have stP : cStatics ≠ P := fun e => by
      obtain ⟨_, ⟨o', es, ep, ho, hd, _⟩, _⟩ := J.nolimit
      rw [e, tabAt] at ho
      cases ho
      cases hd
    have stLt : cStatics < u1.heap.objs.size := (let ⟨_, z, _⟩ := J.nolimit; z.lt)
    have old : ∀ b o, b ≠ P → u1.heap.get? b = some o → h3.get? b = some o := fun b o n e => hx b o n (Heap.get?_push_of_some _ e)
    refine wpAny_builtinsFor (m := X.mg) (by rw [J.ok.glob]; exact ((J.mod.glob.keeps J.bk).push it).extBut hx tb.gP) g1 g2 (old _ _ g4 (J.bk _ _ g5)) g6 g7 g8 ?_
    refine ⟨u1.heap.objs.size, [u1.heap.objs.size], [u1.heap.objs.size], a.cps.size, SignAt a, St, fun _ => true, fun i y => ∃ cc, a.cps[i]? = some cc ∧ y = .bool (pb cc), rfl, walk, ?_, fun b hb => ?_, lm2.extBut hx stP, fun z => ?_, fun hr' keepR => ?_, fun g h5 tk5 gst bare5 gt5 sz5 keep5 w5 at5 => ?_⟩
    · refine (walk X.A hr.hd).frame _ _ _ at0 fun b hb o e => hx b o (fun z => ?_) e
      rw [List.mem_singleton.mp hb] at z
      exact Nat.ne_of_lt ltP z.symm
    · rw [List.mem_singleton.mp hb]
      exact Nat.lt_of_succ_le hsz
    · exact Nat.ne_of_lt stLt (List.mem_singleton.mp z)
    · refine ⟨fun A' E' i v u m hA _ _ pv hn hm kp => ?_, fun A' E' i v u m hA dA _ pv _ hn hm kp => ?_⟩
      · simp only [List.forIn_nil]
        exact wpAny_pure ⟨rfl, GxR.keeps_refl _⟩
      · obtain ⟨cc, t1, e5, rfl⟩ := pv
        refine wpAny_mono (hel J.ok _ A' E' cc t1 u m rfl rfl hA dA (fun b o e => ?_) hn hm) (fun y z r => ⟨⟨cc, e5, r.1⟩, r.2⟩) fun _ _ e => e
        have e1 := J.bk b o e
        have lb := Heap.lt_size e1
        refine kp b (List.mem_range.mpr (Nat.lt_of_lt_of_le lb (Nat.le_of_succ_le hsz))) (fun z => ?_) o (keepR b o (old b o (noP b o e) e1))
        exact Nat.ne_of_lt lb (List.mem_singleton.mp z)
    · simp only [passing_true, GxR.passing_true, List.length_range] at w5
      refine hQ a H1 g _ hR ⟨_, _, _, _, _, w5.in4_1, at5, fun j y sj Qj Ej hy hq => ?_, fun s' mv => ?_⟩
      · obtain ⟨i, hij, cc, hcc, rfl⟩ := hy
        obtain ⟨hj, ej⟩ := List.getElem?_eq_some_iff.mp hij
        rw [List.getElem_range] at ej
        subst ej
        have e9 : a.cps.toList[j]? = some cc := by rw [Array.getElem?_toList]; exact hcc
        have hq : Qj (GxR.trF pb a.cps.toList j) sj := hq
        rw [GxR.trF_some e9] at hq
        exact wpAny_truthy_bool hq
      · have apart : ∀ b o, u1.heap.get? b = some o → b ∉ h3.objs.size :: [u1.heap.objs.size] := fun b o e hb => by
          have lb : (b : Nat) < u1.heap.objs.size := Heap.lt_size e
          have l3 : (u1.heap.objs.size : Nat) + 1 ≤ h3.objs.size := hsz
          rcases List.mem_cons.mp hb with z | z
          · exact Nat.ne_of_lt (Nat.lt_trans lb (Nat.lt_of_succ_le l3)) z
          · exact Nat.ne_of_lt lb (List.mem_singleton.mp z)
        have J2 := GxR.inv_tab (more := more) (h' := s'.heap) (g' := s'.gens) (d' := s'.drawn) (t' := s'.toks) J hP (fun b o n e => mv.heap b o (apart b o e) (keep5 b o (old b o n e))) (mv.heap P _ (apart P _ tabAt) (keep5 P _ tab3)) (AllBare.movedS (J.bare.push bare5) mv)
        rw [GxR.sh_eta u1 s' mv.os] at J2
        exact ⟨upd H1 P (.tbl (ps ++ more)), ⟨⟨ps ++ more, upd_same, tri3⟩, fun b n => upd_ne n⟩, J2⟩
  refine ⟨lm2, ?_⟩
  cases hc : codeAmong gp ps.toList with
  | some cv => exact wpAny_genexprCode_hit ec (cdh.code tabAt2 tri) hc (main cv (u1.heap.push it) u1.toks #[] (Heap.ExtBut.refl _ _) (Nat.le_of_eq szp.symm) (by rw [Array.append_empty]; exact tabAt2) (by rw [Array.append_empty]; exact tri))
  | none =>
    refine wpAny_genexprCodeX ec (cdh.code tabAt2 tri) (cdh.tab tabAt2) hc fun c' h' tk hx hge hlt hco _ htab _ => ?_
    obtain ⟨o1, vs, f1, tf, fl, tg, inF, tx, tt, op, _, _, _, _, _, _, _, _, _, tr, _⟩ := hco
    exact main _ h' tk _ hx (by rw [← szp]; exact Nat.le_trans hge (Nat.le_of_lt hlt)) htab.2 tr
/-- all(test for x in text) -/
theorem pe_allQ {cd P : Addr} {elt src : Expr} {x : Str} {px p pos gp : Pos} {gsc : Scope} {pb : Nat → Bool} {te : TE} {k : Nat}
    (hr : Room k X.A) (hg : Gl X "all") (hm : X.mg "all" = none) (tb : GxR.TabB X.base X.mg cd P) (ec : X.env.code = .ref cd) (gs : GxR.GenS X.env gsc x) (hi : PE X src te) (hel : X.Ok → EltQ X gsc x elt pb) (hf : ∀ v, genFold src X.env v = pure v) :
    PE X (.Call (.Name "all" p) [.GeneratorExp elt [⟨.Name x px, src, [], 0⟩] gsc gp] [] pos) (GxR.tAllS P pb te) := by
  have he : starEach [.GeneratorExp elt [⟨.Name x px, src, [], 0⟩] gsc gp] X.env = (false, eval (.GeneratorExp elt [⟨.Name x px, src, [], 0⟩] gsc gp) X.env) :: starEach [] X.env := rfl
  refine ⟨fun pins s σ H Q I h => wpAny_Call_Name_kw (ld_blt I hg hm (show bootBuiltins "all" = some (.builtin "all") by decide +kernel) (PyProof.Rows.callWith_builtin1 ?_ he (by rfl)))⟩
  rw [he]
  show wpAny _ _ (spliced ((false, eval (.GeneratorExp elt [⟨.Name x px, src, [], 0⟩] gsc gp) X.env) :: backTo pos (starEach [] X.env))) _ _ s
  refine Calls.spliced_cons (gen_signs (R := fun a H1 => ∀ H2, GxR.Tabbed P H1 H2 → Q (.bl (a.cps.toList.all pb)) H2) hr tb ec gs hi hel hf I h fun a H1 g s5 q ⟨fp, wr, G, F, Sx, walk, at0, tr, out⟩ => Calls.spliced_nil (call_all_walkS (walk.self 0 _ _ _ at0 ⟨g, fp, wr, G, _, F, Sx, _, rfl, walk, at0, tr, fun s' mv => ?_⟩)))
  obtain ⟨H2, hT, J⟩ := out s' mv
  refine ⟨.bl _, H2, J, rfl, ?_⟩
  rw [GxR.all_signs a pb]
  exact q H2 hT
end

/-! ### text.split(text) -/
def splitV (x : Va) (l : List Va) (st : Sto) : R Va := match l with
  | [y] => match strOf x, strOf y with
    | some a, some b => if b ≠ [] ∧ b.all (· < 256) = true ∧ a.length + 2 ≤ sizeLine then .ok (.lst ((TL.spl b 0 [] a).map .str)) st else .stuck
    | _, _ => .stuck
  | _ => .stuck
section
variable {X : Cx} {ct : Ct} {W : WX}
theorem rvs_strs {K : PySem.W.Frag} {F : Hp} {μ : List Addr} : ∀ l : List Tx, RVs K F μ (l.map .str) ((l.map mkS).map V.str)
  | [] => .nil
  | x :: l => .cons (.str x) (rvs_strs l)
theorem mt_splitV : MtR X "str.split" (mOf X.K ct W splitV) := by
  intro pins s σ H x vs v us Q I rx rv h
  obtain ⟨F, μ, st, w, ws, σ', r, r1, r2, p⟩ := h
  unfold splitV at p
  split at p
  · rename_i y
    obtain ⟨yv, rfl, ry⟩ := r2.one
    split at p
    · rename_i a b ea eb
      obtain rfl := strOf_ok r1 ea
      obtain rfl := strOf_ok ry eb
      split at p
      · rename_i hc
        obtain ⟨h1, h2, h3⟩ := hc
        refine mt_split pins s σ H _ _ v us Q I rx rv ⟨mkS a, mkS b, rfl, rfl, ?_, by rw [mkS_len]; exact h3, fun q hq => ?_⟩
        · rw [mkS_len]
          cases b with
          | nil => exact absurd rfl h1
          | cons c l => rfl
        · have e : Txt.split (mkS a) (mkS b) = (TL.spl b 0 [] a).map mkS := SX.split_S h1 h2
          rw [e]
          exact p (upd F q _) μ _ _ (Ext.frz r hq _) (Rel.frz r hq _) (.lst upd_same (rvs_strs _))
      · exact p.elim
    · exact p.elim
  · exact p.elim
end
/-- all(test(sign) for sign in text) by value -/
def mAllS (gs : Tx) (ma : Mx Va) : Mx Va := fun env st => (ma env st).bind fun v st => match v with
  | .str a => .ok (.bl (a.all (sgV gs))) st
  | _ => .stuck
section
variable {X : Cx} {ct : Ct} {W : WX}
theorem tAllS_of {P : Addr} {gs : Tx} {ma : Mx Va} {σ : L2.St} {H : Hp} {Q : VK} (hP : P ∈ ct.tps) (h : TOf X.K ct W (RV X.K) (mAllS gs ma) σ H Q) : GxR.tAllS P (sgV gs) (TE' X ct W ma) σ H Q := by
  obtain ⟨F, μ, env, st, r, re, p⟩ := h
  refine ⟨F, μ, env, st, r, re, p.bind fun w st1 F1 μ1 H1 v _ x1 r1 rv p1 => ?_⟩
  split at p1
  · rename_i a _
    cases rv
    refine ⟨mkS a, rfl, (r1.tabs P hP).1, fun H2 ⟨t2, o2⟩ => ?_⟩
    rw [tl_mkS]
    have nF : F1 P = none := (r1.tabs P hP).2
    have ne : ∀ b u, H1 b = some u → (∀ ps, u ≠ .tbl ps) → b ≠ P := fun b u e nt z => by
      obtain ⟨ps, e2, _⟩ := (r1.tabs P hP).1
      rw [z, e2] at e
      exact nt ps (Option.some.inj e).symm
    refine p1 F1 μ1 H2 _ ⟨fun _ _ e => e, List.prefix_rfl, fun b u e _ nt => by rw [o2 b (ne b u e nt)]; exact e, fun P' t' => ?_, fun b e => .inl e, fun b m => .inl m, fun b e => ?_⟩ ⟨fun b u e => ?_, r1.len, fun p o b e1 e2 => ?_, r1.dis, r1.inj, fun b m => ?_, fun P' m => ⟨?_, (r1.tabs P' m).2⟩⟩ (.bl _)
    · by_cases z : P' = P
      · rw [z]; exact t2
      · obtain ⟨ps, e2, e3⟩ := t'
        exact ⟨ps, by rw [o2 P' z]; exact e2, e3⟩
    · by_cases z : b = P
      · obtain ⟨ps, e2, _⟩ := t2
        rw [z, e2]; exact fun z => nomatch z
      · rw [o2 b z]; exact e
    · rw [o2 b fun z => by rw [z, nF] at e; cases e]
      exact r1.sub b u e
    · have q := r1.obj p o b e1 e2
      obtain ⟨u, hu, mu⟩ := q.there
      exact q.mono (fun _ _ e => e) List.prefix_rfl (o2 b (ne b u hu (nt_hmut mu)))
    · by_cases z : b = P
      · obtain ⟨ps, e2, _⟩ := t2
        rw [z, e2]; exact fun z => nomatch z
      · rw [o2 b z]; exact r1.mtr b m
    · by_cases z : P' = P
      · rw [z]; exact t2
      · obtain ⟨ps, e2, e3⟩ := (r1.tabs P' m).1
        exact ⟨ps, by rw [o2 P' z]; exact e2, e3⟩
  · exact p1.elim
end
end G

set_option Elab.async false
set_option linter.all false
set_option maxRecDepth 100000
set_option maxHeartbeats 8000000
namespace G
open PySem PySem.Spec PyProof.Rows L2

def putKy (ks : List Ky) (ws : List Va) (k : Ky) (v : Va) : List Ky × List Va := if ks.any (fun j => decide (j = k)) then (ks, List.zipWith (fun j w => if j = k then v else w) ks ws) else (ks ++ [k], ws ++ [v])
theorem putKy_ok {K : PySem.W.Frag} {F : Hp} {μ : List Addr} {k : Ky} {w : Va} {v : V} (rv : RV K F μ w v) {ks : List Ky} {ws : List Va} {kvs : List (Key × V)} (h1 : kvs.map (·.1) = ks.map kyK) (h2 : RVs K F μ ws (kvs.map (·.2))) :
    (putK kvs (kyK k) v).map (·.1) = (putKy ks ws k w).1.map kyK ∧ RVs K F μ (putKy ks ws k w).2 ((putK kvs (kyK k) v).map (·.2)) := by
  have hany : (kvs.any fun kv => decide (kv.1 = kyK k)) = ks.any fun j => decide (j = k) := by
    have e1 : (kvs.any fun kv => decide (kv.1 = kyK k)) = (kvs.map (·.1)).any fun j => decide (j = kyK k) := by rw [List.any_map]; rfl
    rw [e1, h1, List.any_map]
    congr 1
    funext j
    show decide (kyK j = kyK k) = decide (j = k)
    exact decide_eq_decide.mpr ⟨kyK_inj, fun e => by rw [e]⟩
  unfold putK putKy
  rw [hany]
  by_cases hk : (ks.any fun j => decide (j = k)) = true
  · rw [if_pos hk, if_pos hk]
    clear hany hk
    induction kvs generalizing ks ws with
    | nil =>
      cases ks with
      | nil => cases h2; exact ⟨rfl, .nil⟩
      | cons j ks => simp at h1
    | cons p kvs ih =>
      cases ks with
      | nil => simp at h1
      | cons j ks =>
        simp only [List.map_cons, List.cons.injEq] at h1
        cases h2 with
        | @cons w1 ws1 _ _ r1 t =>
          obtain ⟨i1, i2⟩ := ih h1.2 t
          simp only [List.map_cons, List.zipWith_cons_cons]
          by_cases e : j = k
          · have e' : p.1 = kyK k := by rw [h1.1, e]
            rw [if_pos e', if_pos e]
            exact ⟨by rw [h1.1]; simp only [List.cons.injEq, true_and]; exact i1, .cons rv i2⟩
          · have e' : ¬ p.1 = kyK k := fun z => e (kyK_inj (h1.1.symm.trans z))
            rw [if_neg e', if_neg e]
            exact ⟨by rw [h1.1]; simp only [List.cons.injEq, true_and]; exact i1, .cons r1 i2⟩
  · rw [if_neg hk, if_neg hk]
    simp only [List.map_append, List.map_cons, List.map_nil]
    exact ⟨by rw [h1], h2.append (.cons rv .nil)⟩

/-! ### d.setdefault(k, x) -/
def setdV (x : Va) (l : List Va) (st : Sto) : R Va := match x, l with
  | .ref p, [k, d] => match st[p]? with
    | some (some (.dic ks ws)) => match kyOf k with
      | some ky => if ks.length < sizeLine then (match atKy ks ws ky with
        | some w => .ok w st
        | none => .ok d (st.set p (some (.dic (putKy ks ws ky d).1 (putKy ks ws ky d).2)))) else .stuck
      | none => .stuck
    | _ => .stuck
  | _, _ => .stuck
section
variable {X : Cx} {ct : Ct} {W : WX}
theorem mt_setdV : MtR X "dict.setdefault" (mOf X.K ct W setdV) := by
  intro pins s σ H x vs v us Q I rx rv h
  obtain ⟨F, μ, st, w, ws, σ', r, r1, r2, p⟩ := h
  unfold setdV at p
  split at p
  · rename_i pp k d
    cases r1 with
    | @ref _ a hp =>
    obtain ⟨kv, dv, rfl, rk, rd⟩ := r2.two
    obtain rfl : v = Value.ref a := rx
    cases rv with
    | cons ru rr =>
    cases rr with
    | cons ru2 rr =>
    cases rr
    split at p
    · rename_i ks l e0
      split at p
      · rename_i ky ek
        obtain rfl := kyOf_ok rk ek
        split at p
        · rename_i hl
          cases r.obj _ _ _ e0 hp with
          | @dic _ _ kvs g1 g2 g3 =>
            have hkl : kvs.length = ks.length := by
              have := congrArg List.length g2
              simpa using this
            obtain ⟨h1, h2⟩ := atKy_ok ky g2 g3
            cases ea : atKy ks l ky with
            | some w0 =>
              rw [ea] at p
              obtain ⟨v0, hv0, rv0⟩ := h1 w0 ea
              exact d_setd I g1 ru ru2 (by omega) (fun u hu w' s' J rw' => by
                rw [hv0] at hu
                cases hu
                exact ⟨_, H, J, rw', p.here r rv0⟩) fun hn => by rw [hv0] at hn; cases hn
            | none =>
              rw [ea] at p
              have hvn := h2 ea
              refine d_setd I g1 ru ru2 (by omega) (fun u hu => by rw [hvn] at hu; cases hu) fun _ w' s' J rw' => ⟨_, _, J, rw', ?_⟩
              obtain ⟨q1, q2⟩ := putKy_ok (k := ky) rd g2 g3
              exact p _ _ _ _ (.write r e0 hp _) (r.write e0 hp (.dic upd_same q1 q2)) rd
        · exact p.elim
      · exact p.elim
    · exact p.elim
  · exact p.elim
/-! ### l.index(x), l of texts -/
def idxT (b : Tx) : List Tx → Option Nat
  | [] => none
  | z :: r => if z = b then some 0 else (idxT b r).map (· + 1)
theorem idxT_ok {b : Tx} : ∀ {l : List Tx} {j : Nat}, idxT b l = some j → l[j]? = some b ∧ ∀ m z, m < j → l[m]? = some z → z ≠ b
  | [], _, h => by cases h
  | z :: r, j, h => by
    rw [idxT] at h
    split at h
    · rename_i e
      cases h
      exact ⟨by rw [e]; rfl, fun m z hm => absurd hm (Nat.not_lt_zero m)⟩
    · rename_i e
      cases q : idxT b r with
      | none => rw [q] at h; cases h
      | some i =>
        rw [q] at h
        cases h
        obtain ⟨h1, h2⟩ := idxT_ok q
        refine ⟨h1, fun m z' hm hz => ?_⟩
        cases m with
        | zero => cases hz; exact e
        | succ m => exact h2 m z' (Nat.lt_of_succ_lt_succ hm) hz
def indexV (x : Va) (l : List Va) (st : Sto) : R Va := match lstOf x st, l with
  | some zs, [y] => match strsOf zs, strOf y with
    | some ts, some b => match idxT b ts with
      | some j => .ok (.int (j : Nat)) st
      | none => .stuck
    | _, _ => .stuck
  | _, _ => .stuck
theorem mt_indexV : MtR X "list.index" (mOf X.K ct W indexV) := by
  intro pins s σ H x vs v us Q I rx rv h
  obtain ⟨F, μ, st, w, ws, σ', r, r1, r2, p⟩ := h
  unfold indexV at p
  split at p
  · rename_i zs y el
    obtain ⟨a, vs', rfl, ha, rs⟩ := lstOf_ok r r1 el
    obtain ⟨yv, rfl, ry⟩ := r2.one
    split at p
    · rename_i ts b e1 e2
      obtain rfl := strOf_ok ry e2
      have e3 := strsOf_ok rs e1
      split at p
      · rename_i j ej
        obtain ⟨h1, h2⟩ := idxT_ok ej
        refine mt_index pins s σ H _ _ v us Q I rx rv ⟨a, vs', .str (mkS b), j, .str (mkS b), rfl, rfl, .inl (.inl ha), rfl, ?_, ?_, ?_, fun m z' hm hz => ?_, p.here r (.int _)⟩
        · rw [e3, List.all_eq_true]
          intro z hz
          obtain ⟨t, _, rfl⟩ := List.mem_map.mp hz
          rfl
        · rw [e3, List.getElem?_map, List.getElem?_map, h1]
          rfl
        · show decide (mkS b = mkS b) = true
          exact decide_eq_true rfl
        · rw [e3, List.getElem?_map, List.getElem?_map] at hz
          cases q : ts[m]? with
          | none => rw [q] at hz; cases hz
          | some t =>
            rw [q] at hz
            cases hz
            show decide (mkS t = mkS b) = false
            exact decide_eq_false fun z => h2 m t hm q (mkS_inj z)
      · exact p.elim
    · exact p.elim
  · exact p.elim
/-! ### reversed(l), l by value -/
def mRev (me : Mx Va) : Mx (List Va × Gd) := fun env st => (me env st).bind fun x st => match x with
  | .lst l => .ok (l.reverse, none) st
  | _ => .stuck
theorem iter_rev {K : PySem.W.Frag} {F : Hp} {μ : List Addr} {a : Addr} {ws : List Va} {vs : List V} (rs : RVs K F μ ws vs) (hf : F a = some (.lst vs)) : IterOk K ct F μ (Itv K a vs.length) (ws.reverse, none) := by
  intro F' μ' st' H' e hp r hg i
  have h : SqL K H' a vs := .inl (.inl (r.sub _ _ (e _ _ hf)))
  have hl := rs.length
  refine ⟨fun hi => ?_, fun w hw => ?_⟩
  · show vs.length ≤ i
    rw [hi, List.length_reverse, hl]
    exact Nat.le_refl _
  · have hi := (List.getElem?_eq_some_iff.mp hw).1
    rw [List.length_reverse] at hi
    rw [List.getElem?_reverse (by omega)] at hw
    obtain ⟨v, hv, rv⟩ := rs.get hw
    rw [hl] at hv
    refine ⟨⟨by omega, vs, v, h, hv⟩, fun x H'' y => ?_⟩
    obtain ⟨rfl, y⟩ := y
    have ex := y vs h
    rw [hv] at ex
    cases ex
    exact ⟨F', .refl, r, rv.mono e hp⟩
theorem sim_rev {tg e : Expr} {me : Mx Va} {p pos : Pos} (hg : Gl X "reversed") (hm : X.mg "reversed" = none) (he : PE X e (TE' X ct W me)) (hs : starEach [e] X.env = (false, eval e X.env) :: starEach [] X.env) : PI X tg (.Call (.Name "reversed" p) [e] [] pos) (TI' X ct W (mRev me)) := by
  refine PI.mono (RT.pi_revA hg hm he hs) fun σ H Q ⟨F, μ, env, st, r, re, p⟩ => ⟨F, μ, env, st, r, re, p.bind fun w st1 F1 μ1 H1 v _ x1 r1 rv p1 => ?_⟩
  split at p1
  · rename_i l _
    cases rv with
    | @lst a _ vs hf rs =>
      exact ⟨a, vs, rfl, .inl ⟨.inl (.inl (r1.sub _ _ hf)), p1 F1 μ1 H1 _ .refl r1 (iter_rev rs hf)⟩⟩
  · exact p1.elim
end
end G

set_option Elab.async false
set_option linter.all false
set_option maxRecDepth 100000
set_option maxHeartbeats 4000000
namespace G
open PySem PySem.Spec PyProof.Rows L2

/-! ### the syntax -/
inductive BOp | add | sub | mul | fdiv | mod | pow
inductive COp | eq | ne | lt | le | gt | ge | in_ | notIn | is_ | isNot
inductive Bif | len | list | tuple | str | int
inductive Mth | append | extend | pop | insert | join | find | lstrip | isalnum | isdigit | get | split | setdefault | index
inductive T where
  | nil | cons (a b : T)
  | var (i : Nat) | glob (x : Str) | int (i : Int) | str (s : Tx) | bl (b : Bool) | non
  | bin (op : BOp) (m : Bool) (a b : T) | neg (a : T) | not (a : T)
  | cmp (op : COp) (a b : T) | cmp2 (op op' : COp) (a b c : T)
  | and (l : T) | or (l : T) | ife (c a b : T)
  | tup (l : T) | lst (m : Bool) (l : T)
  | ix (a i : T) | sl (m : Bool) (a lo hi : T)
  | call (f : Str) (m : Bool) (l : T) | bif (b : Bif) (m : Bool) (l : T) | isi (c : String) (a : T) | mth (k : Mth) (o l : T)
  | lc (m : Bool) (vs : List Nat) (tg : Tg) (it c e : T)
  | lc2 (m : Bool) (vs vs1 : List Nat) (tg : Tg) (it c : T) (tg1 : Tg) (it1 c1 e : T)
  | lrng (m : Bool) (a b : T)
  | irng (l : T) | ienum (l : T) | irev (a : T)
  | cbf (b : Cb) (m : Bool) (l : T) | dnew (m : Bool)
  | callK (f : Str) (m : Bool) (l : T) (k : Str) (e : T)
  | xf (i : Nat) (f : Str) | xi (i : Nat) (c : Str) | mm (mx : Bool) (l : T)
  | allS (f : Str) (gs : Tx) (a : T)

def bopV (op : BOp) (m : Bool) : Va → Va → Sto → R Va := match op with
  | .add => addV m | .sub => subV | .mul => mulV m | .fdiv => fdivV | .mod => modV | .pow => powV
def bopS : BOp → Operator
  | .add => .Add | .sub => .Sub | .mul => .Mult | .fdiv => .FloorDiv | .mod => .Mod | .pow => .Pow
def copV (op : COp) : Va → Va → Sto → R Va := match op with
  | .eq => eqV false | .ne => eqV true | .lt => cmpV fun i j => decide (i < j) | .le => cmpV fun i j => decide (i ≤ j) | .gt => cmpV fun i j => decide (j < i) | .ge => cmpV fun i j => decide (j ≤ i)
  | .in_ => inV' false | .notIn => inV' true | .is_ => isNV false | .isNot => isNV true
def copS : COp → CmpOp
  | .eq => .Eq | .ne => .NotEq | .lt => .Lt | .le => .LtE | .gt => .Gt | .ge => .GtE | .in_ => .In | .notIn => .NotIn | .is_ => .Is | .isNot => .IsNot
def bifV (b : Bif) (m : Bool) : List Va → Sto → R Va := match b with
  | .len => lenV | .list => listV m | .tuple => tupleV | .str => strV | .int => toIntV
def bifN : Bif → Str
  | .len => "len" | .list => "list" | .tuple => "tuple" | .str => "str" | .int => "int"
def mthV (k : Mth) : Va → List Va → Sto → R Va := match k with
  | .append => appendV | .extend => extendV | .pop => popV | .insert => insertV | .join => joinV | .find => findV | .lstrip => lstripV | .isalnum => isalnumV | .isdigit => isdigitV | .get => getV | .split => splitV | .setdefault => setdV | .index => indexV
def mthN : Mth → Str
  | .append => "append" | .extend => "extend" | .pop => "pop" | .insert => "insert" | .join => "join" | .find => "find" | .lstrip => "lstrip" | .isalnum => "isalnum" | .isdigit => "isdigit" | .get => "get" | .split => "split" | .setdefault => "setdefault" | .index => "index"
def mthT : Mth → String
  | .append => "list" | .extend => "list" | .pop => "list" | .insert => "list" | .index => "list" | .get => "dict" | .setdefault => "dict" | _ => "str"

/-! ### what it means -/
structure Den where
  e : Mx Va
  t : Mx Bool
  l : Mx (List Va)
  z : Bool
  an : Mx Va
  or : Mx Va
  ta : Mx Bool
  to : Mx Bool
  p : Mx (Option Int)
  i : Mx (List Va × Gd)
def mk (e : Mx Va) (t : Mx Bool) : Den := ⟨e, t, fun _ _ => .stuck, false, fun _ _ => .stuck, fun _ _ => .stuck, fun _ _ => .stuck, fun _ _ => .stuck, mPart e, mIt e⟩
def mkI (i : Mx (List Va × Gd)) : Den := ⟨fun _ _ => .stuck, fun _ _ => .stuck, fun _ _ => .stuck, false, fun _ _ => .stuck, fun _ _ => .stuck, fun _ _ => .stuck, fun _ _ => .stuck, fun _ _ => .stuck, i⟩
def mke (e : Mx Va) : Den := mk e (mTru e)
/-- is it of the type that the method is of -/
def tyB (T : String) (x : Va) (st : Sto) : Bool := if T = "list" then (lstOf x st).isSome else if T = "str" then (strOf x).isSome else if T = "dict" then (dicOf x st).isSome else false
def mMth (T : String) (g : Va → List Va → Sto → R Va) (mo : Mx Va) (ml : Mx (List Va)) : Mx Va := fun env st => (mo env st).bind fun x st => if tyB T x st then (ml env st).bind fun l st => g x l st else .stuck
def mTyes : Mx Bool := fun _ st => .ok true st
/-- the text that an own __init__ hands on: constants and parameters; what it keeps: a field's name, a parameter -/
inductive Pc where
  | c (s : Str) | p (i : Nat)
deriving DecidableEq
structure Ow where
  z : Tx
  n : Nat
  tx : List Pc
  fs : List (Str × Nat)
/-- what is known of the exception classes: is an exception of class z one of the class that is named c here; the class that 'raise c(text)' makes; has class z no attribute f of its own -/
structure Xs where
  sub : Tx → Str → Option Bool
  pl : Str → Option Tx
  fld : Tx → Str → Bool
  ow : Str → Option Ow := fun _ => none
/-- module constants; defs; exception classes; the exception that is handled -/
structure Lm where
  gl : Str → Option Va
  fn : Str → Fn
  xs : Xs
  xh : Option Exc
def xfV (L : Lm) (f : Str) : Mx Va := match L.xh with
  | some x => if L.xs.fld x.cls f then match x.fs.lookup f.cps.toList with
      | some w => mC w
      | none => fun _ _ => .stuck
    else fun _ _ => .stuck
  | none => fun _ _ => .stuck
def xiV (L : Lm) (c : Str) : Mx Va := match L.xh with
  | some x => match L.xs.sub x.cls c with
    | some b => mC (.bl b)
    | none => fun _ _ => .stuck
  | none => fun _ _ => .stuck
/-- min, max of two or three whole numbers -/
def mmV (mx : Bool) (l : List Va) (st : Sto) : R Va := match l with
  | [.int i, .int j] => .ok (.int (if mx then (if j > i then j else i) else (if j < i then j else i))) st
  | [.int i, .int j, .int k] => .ok (.int (if mx then (if k > (if j > i then j else i) then k else (if j > i then j else i)) else (if k < (if j < i then j else i) then k else (if j < i then j else i)))) st
  | _ => .stuck
def ev (L : Lm) : T → Den
  | .nil => ⟨fun _ _ => .stuck, mTyes, mNil, true, fun _ _ => .stuck, fun _ _ => .stuck, fun _ _ => .stuck, fun _ _ => .stuck, mNo, fun _ _ => .stuck⟩
  | .cons a b => ⟨fun _ _ => .stuck, fun _ _ => .stuck, mCons (ev L a).e (ev L b).l, false, if (ev L b).z then (ev L a).e else mAnd (ev L a).e (ev L b).an, if (ev L b).z then (ev L a).e else mOr (ev L a).e (ev L b).or,
      if (ev L b).z then (ev L a).t else mTAnd (ev L a).t (ev L b).ta, if (ev L b).z then (ev L a).t else mTOr (ev L a).t (ev L b).to, fun _ _ => .stuck, fun _ _ => .stuck⟩
  | .var i => mke (mVar i)
  | .glob x => mke (match L.gl x with | some w => mC w | none => fun _ _ => .stuck)
  | .int i => mke (mC (.int i))
  | .str s => mke (mC (.str s))
  | .bl b => mke (mC (.bl b))
  | .non => mke (mC .non)
  | .bin op m a b => mke (mBin (bopV op m) (ev L a).e (ev L b).e)
  | .neg a => mke (mNeg (ev L a).e)
  | .not a => mk (mNot (ev L a).e) (mTNot (ev L a).t)
  | .cmp op a b => mk (mBin (copV op) (ev L a).e (ev L b).e) (mTst (mBin (copV op) (ev L a).e (ev L b).e))
  | .cmp2 op op' a b c => mk (mChain (copV op) (copV op') (ev L a).e (ev L b).e (ev L c).e) (mTst (mChain (copV op) (copV op') (ev L a).e (ev L b).e (ev L c).e))
  | .and l => mk (ev L l).an (ev L l).ta
  | .or l => mk (ev L l).or (ev L l).to
  | .ife c a b => mk (mIf (ev L c).t (ev L a).e (ev L b).e) fun _ _ => .stuck
  | .tup l => mke (mTup (ev L l).l)
  | .lst m l => mke (mLst m (ev L l).l)
  | .ix a i => mke (mBin ixV (ev L a).e (ev L i).e)
  | .sl m a lo hi => mke (mSlice m (ev L a).e (ev L lo).p (ev L hi).p)
  | .call f m l => mke (mFn (callP m (L.fn f)) (ev L l).l)
  | .callK f m l _ e => mke (mFn (callP m (L.fn f)) (mSnoc (ev L l).l (ev L e).e))
  | .cbf b m l => mke (mFn (cbV b m) (ev L l).l)
  | .dnew m => mke (mDnew m)
  | .bif b m l => mke (mFn (bifV b m) (ev L l).l)
  | .isi c a => mke (mIsi c (ev L a).e)
  | .mth k o l => mke (mMth (mthT k) (mthV k) (ev L o).e (ev L l).l)
  | .lc m vs tg it c e => mke (mLc m vs tg (ev L it).i (ev L c).t (ev L e).e)
  | .lc2 m vs vs1 tg it c tg1 it1 c1 e => mke (mLc2 m vs vs1 tg (ev L it).i (ev L c).t tg1 (ev L it1).i (ev L c1).t (ev L e).e)
  | .lrng m a b => mke (mLrg m (ev L a).e (ev L b).e)
  | .irng l => mkI (mRng (ev L l).l)
  | .ienum l => mkI (mEnum (ev L l).l)
  | .irev a => mkI (mRev (ev L a).e)
  | .xf _ f => mke (xfV L f)
  | .xi _ c => mke (xiV L c)
  | .mm mx l => mke (mFn (mmV mx) (ev L l).l)
  | .allS _ gs a => mke (mAllS gs (ev L a).e)

/-! ### does it stand for this text -/
structure Sc where
  N : List Str
  sc : Scope
  gls : List Str
  fns : List (Str × List Str)
  bs : List Str
  fn : Str → Bool
  xn : List Str
  hot : Option (Option Nat)
  top : Bool
  gen : Bool
  sgn : List (Str × Tx)
def isLoc (c : Sc) (x : Str) : Bool := match c.sc.names.lookup x with
  | some .local => true | some .cell => true | some .free => true | _ => false
def isGl (c : Sc) (x : Str) : Bool := decide (c.sc.names.lookup x = some .globalImplicit)
def isB (c : Sc) (x : Str) : Bool := isGl c x && decide (x ∈ c.bs) && !(x == ("__debug__" : Str)) && !(x == ("__name__" : Str))
def okName (x : Str) : Bool := !(x == ("__debug__" : Str)) && !(x == ("__classdict__" : Str))
/-- a plain expression -/
def plainE : Expr → Bool
  | .Starred .. => false | .Slice .. => false | .Set .. => false | _ => true
/-- an expression that method calls may stand on -/
def baseE : Expr → Bool
  | .Call (.Name _ _) [] [] _ => false | _ => true
def plainOp : Expr → Bool
  | .UnaryOp .Not .. => false | .BoolOp .. => false | .IfExp .. => false | .Compare .. => false | _ => true
structure Chk where
  e : Sc → Expr → Bool
  t : Sc → Expr → Bool
  l : Sc → List Expr → Bool
  lt : Sc → List Expr → Bool
  p : Sc → Option Expr → Bool
  c : Sc → List Expr → Bool
  i : Sc → Expr → Expr → Bool
def ckE (f : Sc → Expr → Bool) : Chk := ⟨fun c e => plainE e && f c e, fun c e => plainE e && plainOp e && f c e, fun _ _ => false, fun _ _ => false, fun c o => match o with | some e => plainE e && f c e | none => false,
  fun c l => match l with | [e] => plainE e && plainOp e && f c e | _ => false, fun c _ e => plainE e && f c e⟩
def ckT (f g : Sc → Expr → Bool) : Chk := ⟨fun c e => plainE e && f c e, fun c e => plainE e && g c e, fun _ _ => false, fun _ _ => false, fun c o => match o with | some e => plainE e && f c e | none => false,
  fun c l => match l with | [e] => plainE e && g c e | _ => false, fun c _ e => plainE e && f c e⟩
/-- a name of one's own that may be written -/
def ownN (c : Sc) (x : Str) : Bool := match c.sc.names.lookup x with
  | some .local => true | some .cell => c.fn x | _ => false
/-- may slot j be written -/
def mayW (c : Sc) (j : Nat) : Bool := match c.hot with
  | some (some i) => !(j == i)
  | _ => true
/-- outside of except suites -/
def cold (c : Sc) : Bool := c.hot.isNone
def tgOk (c : Sc) (tg : Tg) (e : Expr) : Bool := match tg, e with
  | .inl i, .Name x _ => decide (c.N[i]? = some x) && ownN c x && mayW c i
  | .inr is, .Tuple es _ _ => cold c && decide (es.length = is.length) && (is.zip es).all fun p => match p.2 with
      | .Name x _ => decide (c.N[p.1]? = some x) && ownN c x
      | _ => false
  | _, _ => false
def blkSc (c : Sc) (scope : Scope) : Sc := { c with gen := false, top := false, sc := relS scope c.sc, fn := fun x => scope.names.lookup x == some .cell }
/-- the own scope of all(f(x) for x in ..) -/
def genB (x f : Str) (s : Scope) : Bool := decide (s.kind = .function) && (!s.isCoroutine && (s.names.all (fun y => decide (y.2 ≠ .cell) && decide (y.2 ≠ .free)) && (decide (s.names.lookup (".0" : Str) = some NameKind.local) && (decide (s.names.lookup x = some .local) && (decide (s.names.lookup f = some .globalImplicit) && (okName x && okName f))))))
def ownOf (c : Sc) (vs : List Nat) : List (Str × Nat) := vs.map fun i => (c.N.getD i "", i)
def chk : T → Chk
  | .nil => ⟨fun _ _ => false, fun _ _ => false, fun _ l => match l with | [] => true | _ => false, fun _ l => match l with | [] => true | _ => false, fun _ o => match o with | none => true | _ => false, fun _ l => match l with | [] => true | _ => false, fun _ _ _ => false⟩
  | .cons a b => ⟨fun _ _ => false, fun _ _ => false, fun c l => match l with | x :: r => (chk a).e c x && (chk b).l c r | [] => false, fun c l => match l with | x :: r => (chk a).t c x && (chk b).lt c r | [] => false, fun _ _ => false, fun _ _ => false, fun _ _ _ => false⟩
  | .var i => ckE fun c e => match e with | .Name x _ => decide (c.N[i]? = some x) && isLoc c x && okName x | _ => false
  | .glob y => ckE fun c e => match e with | .Name x _ => decide (x = y) && isGl c x && decide (x ∈ c.gls) && okName x | _ => false
  | .int i => ckE fun _ e => match e with | .Constant (.int j) _ _ => decide (j = i) | _ => false
  | .str s => ckE fun _ e => match e with | .Constant (.str x) _ _ => decide (x.cps.toList = s) | _ => false
  | .bl b => ckE fun _ e => match e with | .Constant (.bool x) _ _ => x == b | _ => false
  | .non => ckE fun _ e => match e with | .Constant .none _ _ => true | _ => false
  | .bin op _ a b => ckE fun c e => match e with | .BinOp x o y _ => decide (o = bopS op) && (chk a).e c x && (chk b).e c y | _ => false
  | .neg a => ckE fun c e => match e with | .UnaryOp .USub x _ => (chk a).e c x | _ => false
  | .not a => ckT (fun c e => match e with | .UnaryOp .Not x _ => (chk a).e c x | _ => false) (fun c e => match e with | .UnaryOp .Not x _ => (chk a).t c x | _ => false)
  | .cmp op a b => ckT (fun c e => match e with | .Compare x [o] [y] _ => decide (o = copS op) && (chk a).e c x && (chk b).e c y | _ => false) (fun c e => match e with | .Compare x [o] [y] _ => decide (o = copS op) && (chk a).e c x && (chk b).e c y | _ => false)
  | .cmp2 op op' a b d => ckT (fun c e => match e with | .Compare x [o, o'] [y, z] _ => decide (o = copS op) && decide (o' = copS op') && (chk a).e c x && (chk b).e c y && (chk d).e c z | _ => false)
      (fun c e => match e with | .Compare x [o, o'] [y, z] _ => decide (o = copS op) && decide (o' = copS op') && (chk a).e c x && (chk b).e c y && (chk d).e c z | _ => false)
  | .and l => ckT (fun c e => match e with | .BoolOp .And (x :: xs) _ => (chk l).l c (x :: xs) | _ => false) (fun c e => match e with | .BoolOp .And (x :: xs) _ => (chk l).lt c (x :: xs) | _ => false)
  | .or l => ckT (fun c e => match e with | .BoolOp .Or (x :: xs) _ => (chk l).l c (x :: xs) | _ => false) (fun c e => match e with | .BoolOp .Or (x :: xs) _ => (chk l).lt c (x :: xs) | _ => false)
  | .ife t a b => ckT (fun c e => match e with | .IfExp x y z _ => (chk t).t c x && (chk a).e c y && (chk b).e c z | _ => false) (fun _ _ => false)
  | .tup l => ckE fun c e => match e with | .Tuple es _ _ => (chk l).l c es | _ => false
  | .lst _ l => ckE fun c e => match e with | .List es _ => (chk l).l c es | _ => false
  | .ix a i => ckE fun c e => match e with | .Subscript x y _ => (chk a).e c x && (chk i).e c y | _ => false
  | .sl _ a lo hi => ckE fun c e => match e with | .Subscript x (.Slice l h none _) _ => (chk a).e c x && (chk lo).p c l && (chk hi).p c h | _ => false
  | .call f _ l => ckE fun c e => match e with | .Call (.Name x _) (y :: ys) [] _ => cold c && decide (x = f) && isGl c x && decide ((x, []) ∈ c.fns) && okName x && (chk l).l c (y :: ys) | _ => false
  | .callK f _ l k v => ckE fun c e => match e with | .Call (.Name x _) (y :: ys) [⟨some kw, z, _⟩] _ => cold c && decide (x = f) && isGl c x && decide (kw = k) && decide ((x, [kw]) ∈ c.fns) && okName x && (chk l).l c (y :: ys) && (chk v).e c z | _ => false
  | .cbf b _ l => ckE fun c e => match e with | .Call (.Name x _) (y :: ys) [] _ => cold c && decide (x = cbN b) && isB c x && (chk l).l c (y :: ys) | _ => false
  | .dnew _ => ckE fun c e => match e with | .Dict [] [] _ => true | _ => false
  | .bif b _ l => ckE fun c e => match e with | .Call (.Name x _) (y :: ys) [] _ => decide (x = bifN b) && isB c x && (chk l).l c (y :: ys) | _ => false
  | .isi k a => ckE fun c e => match e with
      | .Call (.Name x _) [y, .Name z _] [] _ => decide (x = "isinstance") && isB c x && (chk a).e c y && isB c z && (match bootBuiltins z with | some (.type n) => decide (n = k) | _ => false)
      | _ => false
  | .mth k o l => ckE fun c e => match e with
      | .Call (.Attribute x n apos) [] [] cpos => decide (n = mthN k) && baseE x && (chk o).e c x && (chk l).l c [] && (apos.endLine == cpos.line)
      | .Call (.Attribute x n apos) (y :: ys) [] cpos => decide (n = mthN k) && baseE x && (chk o).e c x && (chk l).l c (y :: ys) && (apos.endLine == cpos.line) && decide ((y :: ys).length < 20)
      | _ => false
  | .lc _ vs tg it cd el => ckE fun c e => match e with
      | .ListComp elt [⟨t, i, ifs, 0⟩] scope _ => cold c && blkC c.N c.sc scope (ownOf c vs) && (tgIx tg).all (fun j => decide (j ∈ vs)) && (chk it).i c t i && plainE i && tgOk (blkSc c scope) tg t && (chk cd).c (blkSc c scope) ifs && (chk el).e (blkSc c scope) elt
      | _ => false
  | .lc2 _ vs vs1 tg it cd tg1 it1 cd1 el => ckE fun c e => match e with
      | .ListComp elt [⟨t, i, ifs, 0⟩, ⟨t1, i1, ifs1, 0⟩] scope _ => cold c && blkC c.N c.sc scope (ownOf c vs) && (tgIx tg).all (fun j => decide (j ∈ vs)) && (chk it).i c t i && plainE i && tgOk (blkSc c scope) tg t && (chk cd).c (blkSc c scope) ifs && (chk el).e (blkSc c scope) elt
        && vs1.all (fun j => decide (j ∈ vs)) && (tgIx tg1).all (fun j => decide (j ∈ vs1)) && (chk it1).i (blkSc c scope) t1 i1 && plainE i1 && tgOk (blkSc c scope) tg1 t1 && (chk cd1).c (blkSc c scope) ifs1
      | _ => false
  | .lrng _ a b => ckE fun c e => match e with
      | .Call (.Name x _) [.Call (.Name y _) [z, w] [] _] [] _ => cold c && decide (x = "list") && isB c x && decide (y = "range") && isB c y && (chk a).e c z && (chk b).e c w
      | _ => false
  | .irng l => ⟨fun _ _ => false, fun _ _ => false, fun _ _ => false, fun _ _ => false, fun _ _ => false, fun _ _ => false, fun c _ e => match e with
      | .Call (.Name x _) [y] [] _ => decide (x = "range") && isB c x && (chk l).l c [y]
      | .Call (.Name x _) [y, z] [] _ => decide (x = "range") && isB c x && (chk l).l c [y, z]
      | .Call (.Name x _) [y, z, w] [] _ => decide (x = "range") && isB c x && (chk l).l c [y, z, w]
      | _ => false⟩
  | .irev a => ⟨fun _ _ => false, fun _ _ => false, fun _ _ => false, fun _ _ => false, fun _ _ => false, fun _ _ => false, fun c _ e => match e with | .Call (.Name x _) [y] [] _ => decide (x = "reversed") && (isB c x && (chk a).e c y) | _ => false⟩
  | .ienum l => ⟨fun _ _ => false, fun _ _ => false, fun _ _ => false, fun _ _ => false, fun _ _ => false, fun _ _ => false, fun c t e => match t, e with
      | .Tuple _ _ _, .Call (.Name x _) [y] [] _ => decide (x = "enumerate") && isB c x && (chk l).l c [y]
      | _, _ => false⟩
  | .xf i f => ckE fun c e => match e with | .Attribute (.Name x _) n _ => decide (n = f) && decide (c.N[i]? = some x) && isLoc c x && okName x && decide (c.hot = some (some i)) | _ => false
  | .xi i k => ckE fun c e => match e with
      | .Call (.Name x _) [.Name y _, .Name z _] [] _ => decide (x = "isinstance") && isB c x && decide (c.N[i]? = some y) && isLoc c y && okName y && decide (c.hot = some (some i)) && decide (z = k) && isGl c z && okName z && !(z == ("__name__" : Str))
      | _ => false
  | .allS f gs a => ckE fun c e => match e with | .Call (.Name z _) [.GeneratorExp (.Call (.Name f1 _) [.Name x1 _] [] _) [⟨.Name x _, .Name y py, [], 0⟩] gsc _] [] _ => cold c && (c.gen && (decide (z = "all") && (isB c "all" && (decide (f1 = f) && (decide (x1 = x) && (decide ((f, gs) ∈ c.sgn) && (genB x f gsc && (chk a).e c (.Name y py)))))))) | _ => false
  | .mm mx l => ckE fun c e => match e with | .Call (.Name x _) (y :: ys) [] _ => cold c && decide (x = if mx then "max" else "min") && isB c x && (chk l).l c (y :: ys) | _ => false
end G

set_option Elab.async false
set_option linter.all false
set_option maxRecDepth 100000
set_option maxHeartbeats 4000000
/-! an own exception's __init__ that says super().__init__(..) -/
namespace G
open PySem PySem.Spec PyProof.Rows L2

abbrev sEnv (qual : Str) (scope : Scope) (L f : Addr) (cd : Value) (cc : Addr) : Env := PySem.W.ksEnv qual scope L f cd cc
/-- the context of such a body -/
def cxS (P : Program) (w : World) (K : PySem.W.Frag) (mg : Str → Option Value) (base : Heap) (N : List Str) (qual : Str) (scope : Scope) (f : Addr) (cd : Value) (cc : Addr) (A : Around) (outer : List Env) (s : Shared) (H : Hp) (E : XK) : Cx where
  prog := P
  w := w
  K := K
  mg := mg
  base := base
  A := A.deeper (sEnv qual scope s.heap.objs.size f cd cc)
  N := N
  s_0 := s
  H_0 := H
  env := sEnv qual scope s.heap.objs.size f cd cc
  outer := outer
  stack := sEnv qual scope s.heap.objs.size f cd cc :: outer
  ex := []
  calm := true
  fn := fun _ => false
  pn := []
  xe := fun e s' => wpAny (model P w) (A.deeper (sEnv qual scope s.heap.objs.size f cd cc)) (leaving (sEnv qual scope s.heap.objs.size f cd cc) e) (fun _ s'' => L2.CX P w outer H s E e s'') (fun e' s'' => L2.CX P w outer H s E e' s'') s'
structure ScS (N ps : List Str) (sc : Scope) : Prop where
  kind : sc.kind = .function
  co : sc.isCoroutine = false
  gen : sc.isGenerator = false
  nd : N.Nodup
  pre : N.take ps.length = ps
  par : ∀ x ∈ ps, sc.names.lookup x = some .local
  fre : ∀ x, sc.names.lookup x = some .free → x = "__class__"
  nce : ∀ x, sc.names.lookup x ≠ some .cell
  ncl : ∀ x ∈ sc.names, x.2 ≠ .cell
  sup : sc.names.lookup ("super" : Str) = some .globalImplicit
  cls : sc.names.lookup ("__class__" : Str) = some .free
theorem lookup_in {α : Type} {x : Str} {u : α} : ∀ {l : List (Str × α)}, (l.map (·.1)).Nodup → (x, u) ∈ l → l.lookup x = some u
  | [], _, h => by cases h
  | (y, v) :: l, nd, h => by
    rw [List.map_cons, List.nodup_cons] at nd
    rcases List.mem_cons.mp h with h | h
    · cases h
      simp [List.lookup_cons]
    · have : x ≠ y := fun e => nd.1 (e ▸ List.mem_map_of_mem (f := (·.1)) h)
      have e2 : (x == y) = false := by simpa using this
      rw [List.lookup_cons, e2]
      exact lookup_in nd.2 h
theorem zip_fst : ∀ {ps : List Str} {us : List Value}, ps.length = us.length → (ps.zip us).map (·.1) = ps
  | [], [], _ => rfl
  | p :: ps, u :: us, h => by
    simp only [List.zip_cons_cons, List.map_cons]
    rw [zip_fst (by simpa using h)]
  | [], _ :: _, h => by simp at h
  | _ :: _, [], h => by simp at h
section
variable {P : Program} {w : World} {K : PySem.W.Frag} {mg : Str → Option Value} {base : Heap} {N ps : List Str} {qual : Str} {scope : Scope} {f cc C : Addr} {cd : Value} {A : Around} {outer : List Env} {s : Shared} {H : Hp} {E : XK} {us : List Value} {vs : List V}
theorem inv_startS (S : ScS N ps scope) (hd : A.handled = none) (e0 : L2.Env0 P w K mg base A outer s H) (hl : vs.length = ps.length) (r : Vals vs us) (hcc : ∃ v, base.IsCell cc v) {h₁ : Heap} {tk : Nat}
    (hns : h₁.Ns s.heap.objs.size (fun x => (ps.zip us).reverse.lookup x)) (hk : ∀ b o, s.heap.get? b = some o → h₁.get? b = some o) :
    Inv (cxS P w K mg base N qual scope f cd cc A outer s H E) [] (start N vs) H { s with heap := h₁, toks := tk } := by
  have hpl : ps.length ≤ N.length := by have := congrArg List.length S.pre; rw [List.length_take] at this; omega
  have noA : ∀ b : Addr, b ∉ (cxS P w K mg base N qual scope f cd cc A outer s H E).ex := fun b z => absurd (show b ∈ ([] : List Addr) from z) (by simp)
  have only : ∀ x c, (cxS P w K mg base N qual scope f cd cc A outer s H E).env.cells.lookup x = some c → x = "__class__" ∧ c = cc := fun x c h => by
    have h : ([("__class__", cc)] : List (Str × Addr)).lookup x = some c := h
    rw [List.lookup_cons] at h
    split at h
    · rename_i e
      exact ⟨eq_of_beq e, (Option.some.inj h).symm⟩
    · simp at h
  obtain ⟨cv, hcv⟩ := hcc
  obtain ⟨oc, ho, hdt⟩ := hcv
  obtain ⟨hb1, hb2⟩ := e0.bs _ _ ho
  refine ⟨⟨e0.mod, S.kind, rfl, rfl, Nat.le_refl _, fun y z c h1 h2 => ?_, fun y hy => ?_, fun y c h _ => (by cases h), fun _ => hd, Around.frames_deeper e0.frames, .inr ⟨rfl, rfl⟩, fun b z => absurd z (noA b), e0.bs, e0.bsz, fun b _ _ => noA b, fun b z => absurd z (noA b), e0.funs, e0.frf⟩,
    rfl, e0.bare, Un.kept hk, ⟨_, hns, fun i y v h1 h2 h3 => ?_⟩, fun y c h => ?_, e0.hok.fresh (Nat.le_refl _), fun y c h => ?_, fun p hp => absurd (show p ∈ ([] : List (Addr × Obj)) from hp) (by simp), e0.hok.kept hk, ?_⟩
  · rw [(only _ _ h1).1, (only _ _ h2).1]
  · have hy : scope.names.lookup y = some .cell ∨ scope.names.lookup y = some .free := hy
    rcases hy with hy | hy
    · exact absurd hy (S.nce y)
    · rw [S.fre y hy]
      exact ⟨cc, rfl⟩
  · have hi : i < vs.length := by
      unfold L2.start at h2
      by_cases hi : i < vs.length
      · exact hi
      · rw [List.getElem?_append_right (by simpa using hi)] at h2
        rw [List.getElem?_replicate] at h2
        split at h2 <;> cases h2
    have ha : vs[i]? = some v := by
      unfold L2.start at h2
      rw [List.getElem?_append_left (by simpa using hi), List.getElem?_map] at h2
      cases e : vs[i]? with
      | none => rw [e] at h2; cases h2
      | some a => rw [e] at h2; cases h2; rfl
    obtain ⟨u, hu, rv⟩ := r.get ha
    have hp : ps[i]? = some y := by
      rw [← S.pre, List.getElem?_take_of_lt (by omega)]; exact h1
    have ndP : ps.Nodup := by rw [← S.pre]; exact S.nd.sublist (List.take_sublist _ _)
    have hlu : ps.length = us.length := by rw [← hl, r.length]
    refine ⟨u, rv, .inl ⟨S.par y (List.mem_of_getElem? hp), ?_⟩⟩
    refine lookup_in ?_ (List.mem_reverse.mpr (List.mem_of_getElem? (i := i) (by rw [List.getElem?_zip_eq_some]; exact ⟨hp, hu⟩)))
    rw [List.map_reverse, zip_fst hlu]
    unfold List.Nodup
    rw [List.pairwise_reverse]
    exact ndP.imp Ne.symm
  · obtain ⟨_, rfl⟩ := only y c h
    exact ⟨cv, oc, hk _ _ hb1, hdt⟩
  · obtain ⟨_, rfl⟩ := only y c h
    exact hb2
  · unfold L2.start
    show _ = N.length
    rw [List.length_append, List.length_map, List.length_replicate]
    omega
end
/-- what the written part says of such an __init__ -/
structure IniK (K : PySem.W.Frag) (P : Program) (C fI cda cc : Addr) (qual : Str) (params : Arguments) (body : List Stmt) (scope : Scope) (fd : FuncData) : Prop where
  lk : ∃ oc od osl, K.lookup fI = some ⟨oc, od, .func fd, osl⟩
  fd : ∃ name dV kV doc pm an ct, fd = PySem.W.ksFn name qual params body scope dV kV doc pm an (.ref cda) ct cc
  code : PySem.W.codeIn K (.ref cda) qual = true
  file : ∃ ccl cdd vs ccs file tf, K.lookup cda = some ⟨ccl, cdd, .fields vs, ccs⟩ ∧ vs[2]? = some (.str file tf) ∧ ((P.main.file : Str) == file) = true
  cell : ∃ cl cld csl, K.lookup cc = some ⟨cl, cld, .cell (some (.ref C)), csl⟩
  cls : ∃ cd, PySem.W.clsIn K C = some cd
  sub : PySem.W.mroIn K C (.ref C) = some true
  ve : PySem.W.subIn K (.ref C) (.type "ValueError") = some true
  sup : PySem.W.ks_superIn K C C "__init__" = some (some (.builtin "ValueError.__init__"))
  opq : PySem.W.nsIn K cStatics "thirdparty.any" = some none
  top : (P.main.scope.names.lookup ("super" : Str)).isSome = false
  oex : OexC K C
  self : ∃ ar, (params.posonlyargs ++ params.args).head? = some ar ∧ ar.arg = ("self" : Str)
section
variable {P : Program} {w : World} {K : PySem.W.Frag} {mg : Str → Option Value} {base : Heap} {N ps : List Str} {qual : Str} {scope : Scope} {fI cc cda C a : Addr} {A : Around} {outer : List Env} {s s1 : Shared} {H0 H : Hp} {E : XK} {σ : L2.St} {params : Arguments} {body : List Stmt} {fd : FuncData}
theorem sup_base {E' : Value → Shared → Prop} {Q : Value → Shared → Prop} {p0 p1 : Pos} {whole : Sem Value} (Ik : IniK K P C fI cda cc qual params body scope fd) (S : ScS N ps scope) (hsp : mg "super" = none)
    (I : Inv (cxS P w K mg base N qual scope fI (.ref cda) cc A outer s H0 E) [] σ H s1) (hN : N[0]? = some ("self" : Str)) (hps : scope.names.lookup ("self" : Str) = some .local) (hσ : σ[0]? = some (some (.ref a))) (ea : H a = some (exo a C none))
    (h : ∀ so h', Inv (cxS P w K mg base N qual scope fI (.ref cda) cc A outer s H0 E) [] σ H { s1 with heap := h' } → h'.get? so = some (PySem.W.ks_superObj C a C) → Q (.ref so) { s1 with heap := h' }) :
    _root_.PySem.wpAt (model P w) (A.deeper (sEnv qual scope s.heap.objs.size fI (.ref cda) cc)) (.func body (sEnv qual scope s.heap.objs.size fI (.ref cda) cc)) (attributeBase (.Call (.Name "super" p0) [] [] p1) "__init__" (sEnv qual scope s.heap.objs.size fI (.ref cda) cc) whole) Q E' s1 := by
  obtain ⟨oc, od, osl, hlk⟩ := Ik.lk
  obtain ⟨name, dV, kV, doc, pm, an, ct, rfl⟩ := Ik.fd
  obtain ⟨ccl, cdd, vs, ccs, file, tf, hcode, hvs, hfile⟩ := Ik.file
  obtain ⟨cl, cld, csl, hcell⟩ := Ik.cell
  obtain ⟨cdC, hC⟩ := Ik.cls
  obtain ⟨ar, hp, har⟩ := Ik.self
  have X : K.In s1.heap := I.kIn
  obtain ⟨m, hn, hlook⟩ := id I.loc
  obtain ⟨u, ru, lk⟩ := hlook 0 "self" (.ref a) hN hσ (.inl hps)
  obtain rfl : u = Value.ref a := ru
  have hself : m "self" = some (.ref a) := by
    rcases lk with ⟨_, hm⟩ | ⟨_, c, e, _⟩
    · exact hm
    · exfalso
      have e : ([("__class__", cc)] : List (Str × Addr)).lookup ("self" : Str) = some c := e
      rw [List.lookup_cons] at e
      split at e
      · rename_i q
        exact absurd (eq_of_beq q) (by decide)
      · simp at e
  obtain ⟨mb, hb1, hb2⟩ := I.mod.blt
  obtain ⟨t1, hea⟩ := exo_at I.hok ea
  obtain ⟨oD, hD1, hD2⟩ : ∃ oD, s1.heap.get? C = some oD ∧ oD.data = .cls cdC := by
    unfold PySem.W.clsIn at hC
    split at hC
    · rename_i c d cd' sl ho
      cases hC
      exact ⟨_, X _ _ ho, rfl⟩
    · cases hC
  have hglob := I.mod.glob.keeps I.bk
  have hbl := hb1.keeps I.bk
  have kept : ∀ h', (∀ b o, s1.heap.get? b = some o → h'.get? b = some o) → Inv (cxS P w K mg base N qual scope fI (.ref cda) cc A outer s H0 E) [] σ H { s1 with heap := h' } := fun h' k => I.kept (t' := s1.toks) k
  obtain ⟨hh, g, d, t, os⟩ := s1
  refine PySem.ks_wpAt_super_base (env := sEnv qual scope s.heap.objs.size fI (.ref cda) cc) S.sup S.cls (by decide) rfl (X _ _ hlk) rfl hp rfl (X _ _ hcode) rfl hvs hfile Ik.top ?_
  refine PySem.W.ks_loadName_global S.kind S.sup (Calls.loadGlobal_builtin (env := sEnv qual scope s.heap.objs.size fI (.ref cda) cc) hglob hsp hbl ((hb2 _ (by decide)).trans (by decide +kernel)) ⟨rfl, ?_⟩)
  refine wpAny_loadName_free S.kind S.cls rfl ⟨_, X _ _ hcell, rfl⟩ ?_
  rw [har]
  refine wpAny_loadName_local S.kind hps hn hself ?_
  refine PySem.ks_wpAny_isType_cls hD1 hD2 ⟨rfl, ?_⟩
  refine PySem.ks_wpAny_call_super hD1 hD2 hea rfl (fun c e => by cases e) (PySem.W.looks_mroIn X Ik.sub) (fun h' e k => ?_)
  exact h _ _ (kept h' k) e
theorem call_bwV {P : Program} {w : World} {A : Around} {E : Value → Shared → Prop} {h : Heap} {g : Array GenState} {d : Drawn} {t : Nat} {os : OsState} {nm q : Str} {C N : Addr} {bs bm : List Value} {hdct : Bool} {sn : List Str} {sub : List Value} {ab : Bool} {col : Option Bool} {dd : Option Addr} {k0 k1 k2 k3 k5 : Option Value}
    {u e t0 : Addr} {rest : List Value} {Q : Value → Shared → Prop}
    (hC : h.get? C = some (excClassObj nm q C N bs bm hdct sn sub ab col dd k0 k1 k2 k3 k5 "ValueError.__new__")) (he : h.get? e = some (HandSPX.excO C t0)) (hu : h.get? u = some (PySem.W.kxs_mw "ValueError.__init__" e)) (hrest : rest.length ≤ sizeLine)
    (hq : ∀ h' t1, (∀ b o, b ≠ e → h.get? b = some o → h'.get? b = some o) → h'.get? e = some (HandSPX.excO C t1) → Q .none ⟨h', g, d, t, os⟩) : wpAny (model P w) A (call (.ref u) rest) Q E ⟨h, g, d, t, os⟩ := by
  refine wpAny_call (codeAny_of_tree ?_)
  show wpAny _ A.in1 (callAny (.ref u) ⟨rest, []⟩) _ _ _
  simp only [callAny]; refine wpAny_bind (wpAny_load hu ?_)
  simp only [PySem.W.kxs_mw, show (Value.type "method-wrapper" == Value.type "method" || Value.type "method-wrapper" == Value.type "builtin_function_or_method" || Value.type "method-wrapper" == Value.type "method-wrapper") = true by decide, if_true]
  refine W.KFB.if_so (by decide) ?_
  refine wpAny_bind (ESX.check_bound F.excBase_ValueError hC he rfl ?_); refine wpAny_bind (wpAny_pure (wpAny_pure ?_))
  refine ⟨Code.quiet_builtin _ (by decide +kernel), codeAny_builtin F.excBase_ValueError.initEntry ?_⟩
  rw [Around.under_plainId F.excBase_ValueError.init.plain _]; wp_walk
  refine hq _ h.objs.size (fun b o hb ho => ?_) ?_
  · rw [Heap.get?_update_other _ _ (Ne.symm hb)]; exact Heap.get?_push_of_some _ ho
  · rw [Heap.get?_update_self _ (Heap.get?_push_of_some _ he) rfl]; rfl
theorem sup_stmt {ta : TA} {arg : Expr} {p0 p1 p2 pos pos' : Pos} {pl : Sem Bool} (Ik : IniK K P C fI cda cc qual params body scope fd) (S : ScS N ps scope) (hsp : mg "super" = none)
    (I : Inv (cxS P w K mg base N qual scope fI (.ref cda) cc A outer s H0 E) [] σ H s1) (hN : N[0]? = some ("self" : Str)) (hps : scope.names.lookup ("self" : Str) = some .local) (hσ : σ[0]? = some (some (.ref a))) (ea : H a = some (exo a C none))
    (hp : PA (cxS P w K mg base N qual scope fI (.ref cda) cc A outer s H0 E) [arg] ta) (ht : ta σ H fun vs H1 => vs.length ≤ sizeLine ∧ H1 = H)
    (hi : interactive (sEnv qual scope s.heap.objs.size fI (.ref cda) cc) = false)
    (he : eval (.Call (.Attribute (.Call (.Name "super" p0) [] [] p1) "__init__" p2) [arg] [] pos) (sEnv qual scope s.heap.objs.size fI (.ref cda) cc) = (do
      let ov ← attributeBase (.Call (.Name "super" p0) [] [] p1) "__init__" (sEnv qual scope s.heap.objs.size fI (.ref cda) cc) (eval (.Call (.Name "super" p0) [] [] p1) (sEnv qual scope s.heap.objs.size fI (.ref cda) cc))
      standAt p2.atName
      let (f, first) ← holding [ov] (getMethod ov "__init__" pl)
      callWith pos f first (backTo pos (starEach [arg] (sEnv qual scope s.heap.objs.size fI (.ref cda) cc))) []))
    (hst : starEach [arg] (sEnv qual scope s.heap.objs.size fI (.ref cda) cc) = (false, eval arg (sEnv qual scope s.heap.objs.size fI (.ref cda) cc)) :: starEach [] (sEnv qual scope s.heap.objs.size fI (.ref cda) cc)) :
    _root_.PySem.wpAt (model P w) (A.deeper (sEnv qual scope s.heap.objs.size fI (.ref cda) cc)) (.func body (sEnv qual scope s.heap.objs.size fI (.ref cda) cc)) (exec (.Expr (.Call (.Attribute (.Call (.Name "super" p0) [] [] p1) "__init__" p2) [arg] [] pos) pos') (sEnv qual scope s.heap.objs.size fI (.ref cda) cc))
      (fun f s' => f = .next ∧ Inv (cxS P w K mg base N qual scope fI (.ref cda) cc A outer s H0 E) [] σ H s') (cxS P w K mg base N qual scope fI (.ref cda) cc A outer s H0 E).xe s1 := by
  obtain ⟨cdC, hC⟩ := Ik.cls
  have hsup := Ik.sup
  have hT := Ik.oex
  obtain ⟨nm, q, NN, bs, bm, sn, sub, ab, col, dd, k0, k1, k2, k3, k5, hCC, hbm⟩ := hT.cls
  refine PySem.ks_wpAt_Expr_any ?_ hi
  refine PySem.ks_wpAt_MethodCall (pl := pl) ?_ he
  refine sup_base Ik S hsp I hN hps hσ ea fun so h' I1 hso => ?_
  obtain ⟨t1, hea⟩ := exo_at I1.hok ea
  have IA : PySem.W.InstAt h' a ({ cls := .ref C, dict := none, data := .fields #[.ref t1, .none, .none, .none, .bool false, .none] } : Obj) C none := ⟨hea, rfl, rfl, trivial⟩
  have X : K.In h' := I1.kIn
  unfold PySem.W.ks_superIn at hsup
  rw [hC] at hsup
  obtain ⟨hh, g, d, t, os⟩ := s1
  have hoso : h'.get? so = some (PySem.W.ks_superObj C a C) := hso
  refine PySem.W.kxs_getMethod PySem.W.kxs_ValueError hoso (PySem.W.looks_opaque X Ik.opq) (l₀ := cdC.mro) (fun A Q E s k q => wpAny_bind ((PySem.W.looks_clsIn X hC) A _ E s k (wpAny_pure q))) rfl X hsup (IA.type.andThen (PySem.W.looks_subIn X Ik.ve)) (PySem.W.ks_ne X IA hC) (by decide) ?_
  have I2 : Inv (cxS P w K mg base N qual scope fI (.ref cda) cc A outer s H0 E) [] σ H ⟨h'.push (PySem.W.kxs_mw "ValueError.__init__" a), g, d, t + 1, os⟩ := I1.kept (t' := t + 1) fun b o e => Heap.get?_push_of_some _ e
  have hu : (h'.push (PySem.W.kxs_mw "ValueError.__init__" a)).get? h'.objs.size = some (PySem.W.kxs_mw "ValueError.__init__" a) := Heap.get?_push_at rfl rfl
  have hfree : H h'.objs.size = none := I1.hok.fresh (Nat.le_refl _)
  have I3 : Inv (cxS P w K mg base N qual scope fI (.ref cda) cc A outer s H0 E) [(h'.objs.size, PySem.W.kxs_mw "ValueError.__init__" a)] σ H ⟨h'.push (PySem.W.kxs_mw "ValueError.__init__" a), g, d, t + 1, os⟩ := I2.pins_of fun p hp => by
    rw [List.mem_singleton] at hp
    subst hp
    refine ⟨hu, hfree, Ne.symm (Nat.ne_of_lt I1.lt), I1.nofs (Nat.le_refl _), fun v z => by cases z⟩
  show wpAny _ _ (callWith pos (Value.ref h'.objs.size) [] (backTo pos (starEach [arg] (sEnv qual scope s.heap.objs.size fI (.ref cda) cc))) []) _ _ _
  have hr := hp.run pos _ _ σ H _ I3 ht
  have hst' : starEach [arg] (cxS P w K mg base N qual scope fI (.ref cda) cc A outer s H0 E).env = (false, eval arg (sEnv qual scope s.heap.objs.size fI (.ref cda) cc)) :: starEach [] (sEnv qual scope s.heap.objs.size fI (.ref cda) cc) := hst
  rw [hst'] at hr
  rw [hst]
  refine PySem.W.kxs_callWith (i := "ValueError.__init__") (x := a) rfl (PySem.Calls.evalArgs_plain (thn hr fun us s2 ⟨vs, H1, I4, r1, hl, eH⟩ => ?_))
  subst eH
  have hp4 := I4.pin (h'.objs.size, PySem.W.kxs_mw "ValueError.__init__" a) (by simp)
  refine ⟨hp4.1, ?_⟩
  obtain ⟨t4, hea4⟩ := exo_at I4.hok ea
  obtain ⟨h4, g4, d4, tt4, os4⟩ := s2
  refine call_bwV (I4.kIn _ _ hCC) hea4 hp4.1 (by rw [List.nil_append, ← r1.length]; exact hl) fun h5 t5 k5 hx5 => ?_
  refine ⟨rfl, ?_⟩
  have J := I4.write (t' := tt4) (x := a) (e := a) (o := exo a C none) (by rw [ea]; exact True.intro) (.inl rfl) k5 ⟨_, hx5⟩ (exo_ok hx5)
  have eu : upd H1 a (exo a C none) = H1 := by
    funext b
    by_cases hb : b = a
    · rw [hb, upd_same, ea]
    · rw [upd_ne hb]
  rw [eu] at J
  exact J.pins_of fun p hp => by simp at hp
end
end G

set_option Elab.async false
set_option linter.all false
set_option maxRecDepth 100000
set_option maxHeartbeats 4000000
/-! an own exception's __init__ as a def that keeps a promise -/
namespace G
open PySem PySem.Spec PyProof.Rows L2

def pcV (ws : List V) : Pc → Prop
  | .c s => s.length ≤ 1000000
  | .p i => (∃ y : Str, ws[i]? = some (.str y) ∧ y.length ≤ 1000000) ∨ ∃ k : Int, ws[i]? = some (.int k) ∧ k.natAbs.log2 < 1920
def runFs {α : Type} (ws : List α) : List (Str × Nat) → List (Str × α) → Option (List (Str × α))
  | [], acc => some acc
  | (f, i) :: r, acc => match ws[i]? with
    | some v => runFs ws r ((f, v) :: acc)
    | none => none
/-- what is promised -/
def iniSp (C : Addr) (o : Ow) : Sp := fun vs H Q _ => ∃ (a : Addr) (ws : List V), vs = .ref a :: ws ∧ ws.length = o.n ∧ H a = some (exo a C none) ∧ o.tx.length ≤ 8 ∧ (∀ p ∈ o.tx, pcV ws p) ∧
  ∃ fvs, runFs ws o.fs [] = some fvs ∧ ∀ d H2, H d = none → d ≠ a → H2 a = some (exo a C (some d)) → H2 d = some (exd d fvs) → (∀ b, b ≠ a → b ≠ d → H2 b = H b) → Q .non H2
def okN (x : Str) : Bool := !(x == ("__debug__" : Str)) && !(x == ("__classdict__" : Str))
def partsB (ns : List Str) : List Pc → List Expr → Bool
  | [], [] => true
  | .c s :: r, .Constant (.str s') _ _ :: es => decide (s = s') && partsB ns r es
  | .p i :: r, .FormattedValue (.Name x _) n none _ :: es => decide (n = -1) && (decide (ns[i]? = some x) && partsB ns r es)
  | _, _ => false
def txB (ns : List Str) (tx : List Pc) : Expr → Bool
  | .Constant (.str s) _ _ => decide (tx = [.c s])
  | .JoinedStr (v1 :: v2 :: rest) _ => partsB ns tx (v1 :: v2 :: rest)
  | _ => false
def stsB (ns : List Str) : List (Str × Nat) → List Stmt → Bool
  | [], [] => true
  | (f, i) :: r, .Assign [.Attribute (.Name s _) f' _] (.Name x _) _ :: rest => decide (s = "self") && (decide (f = f') && (decide (ns[i]? = some x) && stsB ns r rest))
  | _, _ => false
def bodyB (ns : List Str) (o : Ow) : List Stmt → Bool
  | .Expr (.Call (.Attribute (.Call (.Name su _) [] [] _) ini p2) [arg] [] pos) _ :: rest => p2.endLine == pos.line && (decide (su = "super") && (decide (ini = "__init__") && (txB ns o.tx arg && stsB ns o.fs rest)))
  | _ => false
structure IniOk (P : Program) (K : PySem.W.Frag) (mg : Str → Option Value) (C : Addr) (o : Ow) (fI : Addr) (fd : FuncData) (ns : List Str) : Prop where
  ex : ∃ cda cc qual params body scope, IniK K P C fI cda cc qual params body scope fd ∧ ScS ("self" :: ns) ("self" :: ns) scope ∧ bodyB ns o body = true
  fi : PySem.W.findIn K (.ref C) "__init__" = some (some (.ref fI))
  ti : PySem.W.typeIn K (.ref fI) = some (.type "function")
  bi : Binds K fd ("self" :: ns) []
  su : mg "super" = none
  len : ns.length = o.n
  ne : o.fs ≠ []
  fl : o.fs.length ≤ 900 ∧ ∀ f ∈ o.fs, PySem.W.findIn K (.ref C) f.1 = some none
  nm : ∀ x ∈ ns, okN x = true
section
variable {P : Program} {w : World} {K : PySem.W.Frag} {mg : Str → Option Value} {base : Heap} {N : List Str} {qual : Str} {scope : Scope} {fI cc cda C a : Addr} {A : Around} {outer : List Env} {s s1 : Shared} {H0 H : Hp} {E : XK} {σ : L2.St} {params : Arguments} {body : List Stmt} {fd : FuncData}
theorem okN_d {x : Str} (h : okN x = true) : (x == ("__debug__" : Str)) = false ∧ (x == ("__classdict__" : Str)) = false := by
  simp only [okN, Bool.and_eq_true, Bool.not_eq_true'] at h
  exact h
/-- the slots hold the arguments -/
def Held (σ : L2.St) (a : Addr) (ws : List V) : Prop := σ[0]? = some (some (.ref a)) ∧ ∀ i v, ws[i]? = some v → σ[i + 1]? = some (some v)
theorem pe_par {X : Cx} {ns : List Str} {i : Nat} {x : Str} {p : Pos} (hN : X.N = ("self" : Str) :: ns) (hpar : ∀ y ∈ ("self" : Str) :: ns, X.env.scope.names.lookup y = some .local) (h : ns[i]? = some x) (ho : ∀ y ∈ ns, okN y = true) : PE X (.Name x p) (tVar (i + 1)) := by
  have hm := List.mem_of_getElem? h
  exact pe_var (by rw [hN]; simpa using h) (.inl (hpar x (List.mem_cons_of_mem _ hm))) (okN_d (ho x hm)).1 (okN_d (ho x hm)).2
/-- the readings of the text's parts -/
def pcT : Pc → TE
  | .c s => tC (.str s)
  | .p i => tFmt (tVar (i + 1))
theorem parts_pj {X : Cx} {ns : List Str} (hN : X.N = ("self" : Str) :: ns) (hpar : ∀ y ∈ ("self" : Str) :: ns, X.env.scope.names.lookup y = some .local) (ho : ∀ y ∈ ns, okN y = true) : ∀ {tx : List Pc} {es : List Expr}, partsB ns tx es = true → PJ X es (tx.map pcT)
  | [], [], _ => .nil
  | .c s :: r, e :: es, h => by
    unfold partsB at h
    split at h
    · rename_i heq
      cases heq
    · rename_i h1 h2
      cases h1
      cases h2
      simp only [Bool.and_eq_true, decide_eq_true_eq] at h
      obtain ⟨rfl, h⟩ := h
      exact .cons pe_str (parts_pj hN hpar ho h)
    · rename_i h1 h2
      cases h1
    · cases h
  | .p i :: r, e :: es, h => by
    unfold partsB at h
    split at h
    · rename_i heq
      cases heq
    · rename_i h1 h2
      cases h1
    · rename_i h1 h2
      cases h1
      cases h2
      simp only [Bool.and_eq_true, decide_eq_true_eq] at h
      obtain ⟨rfl, h3, h⟩ := h
      exact .cons (pe_fmt (pe_par hN hpar h3 ho)) (parts_pj hN hpar ho h)
    · cases h
  | [], _ :: _, h => by unfold partsB at h; cases h
  | .c _ :: _, [], h => by unfold partsB at h; cases h
  | .p _ :: _, [], h => by unfold partsB at h; cases h
theorem int_len {k : Int} (h : k.natAbs.log2 < 1920) : (Str.ofString (toString k)).length ≤ 1000000 := by
  have e := int_text_length_le (k := 1920) (by decide) h
  rw [PySem.ofString_length]; omega
theorem parts_run {ws : List V} (hd : Held σ a ws) : ∀ {tx : List Pc} {acc : Str} {Q : Str → Hp → Prop}, (∀ p ∈ tx, pcV ws p) → acc.length + tx.length * 1000000 ≤ 16000000 → (∀ out, Q out H) → tJs (tx.map pcT) acc σ H Q
  | [], acc, Q, _, _, hq => hq acc
  | p :: r, acc, Q, h, hl, hq => by
    have step : ∀ y : Str, y.length ≤ 1000000 → (acc ++ y).length ≤ sizeLine ∧ tJs (r.map pcT) (acc ++ y) σ H Q := fun y hy => by
      simp only [List.length_cons] at hl
      have e : (acc ++ y).length = acc.length + y.length := PySem.Str.length_append _ _
      refine ⟨by rw [e, sizeLine_eq]; omega, parts_run hd (fun q hq => h q (List.mem_cons_of_mem _ hq)) (by rw [e]; omega) hq⟩
    have hp := h p List.mem_cons_self
    cases p with
    | c s => exact ⟨s, rfl, step s hp⟩
    | p i =>
      rcases hp with ⟨y, h1, h2⟩ | ⟨k, h1, h2⟩
      · exact ⟨.str y, hd.2 i _ h1, .inl ⟨y, rfl, by rw [sizeLine_eq]; omega, y, rfl, step y h2⟩⟩
      · exact ⟨.int k, hd.2 i _ h1, .inr ⟨k, rfl, h2, _, rfl, step _ (int_len h2)⟩⟩
theorem tx_pe {X : Cx} {ns : List Str} {tx : List Pc} {arg : Expr} (hN : X.N = ("self" : Str) :: ns) (hpar : ∀ y ∈ ("self" : Str) :: ns, X.env.scope.names.lookup y = some .local) (ho : ∀ y ∈ ns, okN y = true) (h : txB ns tx arg = true) :
    ∃ te, PE X arg te ∧ ∀ {σ : L2.St} {H : Hp} {ws : List V} {Q : VK}, Held σ a ws → (∀ p ∈ tx, pcV ws p) → tx.length ≤ 8 → (∀ v, Q v H) → te σ H Q := by
  unfold txB at h
  split at h
  · exact ⟨_, pe_str, fun _ _ _ hq => hq _⟩
  · exact ⟨_, pe_joined (parts_pj hN hpar ho h), fun hd hp hl hq => parts_run hd hp (by show 0 + _ ≤ _; omega) fun out => hq _⟩
  · cases h
theorem tx_star {ns : List Str} {tx : List Pc} {arg : Expr} (h : txB ns tx arg = true) (env : Env) : starEach [arg] env = (false, eval arg env) :: starEach [] env := by
  unfold txB at h
  split at h
  · rfl
  · rfl
  · cases h
theorem mcp_eq {few : Bool} {o : Expr} {env : Env} {apos pos : Pos} (h : (apos.endLine == pos.line) = true) : methodCallPos few o env apos pos = pure pos := by
  unfold methodCallPos
  rw [h, Bool.or_true]
  rfl
theorem tx_call {ns : List Str} {tx : List Pc} {arg : Expr} (h : txB ns tx arg = true) (env : Env) {p0 p1 p2 pos : Pos} (hl : (p2.endLine == pos.line) = true) : ∃ pl : Sem Bool, eval (.Call (.Attribute (.Call (.Name "super" p0) [] [] p1) "__init__" p2) [arg] [] pos) env = (do
      let ov ← attributeBase (.Call (.Name "super" p0) [] [] p1) "__init__" env (eval (.Call (.Name "super" p0) [] [] p1) env)
      standAt p2.atName
      let (f, first) ← holding [ov] (getMethod ov "__init__" pl)
      callWith pos f first (backTo pos (starEach [arg] env)) []) := by
  have key : ∀ ov : Value, ∀ a : List (Bool × Sem Value), (do
      let (f, first) ← holding [ov] (getMethod ov "__init__" (do return (← importBound (.Call (.Name "super" p0) [] [] p1) env).getD true))
      let callPos ← methodCallPos true (.Call (.Name "super" p0) [] [] p1) env p2 pos
      callWith callPos f first a []) = (do
      let (f, first) ← holding [ov] (getMethod ov "__init__" (do return (← importBound (.Call (.Name "super" p0) [] [] p1) env).getD true))
      callWith pos f first a []) := fun ov a => by
    simp only [mcp_eq hl, pure_bind]
  unfold txB at h
  split at h
  · refine ⟨(do return (← importBound (.Call (.Name "super" p0) [] [] p1) env).getD true), ?_⟩
    simp only [← key]
    rfl
  · refine ⟨(do return (← importBound (.Call (.Name "super" p0) [] [] p1) env).getD true), ?_⟩
    simp only [← key]
    rfl
  · cases h
/-- the rest: fields are kept -/
theorem sts_run {X : Cx} {ns : List Str} {ws : List V} {d : Addr} (T : OexC X.K C) (hN : X.N = ("self" : Str) :: ns) (hpar : ∀ y ∈ ("self" : Str) :: ns, X.env.scope.names.lookup y = some .local) (ho : ∀ y ∈ ns, okN y = true) (hd : Held σ a ws) (hda : d ≠ a) : ∀ {fs : List (Str × Nat)} {sts : List Stmt} {acc : List (Str × V)} {fvs : List (Str × V)} {s : Shared} {H : Hp},
    stsB ns fs sts = true → Inv X [] σ H s → H a = some (exo a C (some d)) → H d = some (exd d acc) → (∀ f ∈ fs, PySem.W.findIn X.K (.ref C) f.1 = some none) → acc.length + fs.length ≤ 900 → runFs ws fs acc = some fvs →
    wpAny (model X.prog X.w) X.A (execs sts X.env) (fun f s' => f = .next ∧ ∃ H2, Inv X [] σ H2 s' ∧ H2 a = some (exo a C (some d)) ∧ H2 d = some (exd d fvs) ∧ ∀ b, b ≠ a → b ≠ d → H2 b = H b) X.xe s
  | [], [], acc, fvs, s, H, _, I, ea, ed, _, _, hr => by
    cases hr
    exact wpAny_execs_nil ⟨rfl, H, I, ea, ed, fun _ _ _ => rfl⟩
  | (f, i) :: r, st :: sts, acc, fvs, s, H, h, I, ea, ed, hf, hl, hr => by
    unfold stsB at h
    split at h
    · rename_i heq _
      cases heq
    · rename_i h1 h2
      cases h1
      cases h2
      simp only [Bool.and_eq_true, decide_eq_true_eq] at h
      obtain ⟨rfl, rfl, h3, h4⟩ := h
      unfold runFs at hr
      cases hw : ws[i]? with
      | none => rw [hw] at hr; cases hr
      | some y =>
        rw [hw] at hr
        have hs : ∀ p, PE X (.Name "self" p) (tVar 0) := fun p => pe_var (by rw [hN]; rfl) (.inl (hpar _ List.mem_cons_self)) (by decide) (by decide)
        simp only [List.length_cons] at hl
        refine wpAny_execs_cons (thn ((ps_ost (hs _) (pe_par hN hpar h3 ho)).run [] s σ H
          { nx := fun σ' H' => σ' = σ ∧ H' = upd H d (exd d ((f, y) :: acc)), bk := fun _ _ => False, ct := fun _ _ => False, rt := fun _ _ => False } I
          ⟨y, hd.2 i y hw, .ref a, hd.1, a, C, rfl, T, hf _ List.mem_cons_self, .inr ⟨d, acc, ea, ed, by omega, rfl, rfl⟩⟩) fun fl s' hs' => ?_)
        cases fl with
        | next =>
          obtain ⟨σ', H', J, e1, e2⟩ := hs'
          rw [e1, e2] at J
          refine thn (sts_run T hN hpar ho hd hda h4 J (by rw [upd_ne hda.symm]; exact ea) upd_same (fun g hg => hf g (List.mem_cons_of_mem _ hg)) (by simp only [List.length_cons]; omega) hr) fun f2 s2 ⟨e, H2, J2, a2, d2, k2⟩ => ⟨e, H2, J2, a2, d2, fun b hb1 hb2 => (k2 b hb1 hb2).trans (upd_ne hb2)⟩
        | brk => obtain ⟨_, _, _, z⟩ := hs'; exact z.elim
        | cont => obtain ⟨_, _, _, z⟩ := hs'; exact z.elim
        | ret u => obtain ⟨_, _, _, _, _, z⟩ := hs'; exact z.elim
    · cases h
  | [], _ :: _, _, _, _, _, h, _, _, _, _, _, _ => by unfold stsB at h; cases h
  | _ :: _, [], _, _, _, _, h, _, _, _, _, _, _ => by unfold stsB at h; cases h
theorem ini_fn {o : Ow} {ns : List Str} (ok : IniOk P K mg C o fI fd ns) : FnOk P w K mg base (L2.CX P w) 1 fI fd ("self" :: ns) (iniSp C o) := by
  obtain ⟨cda, cc, qual, params, body, scope, Ik, S, hb⟩ := ok.ex
  refine ⟨fun vs H Q E ⟨a, ws, e1, e2, _⟩ => by rw [e1, List.length_cons, List.length_cons, e2, ok.len], fun A outer s H args us vs Q E hr e0 hbi r ⟨a, ws, e1, e2, ea, hl8, htx, fvs, hfs, hq⟩ => ?_⟩
  obtain ⟨oc, od, osl, hlk⟩ := Ik.lk
  obtain ⟨cl, cld, csl, hcell⟩ := Ik.cell
  have KX : K.In s.heap := e0.mod.kin.keeps fun b o e => (e0.bs b o e).1
  have lim : s.heap.NoLimit := e0.mod.nolimit.keeps fun b o e => (e0.bs b o e).1
  have hvl : vs.length = (("self" : Str) :: ns).length := by rw [e1, List.length_cons, List.length_cons, e2, ok.len]
  have hloc : ∀ y ∈ (("self" : Str) :: ns).zip us, scope.names.lookup y.1 = some .local := fun ⟨n, v⟩ hy => S.par n (List.of_mem_zip hy).1
  have hIk := Ik
  obtain ⟨name, dV, kV, doc, pm, an, ct, hfd⟩ := Ik.fd
  subst hfd
  have hcode := Ik.code
  refine PySem.ks_codeAny_call_defAt (fd := PySem.W.ksFn name qual params body scope dV kV doc pm an (.ref cda) ct cc) (body := body) (binds := (("self" : Str) :: ns).zip us) hr.depth (KX _ _ hlk) rfl lim (PySem.W.codeRec_of KX hcode) rfl hbi S.ncl hloc (fun h₀ hns hk => ?_) S.co S.gen S.kind
  have hcc : ∃ v, base.IsCell cc v := ⟨_, _, e0.mod.kin _ _ hcell, rfl⟩
  have I := inv_startS (E := E) (f := fI) (cd := .ref cda) (qual := qual) (cc := cc) (tk := s.toks + ((("self" : Str) :: ns).zip us).length) S hr.hd e0 hvl r hcc hns hk
  have hheld : Held (L2.start ("self" :: ns) vs) a ws := by
    subst e1
    refine ⟨rfl, fun i v hv => ?_⟩
    show ((V.ref a :: ws).map some ++ List.replicate _ none)[i + 1]? = _
    have hi := (List.getElem?_eq_some_iff.mp hv).1
    rw [List.getElem?_append_left (by simpa using hi), List.getElem?_map]
    simp [hv]
  unfold bodyB at hb
  split at hb
  case h_2 => cases hb
  rename_i su p0 p1 ini p2 arg pos pos' rest
  simp only [Bool.and_eq_true, decide_eq_true_eq] at hb
  obtain ⟨hln, rfl, rfl, ht, hst⟩ := hb
  have hpar : ∀ y ∈ ("self" : Str) :: ns, (cxS P w K mg base ("self" :: ns) qual scope fI (.ref cda) cc A outer s H E).env.scope.names.lookup y = some .local := S.par
  obtain ⟨te, hpe, hte⟩ := tx_pe (X := cxS P w K mg base ("self" :: ns) qual scope fI (.ref cda) cc A outer s H E) (a := a) rfl hpar ok.nm ht
  have hin : interactive (sEnv qual scope s.heap.objs.size fI (.ref cda) cc) = false := by
    show (scope.kind == .module && _) = false
    rw [S.kind]
    rfl
  show _root_.PySem.wpAt (model P w) (A.deeper (sEnv qual scope s.heap.objs.size fI (.ref cda) cc)) (.func _ (sEnv qual scope s.heap.objs.size fI (.ref cda) cc)) (execs _ (sEnv qual scope s.heap.objs.size fI (.ref cda) cc)) _ _ _
  obtain ⟨pl, hcall⟩ := tx_call ht (sEnv qual scope s.heap.objs.size fI (.ref cda) cc) (p0 := p0) (p1 := p1) hln
  refine PySem.ks_wpAt_execs_cons (PySem.ks_wpAt_mono (sup_stmt (pl := pl) hIk S ok.su I rfl (S.par _ List.mem_cons_self) hheld.1 ea (pa_cons hpe pa_nil (tx_star ht _)) (hte hheld htx hl8 fun v => ⟨by show 1 ≤ _; rw [sizeLine_eq]; omega, rfl⟩) hin hcall (tx_star ht _)) (fun f s' ⟨ef, J⟩ => ?_) fun _ _ x => x)
  subst ef
  refine _root_.PySem.wpAt_of_wpAny ?_
  have fin : ∀ {H2 : Hp} {s2 : Shared} {d : Addr}, Inv (cxS P w K mg base ("self" :: ns) qual scope fI (.ref cda) cc A outer s H E) [] (L2.start ("self" :: ns) vs) H2 s2 → H d = none → d ≠ a → H2 a = some (exo a C (some d)) → H2 d = some (exd d fvs) → (∀ b, b ≠ a → b ≠ d → H2 b = H b) → CE outer P w H s Q .none s2 :=
    fun {H2 s2 d} J2 h1 h2 h3 h4 h5 => ⟨.non, H2, J2.os, J2.bare, J2.base, J2.hok, rfl, hq d H2 h1 h2 h3 h4 h5⟩
  have hne := ok.ne
  have hfl := ok.fl
  generalize hof : o.fs = ofs at hne hfl hst hfs
  cases ofs with
  | nil => exact absurd rfl hne
  | cons fi r2 =>
    obtain ⟨f1, i1⟩ := fi
    cases rest with
    | nil => unfold stsB at hst; cases hst
    | cons st sts =>
      unfold stsB at hst
      split at hst
      · rename_i heq _
        cases heq
      · rename_i h1 h2
        cases h1
        cases h2
        simp only [Bool.and_eq_true, decide_eq_true_eq] at hst
        obtain ⟨rfl, rfl, h3, h4⟩ := hst
        unfold runFs at hfs
        cases hw : ws[i1]? with
        | none => rw [hw] at hfs; cases hfs
        | some y =>
          rw [hw] at hfs
          have hs : ∀ p, PE (cxS P w K mg base ("self" :: ns) qual scope fI (.ref cda) cc A outer s H E) (.Name "self" p) (tVar 0) := fun p => pe_var rfl (.inl (hpar _ List.mem_cons_self)) (by decide) (by decide)
          refine wpAny_execs_cons (thn ((ps_ost (hs _) (pe_par rfl hpar h3 ok.nm)).run [] s' _ H
            { nx := fun σ' H' => σ' = L2.start ("self" :: ns) vs ∧ ∃ d, H d = none ∧ d ≠ a ∧ H' = upd (upd H d (exd d [(f1, y)])) a (exo a C (some d)), bk := fun _ _ => False, ct := fun _ _ => False, rt := fun _ _ => False } J
            ⟨y, hheld.2 i1 y hw, .ref a, hheld.1, a, C, rfl, hIk.oex, hfl.2 _ List.mem_cons_self, .inl ⟨ea, fun d hd1 hd2 => ⟨rfl, d, hd1, hd2, rfl⟩⟩⟩) fun fl s2 hs' => ?_)
          cases fl with
          | next =>
            obtain ⟨σ', H', J2, rfl, d, hd1, hd2, rfl⟩ := hs'
            have hl9 := hfl.1
            simp only [List.length_cons] at hl9
            refine thn (sts_run hIk.oex rfl hpar ok.nm hheld hd2 h4 J2 upd_same (by rw [upd_ne hd2, upd_same]) (fun g hg => hfl.2 g (List.mem_cons_of_mem _ hg)) (by simp only [List.length_cons, List.length_nil]; omega) hfs) fun f2 s3 ⟨e, H2, J3, a2, d2, k2⟩ => ?_
            subst e
            exact fin J3 hd1 hd2 a2 d2 fun b hb1 hb2 => (k2 b hb1 hb2).trans (by rw [upd_ne hb1, upd_ne hb2])
          | brk => obtain ⟨_, _, _, z⟩ := hs'; exact z.elim
          | cont => obtain ⟨_, _, _, z⟩ := hs'; exact z.elim
          | ret u => obtain ⟨_, _, _, _, _, z⟩ := hs'; exact z.elim
      · cases hst
end
end G

set_option Elab.async false
set_option linter.all false
set_option maxRecDepth 100000
set_option maxHeartbeats 8000000
namespace G
open PySem PySem.Spec PyProof.Rows L2

/-- what is known of the exception classes -/
structure XsOk (P : Program) (K : PySem.W.Frag) (mg : Str → Option Value) (ct : Ct) (xs : Xs) : Prop where
  cls : ∀ z C, ct.tab z = some C → ExcC K C
  sub : ∀ z c b, xs.sub z c = some b → ∃ C, ct.tab z = some C ∧ ((∃ D, mg c = some (.ref D) ∧ PySem.W.exmOne K (.ref C) (.ref D) = some b ∧ PySem.W.kitOne K (.ref C) (.ref D) = some b) ∨ ∃ n, mg c = none ∧ bootBuiltins c = some (.type n) ∧ PySem.W.exmOne K (.ref C) (.type n) = some b ∧ PySem.W.kitOne K (.ref C) (.type n) = some b)
  fld : ∀ z f, xs.fld z f = true → ∃ C, ct.tab z = some C ∧ PySem.W.findIn K (.ref C) f = some none
  ow : ∀ c o, xs.ow c = some o → ∃ C fI fd ns, ct.tab o.z = some C ∧ mg c = some (.ref C) ∧ IniOk P K mg C o fI fd ns
  pl : ∀ c z, xs.pl c = some z → ∃ C, ct.tab z = some C ∧ mg c = some (.ref C) ∧ PySem.W.excIn K C He.veBase "ValueError.__new__" = true ∧ PySem.W.keepIn K (.ref C) = true ∧ PySem.W.subIn K (.ref C) (.type "BaseException") = some true ∧ PySem.W.typeIn K (.ref C) = some (.type "type")
/-- within an except suite: what is handled -/
structure HotX (ct : Ct) (L : Lm) (io : Option Nat) (X : Cx) : Prop where
  ex : ∃ (X0 : Cx) (a : Addr) (oe : Obj) (pn : List (Addr × Obj)) (cls : Value) (d : Option Addr) (x : Exc), X = X0.suite a ((a, oe) :: pn) ∧ Zc cls d oe ∧ (∃ vs, oe.data = .fields vs) ∧ L.xh = some x ∧
    ∀ σ F, ct.inv σ F → (∀ i, io = some i → σ[i]? = some (some (.ref a))) ∧ RX X.K ct F [] x cls d
structure Good (ct : Ct) (L : Lm) (k : Nat) (c : Sc) (X : Cx) : Prop where
  N : X.N = c.N
  sc : X.env.scope = c.sc
  un : X.A.units + 64 < cLine
  room : c.hot = none → Room (k + 2) X.A
  calm : c.hot = none → X.calm = true
  cool : c.hot = none → ∀ σ F, ct.inv σ F
  bear : ∀ j, mayW c j = true → ct.Bears j
  hx : ∀ io, c.hot = some io → HotX ct L io X
  xs : XsOk X.prog X.K X.mg ct L.xs
  nd : X.N.Nodup
  gl : ∀ x ∈ c.gls, ∃ w v u, L.gl x = some w ∧ X.mg x = some u ∧ RelV v u ∧ ∀ F μ, RV X.K F μ w v
  fn : c.hot = none → ∀ f ∈ c.fns, FnC X.prog X.w X.K X.mg X.base ct k f.2 f.1 (L.fn f.1)
  bs : ∀ x ∈ c.bs, X.mg x = none
  fnn : X.fn = c.fn
  xn : ∀ x ∈ c.xn, ∃ cv, X.mg x = some cv ∨ (X.mg x = none ∧ bootBuiltins x = some cv)
  top : c.top = true → X.stack = X.env :: X.outer ∧ X.env.frame = some X.env.locals
  gen : c.gen = true → ∃ cd P, X.env.code = .ref cd ∧ GxR.TabB X.base X.mg cd P ∧ P ∈ ct.tps
  sg : ∀ p ∈ c.sgn, SignF X.K X.mg p.1 p.2

theorem plain_star {e : Expr} (h : plainE e = true) (es : List Expr) (env : Env) : starEach (e :: es) env = (false, eval e env) :: starEach es env := by
  cases e <;> first | rfl | (simp [plainE] at h)
theorem plain_ix {e : Expr} (h : plainE e = true) : PlainIx e := by
  cases e <;> first | (exact fun _ _ => rfl) | (simp [plainE] at h)
theorem plain_marks {e : Expr} (h : plainE e = true) (op : CmpOp) : behindInMarks op e = false := by
  cases e <;> first | rfl | (simp [plainE] at h)
theorem plain_fold {e : Expr} (h : plainE e = true) (env : Env) (x : Value) : foldedSetIterable e env x = pure x := by
  cases e <;> first | rfl | (simp [plainE] at h)
theorem plain_tru {e : Expr} (h : plainE e = true) (h2 : plainOp e = true) (env : Env) (whole : Sem Value) : isTrue e env whole = (do let v ← whole; standAt e.pos; holding [v] (truthy v)) := by
  cases e <;> first | rfl | (simp [plainOp] at h2; done) | (rename_i op x p; cases op <;> first | rfl | (simp [plainOp] at h2))
theorem base_ok {e : Expr} (h : baseE e = true) (n : Str) (env : Env) : attributeBase e n env (eval e env) = eval e env := by
  cases e with
  | Call f as ks pos =>
    cases f <;> first | rfl | skip
    cases as <;> first | rfl | skip
    cases ks <;> first | rfl | skip
    simp [baseE] at h
  | _ => rfl
theorem back_any {pos : Pos} {env : Env} : ∀ {es : List Expr}, (∀ e ∈ es, plainE e = true) → (backTo pos (starEach es env)).any (·.1) = false
  | [], _ => rfl
  | e :: es, h => by
    rw [plain_star (h e List.mem_cons_self)]
    show (false || (backTo pos (starEach es env)).any (·.1)) = false
    rw [back_any fun x hx => h x (List.mem_cons_of_mem _ hx)]
    rfl
theorem back_all {pos : Pos} {env : Env} : ∀ {es : List Expr}, (∀ e ∈ es, plainE e = true) → (backTo pos (starEach es env)).all (fun x => !x.1) = true
  | [], _ => rfl
  | e :: es, h => by
    rw [plain_star (h e List.mem_cons_self)]
    show (!false && (backTo pos (starEach es env)).all (fun x => !x.1)) = true
    rw [back_all fun x hx => h x (List.mem_cons_of_mem _ hx)]
    rfl
theorem okName_d {x : Str} (h : okName x = true) : (x == ("__debug__" : Str)) = false ∧ (x == ("__classdict__" : Str)) = false := by
  simp only [okName, Bool.and_eq_true, Bool.not_eq_true'] at h
  exact h
theorem isB_d {c : Sc} {x : Str} (h : isB c x = true) : c.sc.names.lookup x = some .globalImplicit ∧ x ∈ c.bs ∧ (x == ("__debug__" : Str)) = false ∧ x ≠ "__name__" := by
  simp only [isB, isGl, Bool.and_eq_true, Bool.not_eq_true', decide_eq_true_eq] at h
  exact ⟨h.1.1.1, h.1.1.2, h.1.2, fun e => by rw [e] at h; simp at h⟩

section
variable {ct : Ct} {L : Lm} {k : Nat} {c : Sc} {X : Cx} {W : WX}
theorem Good.gl' (G : Good ct L k c X) {x : Str} (h : c.sc.names.lookup x = some .globalImplicit) : Gl X x := by
  show X.env.scope.names.lookup x = _
  rw [G.sc]; exact h
theorem Good.blk (G : Good ct L k c X) (hc : c.hot = none) (scope : Scope) (s : Shared) (H : Hp) (C : Addr) (cl : List (Str × Addr)) (fp : List Addr) : Good ct L k (blkSc c scope) (X.blk s H scope (compEnvC scope cl C X.env) fp) := by
  refine ⟨G.N, ?_, G.un, fun _ => G.room hc, fun _ => G.calm hc, fun _ => G.cool hc, G.bear, fun io h => (by rw [show (blkSc c scope).hot = c.hot from rfl, hc] at h; cases h), G.xs, G.nd, G.gl, G.fn, G.bs, rfl, G.xn, fun h => (by cases h), fun h => (by cases h), G.sg⟩
  show relS scope X.env.scope = relS scope c.sc
  rw [G.sc]
theorem Good.one (G : Good ct L k c X) {i : Nat} {x : Str} (h1 : c.N[i]? = some x) (h2 : ownN c x = true) : X.N[i]? = some x ∧ Loc X.env.scope x ∧ (X.fn x = true ∨ X.env.scope.names.lookup x = some .local) := by
  rw [← G.N] at h1
  unfold ownN at h2
  rw [← G.sc, ← G.fnn] at h2
  split at h2
  · rename_i e
    exact ⟨h1, .inl e, .inr e⟩
  · rename_i e
    exact ⟨h1, .inr e, .inl h2⟩
  · cases h2
theorem cold_h {c : Sc} (h : cold c = true) : c.hot = none := by
  unfold cold at h
  exact Option.isNone_iff_eq_none.mp h
theorem cold_w {c : Sc} (h : c.hot = none) (j : Nat) : mayW c j = true := by unfold mayW; rw [h]
theorem Good.bears (G : Good ct L k c X) (h : c.hot = none) (vs : List Nat) : ∀ j ∈ vs, ct.Bears j := fun j _ => G.bear j (cold_w h j)
theorem tgOk_bears (G : Good ct L k c X) {tg : Tg} {e : Expr} (h : tgOk c tg e = true) : ∀ j ∈ tgIx tg, ct.Bears j := by
  intro j hj
  unfold tgOk at h
  split at h
  · simp only [Bool.and_eq_true] at h
    rw [List.mem_singleton.mp hj]
    exact G.bear _ h.2
  · simp only [Bool.and_eq_true] at h
    exact G.bear j (cold_w (cold_h h.1.1) j)
  · cases h
theorem sim_tg (G : Good ct L k c X) {tg : Tg} {e : Expr} (h : tgOk c tg e = true) : PG X e (gSet X.K tg) := by
  have one : ∀ {i : Nat} {x : Str}, c.N[i]? = some x → ownN c x = true → X.N[i]? = some x ∧ Loc X.env.scope x ∧ (X.fn x = true ∨ X.env.scope.names.lookup x = some .local) := fun {i x} h1 h2 => G.one h1 h2
  unfold tgOk at h
  split at h
  · simp only [Bool.and_eq_true, decide_eq_true_eq] at h
    obtain ⟨h1, h2, h3⟩ := one h.1.1 h.1.2
    exact sim_tgName G.nd h1 h2 h3
  · rename_i is es _ _
    simp only [Bool.and_eq_true, decide_eq_true_eq] at h
    obtain ⟨⟨hcold, hl⟩, ha⟩ := h
    have gen : ∀ (is : List Nat) (es : List Expr), es.length = is.length → ((is.zip es).all fun p => match p.2 with
      | .Name x _ => decide (c.N[p.1]? = some x) && ownN c x
      | _ => false) = true → PGs X es (gSeqs is) ∧ (assignEach es X.env).length = is.length ∧ (assignEach es X.env).findIdx? (·.1) = none ∧ ∀ p ∈ assignEach es X.env, p.1 = false := by
      intro is
      induction is with
      | nil =>
        intro es hl _
        cases es with
        | nil => exact ⟨pgs_nil, rfl, rfl, fun p hp => by cases hp⟩
        | cons e es => simp at hl
      | cons i is ih =>
        intro es hl ha
        cases es with
        | nil => simp at hl
        | cons e es =>
          simp only [List.zip_cons_cons, List.all_cons, Bool.and_eq_true] at ha
          obtain ⟨g1, g2, g3, g4⟩ := ih es (by simpa using hl) ha.2
          cases e with
          | Name x p =>
            have h0 := ha.1
            simp only [Bool.and_eq_true, decide_eq_true_eq] at h0
            obtain ⟨h1, h2, h3⟩ := one h0.1 h0.2
            have q : ∀ r ∈ assignEach (.Name x p :: es) X.env, r.1 = false := fun r hr => by
              have hr' : r ∈ (false, assign (.Name x p) X.env) :: assignEach es X.env := hr
              rcases List.mem_cons.mp hr' with rfl | hr'
              · rfl
              · exact g4 r hr'
            refine ⟨pgs_cons (pg_name G.nd h1 h2 h3) g1 rfl, ?_, ?_, q⟩
            · show (assignEach es X.env).length + 1 = is.length + 1
              rw [g2]
            · exact List.findIdx?_eq_none_iff.mpr q
          | _ => simp at ha
    obtain ⟨g1, g2, g3, _⟩ := gen is es hl ha
    exact sim_tgTup (G.calm (cold_h hcold)) g1 g2 g3
  · cases h

/-- a word of the syntax means what the text does -/
structure Sim (ct : Ct) (L : Lm) (k : Nat) (d : Den) (ck : Chk) : Prop where
  e : ∀ (c : Sc) (X : Cx) (W : WX) (ex : Expr), Good ct L k c X → Takes X W → ck.e c ex = true → plainE ex = true ∧ PE X ex (TE' X ct W d.e)
  t : ∀ (c : Sc) (X : Cx) (W : WX) (ex : Expr), Good ct L k c X → Takes X W → ck.t c ex = true → PT X ex (TT' X ct W d.t)
  l : ∀ (c : Sc) (X : Cx) (W : WX) (es : List Expr), Good ct L k c X → Takes X W → ck.l c es = true → (∀ e ∈ es, plainE e = true) ∧ PA X es (TA' X ct W d.l) ∧ ∀ env st ws st', d.l env st = .ok ws st' → ws.length = es.length
  z : ∀ (c : Sc) (es : List Expr), ck.l c es = true ∨ ck.lt c es = true → d.z = es.isEmpty
  an : ∀ (c : Sc) (X : Cx) (W : WX) (e : Expr) (es : List Expr) (pos : Pos), Good ct L k c X → Takes X W → ck.l c (e :: es) = true → PE X (.BoolOp .And (e :: es) pos) (TE' X ct W d.an)
  or : ∀ (c : Sc) (X : Cx) (W : WX) (e : Expr) (es : List Expr) (pos : Pos), Good ct L k c X → Takes X W → ck.l c (e :: es) = true → PE X (.BoolOp .Or (e :: es) pos) (TE' X ct W d.or)
  ta : ∀ (c : Sc) (X : Cx) (W : WX) (e : Expr) (es : List Expr) (pos : Pos), Good ct L k c X → Takes X W → ck.lt c (e :: es) = true → PW X (.BoolOp .And (e :: es) pos) (TT' X ct W d.ta)
  to : ∀ (c : Sc) (X : Cx) (W : WX) (e : Expr) (es : List Expr) (pos : Pos), Good ct L k c X → Takes X W → ck.lt c (e :: es) = true → PW X (.BoolOp .Or (e :: es) pos) (TT' X ct W d.to)
  p : ∀ (c : Sc) (X : Cx) (W : WX) (o : Option Expr), Good ct L k c X → Takes X W → ck.p c o = true → PO X o (TOf X.K ct W RO' d.p)
  c : ∀ (c : Sc) (X : Cx) (W : WX) (es : List Expr), Good ct L k c X → Takes X W → ck.c c es = true → PTs X es (TT' X ct W d.t)
  i : ∀ (c : Sc) (X : Cx) (W : WX) (tg ex : Expr), Good ct L k c X → Takes X W → ck.i c tg ex = true → PI X tg ex (TI' X ct W d.i)
/-- a word that is an expression -/
theorem Sim.ofE {f : Sc → Expr → Bool} {m : Mx Va} (h : ∀ (c : Sc) (X : Cx) (W : WX) (ex : Expr), Good ct L k c X → Takes X W → f c ex = true → PE X ex (TE' X ct W m)) : Sim ct L k (mke m) (ckE f) where
  e := fun c X W ex G tk q => by
    simp only [ckE, Bool.and_eq_true] at q
    exact ⟨q.1, h c X W ex G tk q.2⟩
  t := fun c X W ex G tk q => by
    simp only [ckE, Bool.and_eq_true] at q
    exact sim_tru (h c X W ex G tk q.2) fun wh => plain_tru q.1.1 q.1.2 _ wh
  l := fun _ _ _ _ _ _ q => by cases q
  z := fun _ _ q => by rcases q with q | q <;> cases q
  an := fun _ _ _ _ _ _ _ _ q => by cases q
  or := fun _ _ _ _ _ _ _ _ q => by cases q
  ta := fun _ _ _ _ _ _ _ _ q => by cases q
  to := fun _ _ _ _ _ _ _ _ q => by cases q
  p := fun c X W o G tk q => by
    cases o with
    | none => cases q
    | some ex =>
      simp only [ckE, Bool.and_eq_true] at q
      exact sim_some (h c X W ex G tk q.2)
  c := fun c X W es G tk q => by
    match es, q with
    | [ex], q =>
      simp only [ckE, Bool.and_eq_true] at q
      exact pts_one (sim_tru (h c X W ex G tk q.2) fun wh => plain_tru q.1.1 q.1.2 _ wh)
  i := fun c X W tg ex G tk q => by
    simp only [ckE, Bool.and_eq_true] at q
    exact sim_it (h c X W ex G tk q.2)
theorem Sim.ofT {f g : Sc → Expr → Bool} {m : Mx Va} {mt : Mx Bool} (h : ∀ (c : Sc) (X : Cx) (W : WX) (ex : Expr), Good ct L k c X → Takes X W → f c ex = true → PE X ex (TE' X ct W m))
    (h2 : ∀ (c : Sc) (X : Cx) (W : WX) (ex : Expr), Good ct L k c X → Takes X W → g c ex = true → PT X ex (TT' X ct W mt)) : Sim ct L k (G.mk m mt) (ckT f g) where
  e := fun c X W ex G tk q => by
    simp only [ckT, Bool.and_eq_true] at q
    exact ⟨q.1, h c X W ex G tk q.2⟩
  t := fun c X W ex G tk q => by
    simp only [ckT, Bool.and_eq_true] at q
    exact h2 c X W ex G tk q.2
  l := fun _ _ _ _ _ _ q => by cases q
  z := fun _ _ q => by rcases q with q | q <;> cases q
  an := fun _ _ _ _ _ _ _ _ q => by cases q
  or := fun _ _ _ _ _ _ _ _ q => by cases q
  ta := fun _ _ _ _ _ _ _ _ q => by cases q
  to := fun _ _ _ _ _ _ _ _ q => by cases q
  p := fun c X W o G tk q => by
    cases o with
    | none => cases q
    | some ex =>
      simp only [ckT, Bool.and_eq_true] at q
      exact sim_some (h c X W ex G tk q.2)
  c := fun c X W es G tk q => by
    match es, q with
    | [ex], q =>
      simp only [ckT, Bool.and_eq_true] at q
      exact pts_one (h2 c X W ex G tk q.2)
  i := fun c X W tg ex G tk q => by
    simp only [ckT, Bool.and_eq_true] at q
    exact sim_it (h c X W ex G tk q.2)
theorem Sim.ofI {f : Sc → Expr → Expr → Bool} {m : Mx (List Va × Gd)} (h : ∀ (c : Sc) (X : Cx) (W : WX) (tg ex : Expr), Good ct L k c X → Takes X W → f c tg ex = true → PI X tg ex (TI' X ct W m)) :
    Sim ct L k (mkI m) ⟨fun _ _ => false, fun _ _ => false, fun _ _ => false, fun _ _ => false, fun _ _ => false, fun _ _ => false, f⟩ where
  e := fun _ _ _ _ _ _ q => by cases q
  t := fun _ _ _ _ _ _ q => by cases q
  l := fun _ _ _ _ _ _ q => by cases q
  z := fun _ _ q => by rcases q with q | q <;> cases q
  an := fun _ _ _ _ _ _ _ _ q => by cases q
  or := fun _ _ _ _ _ _ _ _ q => by cases q
  ta := fun _ _ _ _ _ _ _ _ q => by cases q
  to := fun _ _ _ _ _ _ _ _ q => by cases q
  p := fun _ _ _ _ _ _ q => by cases q
  c := fun _ _ _ _ _ _ q => by cases q
  i := h
end
end G

set_option Elab.async false
set_option linter.all false
set_option maxRecDepth 100000
set_option maxHeartbeats 4000000
/-! isinstance of a caught error of an own class, with a dict or without -/
namespace G
open PySem PySem.Spec PySem.Calls PyProof.Rows PySem.W L2
section
variable {prog : Program} {w : World} {A : Around} {E : Value → Shared → Prop} {s : Shared} {K : Frag} {x D : Addr} {ox : Obj} {od : Option Obj}
theorem findD {C : Addr} {name : Str} {a g : Value} (c : (clsIn K C).isSome = true) (fa : findIn K (.ref C) name = some (some a)) (sg : specialIn K a "__get__" = some (some g)) (tk : takesIn K a = some true) : findObj K C od name = some (.bind g a) := by
  obtain ⟨cd, c⟩ := Option.isSome_iff_exists.mp c
  unfold findObj; rw [c, Option.bind_some, fa, Option.bind_some]; simp [sg, tk]
theorem cls_getD {Q : Option Value → Shared → Prop} (B : ExcC K D) (X : K.In s.heap) (I : InstAt s.heap x ox D od) (h : Q (some (.ref D)) { s with toks := s.toks + 1 }) : wpAny (model prog w) A (getAttr? (.ref x) "__class__") Q E s := by
  have ff : findObj K D od "__class__" = some (.bind (.builtin "getset_descriptor.__get__") (.builtin "object.__class__")) := findD (by obtain ⟨cd, c, _⟩ := any_some B.hd; rw [c]; rfl) B.ha B.hn B.ht
  obtain ⟨hp, g, d, t, os⟩ := s
  have l0 := I.type (M := model prog w); have l1 := looks_findIn (M := model prog w) X B.hg
  have l2 := looks_findIn (M := model prog w) X B.hk; have l3 := looks_find (M := model prog w) X I ff
  have isB : Looks (model prog w) hp (isInstance (.ref x) (.type "BaseException")) true := l0.andThen (looks_subIn X B.hs)
  have n0 : (false && onTheHeap (Value.builtin "BaseException.__getattribute__")) = false := rfl
  have n2 : (Value.builtin "BaseException.__getattribute__" == Value.builtin "object.__getattribute__") = false := by decide +kernel
  have n1 : (onTheHeap (Value.ref D) && Value.builtin "BaseException.__getattribute__" == Value.builtin "object.__getattribute__") = false := by rw [n2]; rfl
  unfold getAttr? getAttrBy? getAttrBy; refine wpAny_bind (wpAny_mkText (wpAny_bind (wpAny_attempt (wpAny_holding (wpAny_bind (l0.at (wpAny_bind (l1.at ?_))))))))
  show wpAny _ _ (if (onTheHeap (Value.ref D) && Value.builtin "BaseException.__getattribute__" == Value.builtin "object.__getattribute__") = true then _ else _) _ _ _; rw [n1, if_neg Bool.false_ne_true]
  unfold getAttrByItsOwn hookBefore; refine wpAny_bind ?_; rw [if_pos (show onTheHeap (Value.ref D) = true from rfl)]
  refine l2.at ?_; refine wpAny_bind (wpAny_attempt (wpAny_holding ?_)); unfold callGetattribute; rw [n0, if_neg Bool.false_ne_true]
  unfold boundAndCalled; rw [PySem.F.excAttr_ValueError.ga.bind (.ref x)]; refine wpAny_bind (wpAny_pure ?_)
  show wpAny _ _ (call (.builtin "BaseException.__getattribute__") [.ref x, .str "__class__" t]) _ _ _; refine wpAny_call (codeAny_call_builtin PySem.F.excAttr_ValueError.ga.plain PySem.F.entry_bexc_ga ?_)
  refine @check_slot (model prog w) _ _ ⟨hp, g, d, t + 1, os⟩ "BaseException.__getattribute__" "BaseException" "__getattribute__" (.ref x) [.str "__class__" t] [] _ (by decide +kernel) (by decide +kernel) isB (PySem.F.args_bexc_ga (.ref x) (.str "__class__" t)) ?_
  unfold Builtin.«object.__getattribute__»; refine wpAny_bind (wpAny_of_eq (a := ((Value.ref x : Value), [Value.str "__class__" t])) (by first | rfl | (simp only [slotArgs]; rfl)) ?_)
  refine wpAny_bind (wpAny_pure (wpAny_bind (l0.at (wpAny_bind (l3.at ?_)))))
  show wpAny _ _ (holding [Value.builtin "object.__class__"] (call (.builtin "getset_descriptor.__get__") [.builtin "object.__class__", .ref x, .ref D]) >>= ret) _ _ _; refine wpAny_bind (wpAny_holding (wpAny_call (class_get (s := ⟨hp, g, d, t + 1, os⟩) (ox := ox) (od := od) X I B.hm ?_)))
  refine wpAny_pure ?_; show wpAny _ _ (handedOut (.ref D)) _ _ _; rw [handedOut_of (v := .ref D) rfl]
  first | exact wpAny_pure (wpAny_pure h) | exact wpAny_pure h | exact wpAny_pure (wpAny_bind (wpAny_pure (wpAny_pure h)))
theorem kitD (B : ExcC K D) : KitX K (.ref x) (.ref D) (fun h => InstAt h x ox D od) := by
  obtain ⟨cdD, cD, _⟩ := any_some B.hd
  unfold clsIn at cD; split at cD
  · rename_i c' d' cd' sl' ho
    refine ⟨fun _ _ _ I => I.type, fun _ _ X _ => ?_, fun h tp dd its n sl X htp => ?_, fun X I k => cls_getD B X I k⟩
    · intro A' Q' E' s' k q
      unfold isType loadHead; exact wpAny_bind (wpAny_loadPart (k _ _ (X _ _ ho)) (wpAny_pure q))
    · refine Bool.eq_false_iff.mpr fun q => ?_
      have e : D = tp := Value.ref.inj (beq_iff_eq.mp q)
      subst e
      cases (X _ _ ho).symm.trans htp
  · cases cD
end
/-- isinstance(e, c), e the exception that the suite holds -/
def rIsD (K : PySem.W.Frag) (D a : Addr) (d : Option Addr) : List V → Hp → VK → Prop := fun xs H Q => ∃ (c : V) (cv : Value) (b : Bool), xs = [.ref a, c] ∧ (∀ u, RelV c u → u = cv) ∧ PySem.W.kitOne K (.ref D) cv = some b ∧ (d = none ∨ ∃ dd fs, d = some dd ∧ H dd = some (.xd fs)) ∧ Q (.bl b) H
theorem call_isD {X : Cx} {a D : Addr} {d : Option Addr} {oe : Obj} {pn : List (Addr × Obj)} (C : ExcC X.K D) (hz : Zc (.ref D) d oe) (hf : ∃ vs, oe.data = .fields vs) : CallR (X.suite a ((a, oe) :: pn)) (.builtin "isinstance") (rIsD X.K D a d) := by
  intro pins s σ H xs us Q I r h
  obtain ⟨c, cv, b, rfl, hcv, e, hd, q⟩ := h
  cases r with
  | cons rx rr =>
    cases rr with
    | cons rt rr =>
      cases rr
      cases rx
      have ec := hcv _ rt
      subst ec
      obtain ⟨hget, _⟩ := I.pin (a, oe) (List.mem_append.mpr (.inl List.mem_cons_self))
      obtain ⟨vs, hv⟩ := hf
      have J : ∃ od, PySem.W.InstAt s.heap a oe D od := by
        rcases hd with rfl | ⟨dd, fs, rfl, hx⟩
        · obtain ⟨oc, od, oda, osl⟩ := oe
          obtain ⟨h1, h2⟩ := hz
          dsimp only at h1 h2 hv
          subst h1 h2 hv
          exact ⟨none, hget, rfl, rfl, trivial⟩
        · have hx' : ObjOk X.prog X.w H s.heap dd (.xd fs) := I.hok dd _ hx
          obtain ⟨mA, hns, hr⟩ := hx'
          obtain ⟨od, ho, hl⟩ := lookIn_ns hns
          exact ⟨some od, hget, hz.1, by unfold PySem.W.notCls; rw [hv] <;> rfl, by rw [hz.2]; exact ho⟩
      obtain ⟨od, J⟩ := J
      exact PySem.W.kia_one (kitD C) I.kIn J e (fun z => nomatch z) fun tk => ⟨.bl b, H, I.kept (t' := tk) fun _ _ z => z, rfl, q⟩
end G

set_option Elab.async false
set_option linter.all false
set_option maxRecDepth 100000
set_option maxHeartbeats 8000000
namespace G
open PySem PySem.Spec PyProof.Rows L2

section
variable {ct : Ct} {L : Lm} {k : Nat} {c : Sc} {X : Cx} {W : WX}
theorem op_bop (op : BOp) (m : Bool) : OpR X (binaryOp (bopS op)) (opOf X.K ct W (bopV op m)) := by
  cases op
  · exact op_addV m
  · exact op_subV
  · exact op_mulV m
  · exact op_fdivV
  · exact op_modV
  · exact op_powV
theorem op_cop (hr : X.A.units + 64 < cLine) (op : COp) : OpR X (compareOp (copS op)) (opOf X.K ct W (copV op)) := by
  cases op
  · exact op_eqV' hr
  · exact op_neV' hr
  · exact op_ltV
  · exact op_leV
  · exact op_gtV
  · exact op_geV
  · exact op_inV hr
  · exact op_notInV hr
  · exact op_isNV
  · exact op_notNV
theorem genB_ok {env : Env} {x f : Str} {s : Scope} (h : genB x f s = true) : GxR.GenS env s x ∧ s.names.lookup f = some .globalImplicit ∧ (x == ("__debug__" : Str)) = false ∧ (f == ("__debug__" : Str)) = false := by
  unfold genB at h
  simp only [Bool.and_eq_true, decide_eq_true_eq, Bool.not_eq_true', List.all_eq_true] at h
  obtain ⟨h1, h2, h3, h4, h5, h6, h7, h8⟩ := h
  exact ⟨⟨h1, h2, fun y hy => (h3 y hy).1, h4, h5, fun y hy e => absurd e (h3 y hy).2⟩, h6, (okName_d h7).1, (okName_d h8).1⟩
theorem elt_ok {f x : Str} {gs : Tx} {s : Scope} {p1 p2 pos : Pos} {j : Nat} (hr : Room j X.A) (sg : SignF X.K X.mg f gs) (h : genB x f s = true) (ok : X.Ok) : EltQ X s x (.Call (.Name f p1) [.Name x p2] [] pos) (sgV gs) := by
  obtain ⟨g1, g2, g3, g4⟩ := genB_ok (env := X.env) h
  intro ce A' E' c t u m e1 e2 hA hd hb hn hm
  exact elt_sign sg ok.mod.kin ok.mod.glob ok.mod.nolimit g1.kind g1.loc g2 g4 g3 e1 (e2.trans ok.glob) hA (by have := hr.dp; omega) hb hn hm
theorem mt_any (hu : X.A.units + 64 < cLine) (kd : Mth) : ∃ id, MtR X id (mOf X.K ct W (mthV kd)) ∧ PlainAttrs (mthT kd) ∧ Slot (mthT kd) (mthN kd) id ∧ typeOf (.builtin id) = pure (.type "method_descriptor") := by
  cases kd
  · exact ⟨_, mt_appendV, PySem.F.plainAttrs_list, PySem.F.slot_list_append, PySem.F.type_list_append⟩
  · exact ⟨_, mt_extendV, PySem.F.plainAttrs_list, PySem.F.slot_list_extend, PySem.F.type_list_extend⟩
  · exact ⟨_, mt_popV, PySem.F.plainAttrs_list, PySem.F.slot_list_pop, PySem.F.type_list_pop⟩
  · exact ⟨_, mt_insertV, PySem.F.plainAttrs_list, PySem.F.slot_list_insert, PySem.F.type_list_insert⟩
  · exact ⟨_, mt_joinV, PySem.F.plainAttrs_str, PySem.F.slot_str_join, PySem.F.type_str_join⟩
  · exact ⟨_, mt_findV, PySem.F.plainAttrs_str, PySem.F.slot_str_find, PySem.F.type_str_find⟩
  · exact ⟨_, mt_lstripV, PySem.F.plainAttrs_str, PySem.F.slot_str_lstrip, PySem.F.type_str_lstrip⟩
  · exact ⟨_, mt_isalnumV, PySem.F.plainAttrs_str, PySem.F.slot_str_isalnum, PySem.F.type_str_isalnum⟩
  · exact ⟨_, mt_isdigitV, PySem.F.plainAttrs_str, PySem.F.slot_str_isdigit, PySem.F.type_str_isdigit⟩
  · exact ⟨_, mt_getV hu, PySem.F.plainAttrs_dict, PySem.F.slot_dict_get, PySem.F.type_dict_get⟩
  · exact ⟨_, mt_splitV, PySem.F.plainAttrs_str, PySem.F.slot_str_split, PySem.F.type_str_split⟩
  · exact ⟨_, mt_setdV, PySem.F.plainAttrs_dict, PySem.F.slot_dict_setdefault, PySem.F.type_dict_setdefault⟩
  · exact ⟨_, mt_indexV, PySem.F.plainAttrs_list, PySem.F.slot_list_index, PySem.F.type_list_index⟩
theorem tyB_ok {K : PySem.W.Frag} {F : Hp} {μ : List Addr} {H : Hp} {st : Sto} {T : String} {x : Va} {v : V} (r : Rel K ct F μ st H) (rv : RV K F μ x v) (h : tyB T x st = true) : tyV K T v H := by
  unfold tyB at h
  split at h
  · rename_i e
    subst e
    obtain ⟨l, el⟩ := Option.isSome_iff_exists.mp h
    obtain ⟨a, vs, rfl, hq, _⟩ := lstOf_ok r rv el
    exact .inl ⟨rfl, _, .of hq⟩
  split at h
  · rename_i e
    subst e
    obtain ⟨l, el⟩ := Option.isSome_iff_exists.mp h
    rw [strOf_ok rv el]
    rfl
  split at h
  · rename_i e
    subst e
    obtain ⟨⟨ks, l⟩, el⟩ := Option.isSome_iff_exists.mp h
    obtain ⟨a, kvs, rfl, hq, _⟩ := dicOf_ok r rv el
    exact .inr (.inr (.inl ⟨rfl, .inl ⟨_, hq⟩⟩))
  · cases h
theorem own_snd (c : Sc) (vs : List Nat) : (ownOf c vs).map (·.2) = vs := by
  unfold ownOf
  rw [List.map_map]
  conv => rhs; rw [← List.map_id vs]
  rfl
theorem bif_ok (b : Bif) (m : Bool) : (∃ id, CallR X (.builtin id) (cOf X.K ct W (bifV b m)) ∧ bootBuiltins (bifN b) = some (.builtin id)) ∨ ∃ t, CallR X (.type t) (cOf X.K ct W (bifV b m)) ∧ bootBuiltins (bifN b) = some (.type t) := by
  cases b
  · exact .inl ⟨_, call_lenV, by decide +kernel⟩
  · exact .inr ⟨_, call_listV m, by decide +kernel⟩
  · exact .inr ⟨_, call_tupleV, by decide +kernel⟩
  · exact .inr ⟨_, call_strV, by decide +kernel⟩
  · exact .inr ⟨_, call_toIntV, by decide +kernel⟩
theorem loc_of (G : Good ct L k c X) {x : Str} (h : isLoc c x = true) : (X.env.scope.names.lookup x = some .local ∨ X.env.scope.names.lookup x = some .cell) ∨ X.env.scope.names.lookup x = some .free := by
  unfold isLoc at h
  rw [← G.sc] at h
  split at h
  · rename_i e; exact .inl (.inl e)
  · rename_i e; exact .inl (.inr e)
  · rename_i e; exact .inr e
  · cases h
theorem call_mm (hc : X.calm = true) (mx : Bool) : CallR X (.builtin (if mx then "max" else "min")) (cOf X.K ct W (mmV mx)) := by
  intro pins s σ H xs us Q I r h
  obtain ⟨F, μ, st, ws, σ', rl, rs, p⟩ := h
  unfold mmV at p
  split at p
  · rename_i i j
    cases rs with
    | cons r1 rr =>
      cases rr with
      | cons r2 rr =>
        cases rr
        cases r1
        cases r2
        cases mx with
        | true => exact call_max2 hc pins s σ H _ us Q I r ⟨i, j, rfl, p.here rl (.int _)⟩
        | false => exact call_min2 hc pins s σ H _ us Q I r ⟨i, j, rfl, p.here rl (.int _)⟩
  · rename_i i j k
    cases rs with
    | cons r1 rr =>
      cases rr with
      | cons r2 rr =>
        cases rr with
        | cons r3 rr =>
          cases rr
          cases r1
          cases r2
          cases r3
          cases mx with
          | true =>
            refine call_max3Nu hc pins s σ H _ us Q I r ⟨.int i, .int j, .int k, _, rfl, ?_, p.here rl (.int _)⟩
            by_cases h1 : i < j <;> simp [nuMax3, nuMax2, nuLt, nuCB, h1] <;> split <;> rfl
          | false =>
            refine call_min3Nu hc pins s σ H _ us Q I r ⟨.int i, .int j, .int k, _, rfl, ?_, p.here rl (.int _)⟩
            by_cases h1 : j < i <;> simp [nuMin3, nuMin2, nuLt, nuCB, h1] <;> split <;> rfl
  · exact p.elim
theorem ct_inj {ct : Ct} {z : Tx} {C D : Addr} (h1 : ct.tab z = some C) (h2 : ct.tab z = some D) : C = D := Option.some.inj (h1.symm.trans h2)
theorem sim_xf (G : Good ct L k c X) {i : Nat} {x f : Str} {p pos : Pos} (h1 : c.N[i]? = some x) (h2 : isLoc c x = true) (h3 : okName x = true) (h4 : c.hot = some (some i)) : PE X (.Attribute (.Name x p) f pos) (TE' X ct W (xfV L f)) := by
  obtain ⟨X0, a, oe, pn, cls, d, y, rfl, hz, hf, hL, hinv⟩ := (G.hx _ h4).ex
  obtain ⟨d1, d2⟩ := okName_d h3
  have hv : Vis (X0.suite a ((a, oe) :: pn)).env.scope x := by
    rcases loc_of G h2 with (q | q) | q
    · exact .inl q
    · exact .inr (.inl q)
    · exact .inr (.inr q)
  have he := pe_var (X := X0.suite a ((a, oe) :: pn)) (i := i) (pos := p) (by rw [G.N]; exact h1) hv d1 d2
  by_cases hfl : L.xs.fld y.cls f = true
  · obtain ⟨C, e1, e2⟩ := G.xs.fld _ _ hfl
    have B := G.xs.cls _ _ e1
    refine PE.mono (pe_xf (C := C) (d := d) (cls := cls) ⟨B.hg, B.hk, B.hs, B.hd⟩ e2 hz hf he) fun σ H Q ⟨F, μ, env, st, r, re, q⟩ => ?_
    obtain ⟨g1, g2⟩ := hinv σ F re.inv
    refine ⟨_, g1 i rfl, rfl, ?_⟩
    obtain ⟨C', e3, e4⟩ := g2.cls
    have e5 := ct_inj e3 e1
    subst e5
    unfold xfV at q
    rw [hL] at q
    simp only [hfl, if_true] at q
    cases el : y.fs.lookup f.cps.toList with
    | none => rw [el] at q; exact q.elim
    | some w =>
      rw [el] at q
      obtain ⟨d', fvs, v, a1, a2, a3, a4⟩ := g2.fs _ _ el
      rw [mkS_tl] at a3
      exact ⟨e4, d', fvs, v, a1, r.sub _ _ a2, a3, q.here r (a4.mono (fun _ _ h => h) List.nil_prefix)⟩
  · refine ⟨fun pins s σ H Q I ⟨F, μ, env, st, r, re, q⟩ => ?_⟩
    unfold xfV at q
    rw [hL] at q
    simp only [hfl, if_false] at q
    exact q.elim
theorem sim_xi (G : Good ct L k c X) {i : Nat} {y z : Str} {p p2 p3 pos : Pos} (h1 : isB c "isinstance" = true) (h2 : c.N[i]? = some y) (h3 : isLoc c y = true) (h4 : okName y = true) (h5 : c.hot = some (some i)) (h6 : isGl c z = true) (h7 : okName z = true) (h8 : (z == ("__name__" : Str)) = false) : PE X (.Call (.Name "isinstance" p) [.Name y p2, .Name z p3] [] pos) (TE' X ct W (xiV L z)) := by
  obtain ⟨X0, a, oe, pn, cls, d, x, rfl, hz, hf, hL, hinv⟩ := (G.hx _ h5).ex
  obtain ⟨d1, d2⟩ := okName_d h4
  obtain ⟨b1, b2, b3, b4⟩ := isB_d h1
  obtain ⟨d3, d4⟩ := okName_d h7
  have hv : Vis (X0.suite a ((a, oe) :: pn)).env.scope y := by
    rcases loc_of G h3 with (q | q) | q
    · exact .inl q
    · exact .inr (.inl q)
    · exact .inr (.inr q)
  have he := pe_var (X := X0.suite a ((a, oe) :: pn)) (i := i) (pos := p2) (by rw [G.N]; exact h2) hv d1 d2
  have hgz : Gl (X0.suite a ((a, oe) :: pn)) z := G.gl' (by simpa [isGl] using h6)
  have hn : z ≠ "__name__" := fun e => by rw [e] at h8; simp at h8
  cases es : L.xs.sub x.cls z with
  | none =>
    refine ⟨fun pins s σ H Q I ⟨F, μ, env, st, r, re, q⟩ => ?_⟩
    unfold xiV at q
    rw [hL] at q
    simp only [es] at q
    exact q.elim
  | some b =>
    obtain ⟨C, e1, e2⟩ := G.xs.sub _ _ _ es
    have fin : ∀ {σ : L2.St} {H : Hp} {Q : VK} {F : Hp} {μ : List Addr} {env : Ev} {st : Sto}, Rel X0.K ct F μ st H → GPost X0.K ct W (RV X0.K) σ F μ H Q (xiV L z env st) → Q (.bl b) H := fun {σ H Q F μ env st} r q => by
      unfold xiV at q
      rw [hL] at q
      simp only [es] at q
      exact q.here r (.bl b)
    have key : ∀ (u : V) (cv : Value), (∀ w, RelV u w → w = cv) → PE (X0.suite a ((a, oe) :: pn)) (.Name z p3) (tC u) → PySem.W.kitOne X0.K (.ref C) cv = some b → PE (X0.suite a ((a, oe) :: pn)) (.Call (.Name "isinstance" p) [.Name y p2, .Name z p3] [] pos) (TE' (X0.suite a ((a, oe) :: pn)) ct W (xiV L z)) := fun u cv hu hp hk => by
      have B := G.xs.cls _ _ e1
      by_cases hcl : cls = .ref C
      · subst hcl
        refine PE.mono (pe_callB (call_isD (D := C) B hz hf) (G.gl' b1) (G.bs _ b2) (by decide +kernel) (pa_cons he (pa_cons hp pa_nil)) b4 b3) fun σ H Q ⟨F, μ, env, st, r, re, q⟩ => ?_
        obtain ⟨g1, g2⟩ := hinv σ F re.inv
        exact ⟨_, g1 i rfl, u, cv, b, rfl, hu, hk, g2.dd.imp (fun e => e) (fun ⟨d', fvs, g3, g4⟩ => ⟨d', fvs, g3, r.sub _ _ g4⟩), fin r q⟩
      · refine ⟨fun pins s σ H Q I ⟨F, μ, env, st, r, re, q⟩ => ?_⟩
        obtain ⟨g1, g2⟩ := hinv σ F re.inv
        obtain ⟨C', e3, e4⟩ := g2.cls
        exact absurd (by rw [e4, ct_inj e3 e1]) hcl
    rcases e2 with ⟨D, m1, _, m3⟩ | ⟨n, m1, m2, _, m3⟩
    · exact key (.ref D) (.ref D) (fun w h => h) (pe_glob hgz m1 rfl d3) m3
    · exact key (.ty n) (.type n) (fun w h => h) (pe_bltn (v := .ty n) hgz m1 m2 rfl hn d3) m3
theorem sim : ∀ t : T, Sim ct L k (ev L t) (chk t)
  | .nil => {
      e := fun _ _ _ _ _ _ q => by cases q
      t := fun _ _ _ _ _ _ q => by cases q
      l := fun c X W es G tk q => by
        match es, q with
        | [], _ => exact ⟨fun _ h => (by cases h), sim_anil, fun env st ws st' h => (by cases h; rfl)⟩
      z := fun c es q => by
        match es, q with
        | [], _ => rfl
        | _ :: _, .inl q => cases q
        | _ :: _, .inr q => cases q
      an := fun _ _ _ _ _ _ _ _ q => by cases q
      or := fun _ _ _ _ _ _ _ _ q => by cases q
      ta := fun _ _ _ _ _ _ _ _ q => by cases q
      to := fun _ _ _ _ _ _ _ _ q => by cases q
      p := fun c X W o G tk q => by
        match o, q with
        | none, _ => exact sim_none
      c := fun c X W es G tk q => by
        match es, q with
        | [], _ => exact ⟨fun pins s σ H Q I ⟨F, μ, env, st, r, re, p⟩ => pts_nil.run pins s σ H Q I (p.here r rfl)⟩
      i := fun _ _ _ _ _ _ _ q => by cases q }
  | .cons a b => {
      e := fun _ _ _ _ _ _ q => by cases q
      t := fun _ _ _ _ _ _ q => by cases q
      l := fun c X W es G tk q => by
        match es, q with
        | x :: r, q =>
          simp only [chk, Bool.and_eq_true] at q
          obtain ⟨p1, h1⟩ := (sim a).e c X W x G tk q.1
          obtain ⟨p2, h2, h3⟩ := (sim b).l c X W r G tk q.2
          refine ⟨fun y hy => ?_, sim_acons h1 h2 (plain_star p1 _ _), fun env st ws st' h => ?_⟩
          · rcases List.mem_cons.mp hy with rfl | hy
            · exact p1
            · exact p2 y hy
          · have h : ((ev L a).e env st).bind (fun x st => ((ev L b).l env st).bind fun xs st => .ok (x :: xs) st) = .ok ws st' := h
            cases ea : (ev L a).e env st with
            | ok x1 s1 =>
              rw [ea] at h
              simp only [R.bind_ok] at h
              cases eb : (ev L b).l env s1 with
              | ok x2 s2 =>
                rw [eb] at h
                simp only [R.bind_ok] at h
                cases h
                rw [List.length_cons, List.length_cons, h3 _ _ _ _ eb]
              | err _ _ => rw [eb] at h; cases h
              | stuck => rw [eb] at h; cases h
            | err _ _ => rw [ea] at h; cases h
            | stuck => rw [ea] at h; cases h
      z := fun c es q => by
        match es, q with
        | _ :: _, _ => rfl
        | [], .inl q => cases q
        | [], .inr q => cases q
      an := fun c X W e es pos G tk q => by
        simp only [chk, Bool.and_eq_true] at q
        have h1 := ((sim a).e c X W e G tk q.1).2
        have hz := (sim b).z c es (.inl q.2)
        cases es with
        | nil =>
          have e : (ev L (.cons a b)).an = (ev L a).e := if_pos hz
          rw [e]
          exact pe_one h1
        | cons y ys =>
          have e : (ev L (.cons a b)).an = mAnd (ev L a).e (ev L b).an := if_neg (by rw [hz]; exact Bool.false_ne_true)
          rw [e]
          exact sim_and h1 ((sim b).an c X W y ys pos G tk q.2)
      or := fun c X W e es pos G tk q => by
        simp only [chk, Bool.and_eq_true] at q
        have h1 := ((sim a).e c X W e G tk q.1).2
        have hz := (sim b).z c es (.inl q.2)
        cases es with
        | nil =>
          have e : (ev L (.cons a b)).or = (ev L a).e := if_pos hz
          rw [e]
          exact pe_one h1
        | cons y ys =>
          have e : (ev L (.cons a b)).or = mOr (ev L a).e (ev L b).or := if_neg (by rw [hz]; exact Bool.false_ne_true)
          rw [e]
          exact sim_or h1 ((sim b).or c X W y ys pos G tk q.2)
      ta := fun c X W e es pos G tk q => by
        simp only [chk, Bool.and_eq_true] at q
        have h1 := (sim a).t c X W e G tk q.1
        have hz := (sim b).z c es (.inr q.2)
        cases es with
        | nil =>
          have e : (ev L (.cons a b)).ta = (ev L a).t := if_pos hz
          rw [e]
          exact pw_and1 h1
        | cons y ys =>
          have e : (ev L (.cons a b)).ta = mTAnd (ev L a).t (ev L b).ta := if_neg (by rw [hz]; exact Bool.false_ne_true)
          rw [e]
          exact sim_tand h1 ((sim b).ta c X W y ys pos G tk q.2)
      to := fun c X W e es pos G tk q => by
        simp only [chk, Bool.and_eq_true] at q
        have h1 := (sim a).t c X W e G tk q.1
        have hz := (sim b).z c es (.inr q.2)
        cases es with
        | nil =>
          have e : (ev L (.cons a b)).to = (ev L a).t := if_pos hz
          rw [e]
          exact pw_or1 h1
        | cons y ys =>
          have e : (ev L (.cons a b)).to = mTOr (ev L a).t (ev L b).to := if_neg (by rw [hz]; exact Bool.false_ne_true)
          rw [e]
          exact sim_tor h1 ((sim b).to c X W y ys pos G tk q.2)
      p := fun _ _ _ _ _ _ q => by cases q
      c := fun _ _ _ _ _ _ q => by cases q
      i := fun _ _ _ _ _ _ _ q => by cases q }
  | .var i => .ofE fun c X W ex G tk q => by
      split at q
      · rename_i x p
        simp only [Bool.and_eq_true, decide_eq_true_eq] at q
        obtain ⟨d1, d2⟩ := okName_d q.2
        refine sim_var (by rw [G.N]; exact q.1.1) ?_ d1 d2
        have h := q.1.2
        show X.env.scope.names.lookup x = _ ∨ X.env.scope.names.lookup x = _ ∨ X.env.scope.names.lookup x = _
        rw [G.sc]
        unfold isLoc at h
        split at h
        · exact .inl (by assumption)
        · exact .inr (.inl (by assumption))
        · exact .inr (.inr (by assumption))
        · cases h
      · cases q
  | .glob y => .ofE fun c X W ex G tk q => by
      split at q
      · rename_i x p
        simp only [Bool.and_eq_true, decide_eq_true_eq, isGl] at q
        obtain ⟨⟨⟨rfl, h1⟩, h2⟩, h3⟩ := q
        obtain ⟨w, v, u, e1, e2, e3, e4⟩ := G.gl x h2
        simp only [e1]
        exact sim_C (pe_glob (G.gl' h1) e2 e3 (okName_d h3).1) e4
      · cases q
  | .int i => .ofE fun c X W ex G tk q => by
      split at q
      · obtain rfl := of_decide_eq_true q
        exact sim_C pe_int fun _ _ => .int _
      · cases q
  | .str s => .ofE fun c X W ex G tk q => by
      split at q
      · rename_i x _ _
        obtain rfl := of_decide_eq_true q
        refine sim_C pe_str fun F μ => ?_
        have h := RV.str (K := X.K) (F := F) (μ := μ) x.cps.toList
        rw [mkS_tl] at h
        exact h
      · cases q
  | .bl b => .ofE fun c X W ex G tk q => by
      split at q
      · obtain rfl := eq_of_beq q
        exact sim_C pe_bl fun _ _ => .bl _
      · cases q
  | .non => .ofE fun c X W ex G tk q => by
      split at q
      · exact sim_C pe_non fun _ _ => .non
      · cases q
  | .bin op m a b => .ofE fun c X W ex G tk q => by
      split at q
      · simp only [Bool.and_eq_true, decide_eq_true_eq] at q
        obtain ⟨⟨rfl, h1⟩, h2⟩ := q
        exact sim_bin (op_bop op m) ((sim a).e c X W _ G tk h1).2 ((sim b).e c X W _ G tk h2).2
      · cases q
  | .neg a => .ofE fun c X W ex G tk q => by
      split at q
      · exact sim_neg ((sim a).e c X W _ G tk q).2
      · cases q
  | .not a => .ofT (fun c X W ex G tk q => by
      split at q
      · exact sim_not ((sim a).e c X W _ G tk q).2
      · cases q) (fun c X W ex G tk q => by
      split at q
      · exact sim_tnot ((sim a).t c X W _ G tk q)
      · cases q)
  | .cmp op a b => .ofT (fun c X W ex G tk q => by
      split at q
      · simp only [Bool.and_eq_true, decide_eq_true_eq] at q
        obtain ⟨⟨rfl, h1⟩, h2⟩ := q
        obtain ⟨p2, g2⟩ := (sim b).e c X W _ G tk h2
        exact sim_cmp (op_cop G.un op) ((sim a).e c X W _ G tk h1).2 g2 (plain_marks p2 _)
      · cases q) (fun c X W ex G tk q => by
      split at q
      · simp only [Bool.and_eq_true, decide_eq_true_eq] at q
        obtain ⟨⟨rfl, h1⟩, h2⟩ := q
        obtain ⟨p2, g2⟩ := (sim b).e c X W _ G tk h2
        exact simT_cmp (op_cop G.un op) ((sim a).e c X W _ G tk h1).2 g2 (plain_marks p2 _)
      · cases q)
  | .cmp2 op op' a b d => .ofT (fun c X W ex G tk q => by
      split at q
      · simp only [Bool.and_eq_true, decide_eq_true_eq] at q
        obtain ⟨⟨⟨⟨rfl, rfl⟩, h1⟩, h2⟩, h3⟩ := q
        obtain ⟨p3, g3⟩ := (sim d).e c X W _ G tk h3
        exact sim_chain (op_cop G.un op) (op_cop G.un op') ((sim a).e c X W _ G tk h1).2 ((sim b).e c X W _ G tk h2).2 g3 (plain_marks p3 _)
      · cases q) (fun c X W ex G tk q => by
      split at q
      · simp only [Bool.and_eq_true, decide_eq_true_eq] at q
        obtain ⟨⟨⟨⟨rfl, rfl⟩, h1⟩, h2⟩, h3⟩ := q
        obtain ⟨p3, g3⟩ := (sim d).e c X W _ G tk h3
        exact simT_chain (op_cop G.un op) (op_cop G.un op') ((sim a).e c X W _ G tk h1).2 ((sim b).e c X W _ G tk h2).2 g3 (plain_marks p3 _)
      · cases q)
  | .and l => .ofT (fun c X W ex G tk q => by
      split at q
      · exact (sim l).an c X W _ _ _ G tk q
      · cases q) (fun c X W ex G tk q => by
      split at q
      · exact ((sim l).ta c X W _ _ _ G tk q).pt
      · cases q)
  | .or l => .ofT (fun c X W ex G tk q => by
      split at q
      · exact (sim l).or c X W _ _ _ G tk q
      · cases q) (fun c X W ex G tk q => by
      split at q
      · exact ((sim l).to c X W _ _ _ G tk q).pt
      · cases q)
  | .ife t a b => .ofT (fun c X W ex G tk q => by
      split at q
      · simp only [Bool.and_eq_true] at q
        exact sim_if ((sim t).t c X W _ G tk q.1.1) ((sim a).e c X W _ G tk q.1.2).2 ((sim b).e c X W _ G tk q.2).2
      · cases q) (fun c X W ex G tk q => by cases q)
  | .tup l => .ofE fun c X W ex G tk q => by
      split at q
      · exact sim_tup ((sim l).l c X W _ G tk q).2.1
      · cases q
  | .lst m l => .ofE fun c X W ex G tk q => by
      split at q
      · exact sim_lst ((sim l).l c X W _ G tk q).2.1
      · cases q
  | .ix a i => .ofE fun c X W ex G tk q => by
      split at q
      · simp only [Bool.and_eq_true] at q
        obtain ⟨p2, g2⟩ := (sim i).e c X W _ G tk q.2
        exact sim_ix G.un ((sim a).e c X W _ G tk q.1).2 g2 (plain_ix p2)
      · cases q
  | .sl m a lo hi => .ofE fun c X W ex G tk q => by
      split at q
      · simp only [Bool.and_eq_true] at q
        exact sim_slice ((sim a).e c X W _ G tk q.1.1).2 ((sim lo).p c X W _ G tk q.1.2) ((sim hi).p c X W _ G tk q.2)
      · cases q
  | .call f m l => .ofE fun c X W ex G tk q => by
      split at q
      · rename_i x _ y ys _
        simp only [Bool.and_eq_true, decide_eq_true_eq, isGl] at q
        obtain ⟨⟨⟨⟨⟨hcold, rfl⟩, h1⟩, h2⟩, h3⟩, h4⟩ := q
        obtain ⟨p1, g1, _⟩ := (sim l).l c X W _ G tk h4
        exact sim_call tk (G.fn (cold_h hcold) (x, []) h2) ((G.room (cold_h hcold)).mono (by omega)) (G.gl' h1) g1 (okName_d h3).1 (plain_star (p1 y List.mem_cons_self) _ _) (back_any fun z hz => p1 z (List.mem_cons_of_mem _ hz))
      · cases q
  | .callK f m l kk v => .ofE fun c X W ex G tk q => by
      split at q
      · rename_i x _ y ys kw z _ _
        simp only [Bool.and_eq_true, decide_eq_true_eq, isGl] at q
        obtain ⟨⟨⟨⟨⟨⟨⟨hcold, rfl⟩, h1⟩, rfl⟩, h2⟩, h3⟩, h4⟩, h5⟩ := q
        obtain ⟨p1, g1, _⟩ := (sim l).l c X W _ G tk h4
        exact sim_callK tk (G.fn (cold_h hcold) (x, [kw]) h2) ((G.room (cold_h hcold)).mono (by omega)) (G.gl' h1) g1 ((sim v).e c X W _ G tk h5).2 (okName_d h3).1 (plain_star (p1 y List.mem_cons_self) _ _) (back_any p1)
      · cases q
  | .cbf b m l => .ofE fun c X W ex G tk q => by
      split at q
      · rename_i x _ y ys _
        simp only [Bool.and_eq_true, decide_eq_true_eq] at q
        obtain ⟨⟨⟨hcold, rfl⟩, h1⟩, h4⟩ := q
        obtain ⟨p1, g1, _⟩ := (sim l).l c X W _ G tk h4
        obtain ⟨b1, b2, b3, b4⟩ := isB_d h1
        rcases cb_ok (X := X) (ct := ct) (W := W) (G.calm (cold_h hcold)) b m with ⟨id, hc, hb⟩ | ⟨T, hc, hb⟩
        · exact PE.mono (pe_callB hc (G.gl' b1) (G.bs _ b2) hb g1 b4 b3 (plain_star (p1 y List.mem_cons_self) _ _) (back_any fun z hz => p1 z (List.mem_cons_of_mem _ hz))) fun _ _ _ => tCB_of
        · exact PE.mono (pe_callTy hc (G.gl' b1) (G.bs _ b2) hb g1 b4 b3 (plain_star (p1 y List.mem_cons_self) _ _) (back_any fun z hz => p1 z (List.mem_cons_of_mem _ hz))) fun _ _ _ => tCB_of
      · cases q
  | .dnew m => .ofE fun c X W ex G tk q => by
      split at q
      · exact sim_dnew
      · cases q
  | .bif b m l => .ofE fun c X W ex G tk q => by
      split at q
      · rename_i x _ y ys _
        simp only [Bool.and_eq_true, decide_eq_true_eq] at q
        obtain ⟨⟨rfl, h1⟩, h4⟩ := q
        obtain ⟨p1, g1, _⟩ := (sim l).l c X W _ G tk h4
        obtain ⟨b1, b2, b3, b4⟩ := isB_d h1
        rcases bif_ok (X := X) (ct := ct) (W := W) b m with ⟨id, hc, hb⟩ | ⟨T, hc, hb⟩
        · exact PE.mono (pe_callB hc (G.gl' b1) (G.bs _ b2) hb g1 b4 b3 (plain_star (p1 y List.mem_cons_self) _ _) (back_any fun z hz => p1 z (List.mem_cons_of_mem _ hz))) fun _ _ _ => tCB_of
        · exact PE.mono (pe_callTy hc (G.gl' b1) (G.bs _ b2) hb g1 b4 b3 (plain_star (p1 y List.mem_cons_self) _ _) (back_any fun z hz => p1 z (List.mem_cons_of_mem _ hz))) fun _ _ _ => tCB_of
      · cases q
  | .isi kd a => .ofE fun c X W ex G tk q => by
      split at q
      · rename_i x _ y z _ _
        simp only [Bool.and_eq_true, decide_eq_true_eq] at q
        obtain ⟨⟨⟨⟨rfl, h1⟩, h2⟩, h3⟩, h4⟩ := q
        obtain ⟨b1, b2, b3, b4⟩ := isB_d h1
        obtain ⟨c1, c2, c3, c4⟩ := isB_d h3
        obtain ⟨p1, g1⟩ := (sim a).e c X W _ G tk h2
        have h5 : bootBuiltins z = some (.type kd) := by
          split at h4
          · rename_i n e
            rw [e, of_decide_eq_true h4]
          · cases h4
        exact sim_isi (G.gl' b1) (G.bs _ b2) (by decide +kernel) b4 b3 (G.gl' c1) (G.bs _ c2) h5 c4 c3 g1 (plain_star p1 _ _)
      · cases q
  | .mth kd o l => .ofE fun c X W ex G tk q => by
      obtain ⟨id, hm, pa, slot, hty⟩ := mt_any (X := X) (ct := ct) (W := W) G.un kd
      split at q
      · rename_i x n apos cpos
        simp only [Bool.and_eq_true, decide_eq_true_eq] at q
        obtain ⟨⟨⟨⟨rfl, h1⟩, h2⟩, h3⟩, h4⟩ := q
        have ho := ((sim o).e c X W _ G tk h2).2
        obtain ⟨_, hl, hlen⟩ := (sim l).l c X W _ G tk h3
        refine PE.mono (pe_bm0 pa slot hty hm ho (base_ok h1 _ _) h4) fun σ H Q ⟨F, μ, env, st, r, re, p⟩ => ⟨F, μ, env, st, r, re, p.bind fun w st1 F1 μ1 H1 v _ x1 r1 rv p1 => ?_⟩
        split at p1
        · rename_i ht
          refine ⟨tyB_ok r1 rv ht, ?_⟩
          have hnil : (ev L l).l env st1 = .ok [] st1 ∨ (ev L l).l env st1 ≠ .ok [] st1 := Classical.em _
          have p2 : GPost X.K ct W (RV X.K) σ F1 μ1 H1 Q (((ev L l).l env st1).bind fun l st => mthV kd w l st) := p1
          -- no arguments: the list is empty
          have hl0 : ∃ T0, l = T0 ∧ (chk T0).l c [] = true := ⟨l, rfl, h3⟩
          cases l with
          | nil => exact ⟨F1, μ1, st1, w, [], σ, r1, rv, .nil, p2⟩
          | _ => cases h3
        · exact p1.elim
      · rename_i x n apos y ys cpos
        simp only [Bool.and_eq_true, decide_eq_true_eq] at q
        obtain ⟨⟨⟨⟨⟨rfl, h1⟩, h2⟩, h3⟩, h4⟩, h5⟩ := q
        have ho := ((sim o).e c X W _ G tk h2).2
        obtain ⟨p1, g1, _⟩ := (sim l).l c X W _ G tk h3
        refine PE.mono (pe_bm pa slot hty hm ho g1 (base_ok h1 _ _) ?_ h4 (plain_star (p1 y List.mem_cons_self) _ _) (back_any fun z hz => p1 z (List.mem_cons_of_mem _ hz))) fun σ H Q ⟨F, μ, env, st, r, re, p⟩ => ⟨F, μ, env, st, r, re, p.bind fun w st1 F1 μ1 H1 v _ x1 r1 rv p1 => ?_⟩
        · rw [back_all p1]
          simp only [Bool.true_and, Bool.and_eq_true, decide_eq_true_eq]
          refine ⟨rfl, ?_⟩
          have : ([] : List Keyword).length = 0 := rfl
          simp only [this, List.isEmpty_nil, if_true]
          omega
        · split at p1
          · rename_i ht
            refine ⟨tyB_ok r1 rv ht, F1, μ1, env, st1, r1, re.mono x1, p1.bind fun ws st2 F2 μ2 H2 vs _ x2 r2 rvs p2 => ?_⟩
            exact ⟨F2, μ2, st2, w, ws, σ, r2, x2.rv rv, rvs, p2⟩
          · exact p1.elim
      · cases q
  | .lc m vs tg it cd el => .ofE fun c X W ex G tk q => by
      split at q
      · rename_i elt t i ifs scope pos
        simp only [Bool.and_eq_true, List.all_eq_true, decide_eq_true_eq] at q
        obtain ⟨⟨⟨⟨⟨⟨⟨hcold, h1⟩, h2⟩, h3⟩, h4⟩, h5⟩, h6⟩, h7⟩ := q
        have hc := cold_h hcold
        have ok : BlkOk X.N X.env.scope scope (ownOf c vs) := by
          rw [G.N, G.sc]
          exact blkOk_by h1
        refine PE.mono (pe_lc (own := ownOf c vs) (g := gSet X.K tg) (tt := TT' X ct W0 (ev L cd).t) (te := TE' X ct W0 (ev L el).e) (G.calm hc) G.nd ((sim it).i c X W _ _ G tk h3) ok (fun s H C cl fp => sim_tg (G.blk hc scope s H C cl fp) h5) (fun s H C cl fp => (sim cd).c _ _ W0 _ (G.blk hc scope s H C cl fp) takes0 h6)
          (fun s H C cl fp => ((sim el).e _ _ W0 _ (G.blk hc scope s H C cl fp) takes0 h7).2) (fun x => plain_fold h4 _ x)) fun σ H Q h => ?_
        rw [own_snd]
        exact tLc_of (fun _ h => h) h2 (G.bears hc _) h
      · cases q
  | .lc2 m vs vs1 tg it cd tg1 it1 cd1 el => .ofE fun c X W ex G tk q => by
      split at q
      · rename_i elt t i ifs t1 i1 ifs1 scope pos
        simp only [Bool.and_eq_true, List.all_eq_true, decide_eq_true_eq] at q
        obtain ⟨⟨⟨⟨⟨⟨⟨⟨⟨⟨⟨⟨⟨hcold, h1⟩, h2⟩, h3⟩, h4⟩, h5⟩, h6⟩, h7⟩, h8⟩, h9⟩, h10⟩, h11⟩, h12⟩, h13⟩ := q
        have hc := cold_h hcold
        have ok : BlkOk X.N X.env.scope scope (ownOf c vs) := by
          rw [G.N, G.sc]
          exact blkOk_by h1
        refine PE.mono (pe_lc2 (own := ownOf c vs) (vs1 := vs1) (g := gSet X.K tg) (tt := TT' X ct W0 (ev L cd).t) (wi1 := TI' X ct W0 (ev L it1).i) (g1 := gSet X.K tg1) (tt1 := TT' X ct W0 (ev L cd1).t) (te := TE' X ct W0 (ev L el).e) (G.calm hc) G.nd ((sim it).i c X W _ _ G tk h3) ok (by rw [own_snd]; exact h8)
          (fun s H C cl fp => sim_tg (G.blk hc scope s H C cl fp) h5) (fun s H C cl fp => (sim cd).c _ _ W0 _ (G.blk hc scope s H C cl fp) takes0 h6) (fun s H C cl fp => (sim it1).i _ _ W0 _ _ (G.blk hc scope s H C cl fp) takes0 h10) (fun s H C cl fp => sim_tg (G.blk hc scope s H C cl fp) h12)
          (fun s H C cl fp => (sim cd1).c _ _ W0 _ (G.blk hc scope s H C cl fp) takes0 h13) (fun s H C cl fp => ((sim el).e _ _ W0 _ (G.blk hc scope s H C cl fp) takes0 h7).2) (fun x => plain_fold h4 _ x) (fun env x => plain_fold h11 env x)) fun σ H Q h => ?_
        rw [own_snd]
        exact tLc2_of (fun _ h => h) h2 h9 (G.bears hc _) (G.bears hc _) h
      · cases q
  | .lrng m a b => .ofE fun c X W ex G tk q => by
      split at q
      · rename_i x _ y _ z w _ _
        simp only [Bool.and_eq_true, decide_eq_true_eq] at q
        obtain ⟨⟨⟨⟨⟨⟨hcold, rfl⟩, h1⟩, rfl⟩, h2⟩, h3⟩, h4⟩ := q
        obtain ⟨b1, b2, _, _⟩ := isB_d h1
        obtain ⟨c1, c2, _, _⟩ := isB_d h2
        obtain ⟨p1, g1⟩ := (sim a).e c X W _ G tk h3
        obtain ⟨p2, g2⟩ := (sim b).e c X W _ G tk h4
        exact sim_lrg (G.calm (cold_h hcold)) (G.gl' b1) (G.bs _ b2) (G.gl' c1) (G.bs _ c2) g1 g2 (plain_star p1 _ _) (plain_star p2 _ _) (back_any fun u hu => by rw [List.mem_singleton.mp hu]; exact p2)
      · cases q
  | .irng l => .ofI fun c X W tg ex G tk q => by
      split at q
      · rename_i x _ y _
        simp only [Bool.and_eq_true, decide_eq_true_eq] at q
        obtain ⟨⟨rfl, h1⟩, h4⟩ := q
        obtain ⟨p1, g1, hl⟩ := (sim l).l c X W _ G tk h4
        obtain ⟨b1, b2, b3, b4⟩ := isB_d h1
        exact sim_rng1 (G.gl' b1) (G.bs _ b2) g1 (plain_star (p1 y List.mem_cons_self) _ _) hl
      · rename_i x _ y z _
        simp only [Bool.and_eq_true, decide_eq_true_eq] at q
        obtain ⟨⟨rfl, h1⟩, h4⟩ := q
        obtain ⟨p1, g1, hl⟩ := (sim l).l c X W _ G tk h4
        obtain ⟨b1, b2, b3, b4⟩ := isB_d h1
        have hz : starEach [z] X.env = [(false, eval z X.env)] := plain_star (p1 z (by simp)) _ _
        exact sim_rng2 (G.gl' b1) (G.bs _ b2) g1 (by rw [plain_star (p1 y List.mem_cons_self), hz]) hz hl
      · rename_i x _ y z u _
        simp only [Bool.and_eq_true, decide_eq_true_eq] at q
        obtain ⟨⟨rfl, h1⟩, h4⟩ := q
        obtain ⟨p1, g1, hl⟩ := (sim l).l c X W _ G tk h4
        obtain ⟨b1, b2, b3, b4⟩ := isB_d h1
        exact sim_rng3 (G.gl' b1) (G.bs _ b2) g1 (plain_star (p1 y List.mem_cons_self) _ _) (back_any fun v hv => p1 v (List.mem_cons_of_mem _ hv)) hl
      · cases q
  | .irev a => .ofI fun c X W tg ex G tk q => by
      split at q
      · rename_i x _ y _
        simp only [Bool.and_eq_true, decide_eq_true_eq] at q
        obtain ⟨rfl, h1, h4⟩ := q
        obtain ⟨b1, b2, _, _⟩ := isB_d h1
        obtain ⟨p1, g1⟩ := (sim a).e c X W _ G tk h4
        exact sim_rev (G.gl' b1) (G.bs _ b2) g1 (plain_star p1 _ _)
      · cases q
  | .ienum l => .ofI fun c X W tg ex G tk q => by
      split at q
      · rename_i x _ y _
        simp only [Bool.and_eq_true, decide_eq_true_eq] at q
        obtain ⟨⟨rfl, h1⟩, h4⟩ := q
        obtain ⟨p1, g1, _⟩ := (sim l).l c X W _ G tk h4
        obtain ⟨b1, b2, b3, b4⟩ := isB_d h1
        exact sim_enum (G.gl' b1) (G.bs _ b2) g1 (plain_star (p1 y List.mem_cons_self) _ _)
      · cases q
  | .xf i f => .ofE fun c X W ex G tk q => by
      split at q
      · rename_i x p n pos
        simp only [Bool.and_eq_true, decide_eq_true_eq] at q
        obtain ⟨⟨⟨⟨rfl, h1⟩, h2⟩, h3⟩, h4⟩ := q
        exact sim_xf G h1 h2 h3 h4
      · cases q
  | .xi i kk => .ofE fun c X W ex G tk q => by
      split at q
      · rename_i x p y p2 z p3 pos
        simp only [Bool.and_eq_true, decide_eq_true_eq, Bool.not_eq_true'] at q
        obtain ⟨⟨⟨⟨⟨⟨⟨⟨⟨rfl, h1⟩, h2⟩, h3⟩, h4⟩, h5⟩, rfl⟩, h6⟩, h7⟩, h8⟩ := q
        exact sim_xi G h1 h2 h3 h4 h5 h6 h7 h8
      · cases q
  | .allS f gs a => .ofE fun c X W ex G tk q => by
      split at q
      · rename_i z pz f1 pf x1 px1 pc x px y py gsc pg pos
        simp only [Bool.and_eq_true, decide_eq_true_eq] at q
        obtain ⟨hcold, hgen, rfl, h1, rfl, rfl, hs, hg, ha⟩ := q
        obtain ⟨b1, b2, _, _⟩ := isB_d h1
        obtain ⟨cd, P, ec, tb, hP⟩ := G.gen hgen
        have hc := cold_h hcold
        exact PE.mono (pe_allQ (G.room hc) (G.gl' b1) (G.bs _ b2) tb ec (genB_ok hg).1 ((sim a).e c X W _ G tk ha).2 (elt_ok (G.room hc) (G.sg _ hs) hg) (fun v => rfl)) fun _ _ _ => tAllS_of hP
      · cases q
  | .mm mx l => .ofE fun c X W ex G tk q => by
      split at q
      · rename_i x p y ys pos
        simp only [Bool.and_eq_true, decide_eq_true_eq] at q
        obtain ⟨⟨⟨hcold, rfl⟩, h1⟩, h4⟩ := q
        obtain ⟨p1, g1, _⟩ := (sim l).l c X W _ G tk h4
        obtain ⟨b1, b2, b3, b4⟩ := isB_d h1
        exact PE.mono (pe_callB (call_mm (G.calm (cold_h hcold)) mx) (G.gl' b1) (G.bs _ b2) (by cases mx <;> decide +kernel) g1 b4 b3 (plain_star (p1 y List.mem_cons_self) _ _) (back_any fun z hz => p1 z (List.mem_cons_of_mem _ hz))) fun _ _ _ => tCB_of
      · cases q
end
end G

set_option Elab.async false
set_option linter.all false
set_option maxRecDepth 100000
set_option maxHeartbeats 8000000
namespace G
open PySem PySem.Spec PyProof.Rows L2

/-! ### statements -/
inductive RS where
  | nx (env : Ev) (st : Sto) | ct (env : Ev) (st : Sto) | rt (w : Va) (st : Sto) | err (x : Exc) (env : Ev) (st : Sto) | stuck
abbrev Ms := Ev → Sto → RS
def SPost (K : PySem.W.Frag) (ct : Ct) (W : WX) (D : Ends) (F : Hp) (μ : List Addr) (H : Hp) : RS → Prop
  | .nx env st => ∀ F' μ' H' σ', Ext F μ H F' μ' H' → Rel K ct F' μ' st H' → REnv K ct F' μ' env σ' → D.nx σ' H'
  | .ct env st => ∀ F' μ' H' σ', Ext F μ H F' μ' H' → Rel K ct F' μ' st H' → REnv K ct F' μ' env σ' → D.ct σ' H'
  | .rt w st => ∀ F' μ' H' v, Ext F μ H F' μ' H' → Rel K ct F' μ' st H' → RV K F' μ' w v → D.rt v H'
  | .err x env st => ∀ F' μ' H' σ' cls d, Ext F μ H F' μ' H' → Rel K ct F' μ' st H' → REnv K ct F' μ' env σ' → RX K ct F' μ' x cls d → W cls d σ' H'
  | .stuck => False
def TS' (X : Cx) (ct : Ct) (W : WX) (m : Ms) : TS := fun D σ H => ∃ F μ env st, Rel X.K ct F μ st H ∧ REnv X.K ct F μ env σ ∧ SPost X.K ct W D F μ H (m env st)
section
variable {K : PySem.W.Frag} {ct : Ct} {W : WX} {F F1 : Hp} {μ μ1 : List Addr} {H H1 : Hp} {σ : L2.St} {st : Sto} {D : Ends} {env : Ev} {α β : Type} {RA : Hp → List Addr → α → β → Prop}
theorem SPost.at {m : RS} (x : Ext F μ H F1 μ1 H1) (h : SPost K ct W D F μ H m) : SPost K ct W D F1 μ1 H1 m := by
  cases m with
  | nx env st => exact fun F' μ' H' v e r ra => h F' μ' H' v (x.trans e) r ra
  | ct env st => exact fun F' μ' H' v e r ra => h F' μ' H' v (x.trans e) r ra
  | rt w st => exact fun F' μ' H' v e r ra => h F' μ' H' v (x.trans e) r ra
  | err y env st => exact fun F' μ' H' σ' c d e r re rx => h F' μ' H' σ' c d (x.trans e) r re rx
  | stuck => exact h
/-- an expression ahead -/
def bindE {α : Type} (m : R α) (env : Ev) (k : α → Sto → RS) : RS := match m with
  | .ok a st => k a st
  | .err x st => .err x env st
  | .stuck => .stuck
@[simp] theorem bindE_ok (a : α) (env : Ev) (k : α → Sto → RS) : bindE (.ok a st) env k = k a st := rfl
theorem SPost.bind {N : β → Hp → Prop} {m : R α} {k : α → Sto → RS} (re : REnv K ct F μ env σ) (h : SPost K ct W D F μ H (bindE m env k))
    (n : ∀ a st1 F1 μ1 H1 v, Ext F μ H F1 μ1 H1 → Rel K ct F1 μ1 st1 H1 → RA F1 μ1 a v → SPost K ct W D F1 μ1 H1 (k a st1) → N v H1) : GPost K ct W RA σ F μ H N m := by
  cases m with
  | ok a st => exact fun F' μ' H' v e r ra => n a st F' μ' H' v e r ra (SPost.at e h)
  | err y st => exact fun F' μ' H' c d e r rx => h F' μ' H' σ c d e r (re.mono e) rx
  | stuck => exact h
end

inductive S where
  | nil | seq (a b : S)
  | set (tg : Tg) (e : T) | setIx (o i e : T) | aug (i : Nat) (sub : Bool) (e : T)
  | expr (e : T) | ret (e : T) | retN | sif (c : T) (a b : S) | swh (c : T) (b : S) | sfor (tg : Tg) (it : T) (b : S) | cont | pass
  | tryE (b h : S) | hnd (c : Str) (io : Option Nat) (s r : S) | hend | rais (c : Str) (s : Tx) | raisI (c : Str) (l : T) | stk
def mSeq (a b : Ms) : Ms := fun env st => match a env st with
  | .nx env st => b env st
  | r => r
def mSet (tg : Tg) (me : Mx Va) : Ms := fun env st => bindE (me env st) env fun w st => match tgV tg w env st with
  | some env' => .nx env' st
  | none => .stuck
def setV (o i v : Va) (st : Sto) : Option Sto := match o with
  | .ref p => match st[p]? with
    | some (some (.lst l)) => match intOf i with
      | some k => match ixN l.length k with
        | some j => some (st.set p (some (.lst (l.set j v))))
        | none => none
      | none => none
    | some (some (.dic ks l)) => match kyOf i with
      | some k => if ks.length < sizeLine then some (st.set p (some (.dic (putKy ks l k v).1 (putKy ks l k v).2))) else none
      | none => none
    | _ => none
  | _ => none
def mSetIx (mo mi me : Mx Va) : Ms := fun env st => bindE (me env st) env fun v st => bindE (mo env st) env fun o st => bindE (mi env st) env fun i st => match setV o i v st with
  | some st => .nx env st
  | none => .stuck
def mAug (i : Nat) (sub : Bool) (me : Mx Va) : Ms := fun env st => match env[i]? with
  | some (some x) => bindE (me env st) env fun y st => match intOf x, intOf y with
    | some a, some b => .nx (env.set i (some (.int (if sub then a - b else a + b)))) st
    | _, _ => .stuck
  | _ => .stuck
def mExpr (me : Mx Va) : Ms := fun env st => bindE (me env st) env fun _ st => .nx env st
def mRet (me : Mx Va) : Ms := fun env st => bindE (me env st) env fun w st => .rt w st
def mIfS (mt : Mx Bool) (a b : Ms) : Ms := fun env st => bindE (mt env st) env fun c st => if c = true then a env st else b env st
def whileN (mt : Mx Bool) (b : Ms) : Nat → Ms
  | 0 => fun _ _ => .stuck
  | n + 1 => fun env st => bindE (mt env st) env fun c st => if c = true then (match b env st with
      | .nx env st => whileN mt b n env st
      | .ct env st => whileN mt b n env st
      | r => r) else .nx env st
def fuel : Nat := 1099511627776
def forRun (tg : Tg) (gd : Gd) (b : Ms) : List Va → Ms
  | [] => fun env st => if gdB gd st then .nx env st else .stuck
  | x :: r => fun env st => if gdB gd st then match tgV tg x env st with
      | none => .stuck
      | some env => match b env st with
        | .nx env st => forRun tg gd b r env st
        | .ct env st => forRun tg gd b r env st
        | r => r
    else .stuck
def mFor (tg : Tg) (mi : Mx (List Va × Gd)) (b : Ms) : Ms := fun env st => bindE (mi env st) env fun wg st => forRun tg wg.2 b wg.1 env st
/-- raise c(text) -/
def mRais (L : Lm) (c : Str) : Ms := fun env st => match L.xs.pl c with
  | some z => .err ⟨z, []⟩ env st
  | none => .stuck
def pcW (ws : List Va) : Pc → Bool
  | .c s => decide (s.length ≤ 1000000)
  | .p i => match ws[i]? with
    | some (.str y) => decide (y.length ≤ 1000000)
    | some (.int k) => decide (k.natAbs.log2 < 1920)
    | _ => false
/-- raise c(e, ..), where c's own __init__ keeps what it is given -/
def mRaisI (L : Lm) (c : Str) (ml : Mx (List Va)) : Ms := match L.xs.ow c with
  | some o => fun env st => bindE (ml env st) env fun ws st => if ws.length = o.n ∧ o.n ≤ 100 ∧ o.tx.length ≤ 8 ∧ o.tx.all (pcW ws) = true then (match runFs ws o.fs [] with
      | some fs => .err ⟨o.z, fs.map fun p => (p.1.cps.toList, p.2)⟩ env st
      | none => .stuck) else .stuck
  | none => fun _ _ => .stuck
def clr (io : Option Nat) (env : Ev) : Ev := match io with
  | some i => env.set i none
  | none => env
/-- an except suite -/
def mHnd (io : Option Nat) (m : Ms) : Ms := fun env st => match m (clr io env) st with
  | .nx env st => .nx (clr io env) st
  | .ct env st => .ct (clr io env) st
  | .rt w st => .rt w st
  | _ => .stuck
def mTry (mb : Ms) (mh : Exc → Ms) : Ms := fun env st => match mb env st with
  | .err x env st => if (x.fs.all fun p => free p.2) = true then mh x env st else .stuck
  | r => r
def mSel (L : Lm) (c : Str) (ms mr : Ms) : Ms := fun env st => match L.xh with
  | some x => match L.xs.sub x.cls c with
    | some true => ms env st
    | some false => mr env st
    | none => .stuck
  | none => .stuck
def mHend (L : Lm) : Ms := fun env st => match L.xh with
  | some x => .err x env st
  | none => .stuck
def ex (L : Lm) : S → Ms
  | .nil => fun env st => .nx env st
  | .seq a b => mSeq (ex L a) (ex L b)
  | .set tg e => mSet tg (ev L e).e
  | .setIx o i e => mSetIx (ev L o).e (ev L i).e (ev L e).e
  | .aug i s e => mAug i s (ev L e).e
  | .expr e => mExpr (ev L e).e
  | .ret e => mRet (ev L e).e
  | .retN => fun _ st => .rt .non st
  | .sif c a b => mIfS (ev L c).t (ex L a) (ex L b)
  | .swh c b => whileN (ev L c).t (ex L b) fuel
  | .sfor tg it b => mFor tg (ev L it).i (ex L b)
  | .cont => fun env st => .ct env st
  | .pass => fun env st => .nx env st
  | .stk => fun _ _ => .stuck
  | .tryE b h => mTry (ex L b) fun x => ex { L with xh := some x } h
  | .hnd c io s r => mSel L c (mHnd io (ex L s)) (ex L r)
  | .hend => mHend L
  | .rais c _ => mRais L c
  | .raisI c l => mRaisI L c (ev L l).l

section
variable {X : Cx} {ct : Ct} {W : WX} {pos : Pos}
theorem PS.mono {X : Cx} {s : Stmt} {t t' : TS} (h : PS X s t) (i : ∀ D σ H, t' D σ H → t D σ H) : PS X s t' := ⟨fun pins s σ H D I q => h.run pins s σ H D I (i D σ H q)⟩
theorem PSs.mono {X : Cx} {s : List Stmt} {t t' : TS} (h : PSs X s t) (i : ∀ D σ H, t' D σ H → t D σ H) : PSs X s t' := ⟨fun pins s σ H D I q => h.run pins s σ H D I (i D σ H q)⟩
theorem simS_nil : PSs X [] (TS' X ct W fun env st => .nx env st) := PSs.mono pss_nil fun D σ H ⟨F, μ, env, st, r, re, p⟩ => p F μ H σ .refl r re
theorem simS_cons {s : Stmt} {r : List Stmt} {a b : Ms} (h1 : PS X s (TS' X ct W a)) (h2 : PSs X r (TS' X ct W b)) : PSs X (s :: r) (TS' X ct W (mSeq a b)) := by
  refine PSs.mono (pss_cons h1 h2) fun D σ H ⟨F, μ, env, st, r, re, p⟩ => ⟨F, μ, env, st, r, re, ?_⟩
  unfold mSeq at p
  cases e : a env st with
  | nx env1 st1 =>
    rw [e] at p
    exact fun F' μ' H' σ' x r' re' => ⟨F', μ', env1, st1, r', re', SPost.at x p⟩
  | ct env1 st1 => rw [e] at p; exact p
  | rt w st1 => rw [e] at p; exact p
  | err y env1 st1 => rw [e] at p; exact p
  | stuck => rw [e] at p; exact p
theorem tAsg_of {K : PySem.W.Frag} {tg : Tg} {me : Mx Va} {te : TE} {D : Ends} {σ : L2.St} {H : Hp} (hb : ∀ j ∈ tgIx tg, ct.Bears j) (hte : ∀ Q, TOf K ct W (RV K) me σ H Q → te σ H Q) (h : ∃ F μ env st, Rel K ct F μ st H ∧ REnv K ct F μ env σ ∧ SPost K ct W D F μ H (mSet tg me env st)) : tAsg te (gSet K tg) D σ H := by
  obtain ⟨F, μ, env, st, r, re, p⟩ := h
  refine hte _ ⟨F, μ, env, st, r, re, SPost.bind re p fun w st1 F1 μ1 H1 v x1 r1 rv p1 => ?_⟩
  split at p1
  · rename_i env' e
    exact gSet_of r1 (re.mono x1) rv e hb fun σ' re' _ => p1 F1 μ1 H1 σ' .refl r1 re'
  · exact p1.elim
def rSetV (K : PySem.W.Frag) (ct : Ct) (W : WX) : V → V → V → Hp → (Hp → Prop) → Prop := fun o i v H Q =>
  ∃ F μ st wo wi wv st', Rel K ct F μ st H ∧ RV K F μ wo o ∧ RV K F μ wi i ∧ RV K F μ wv v ∧ setV wo wi wv st = some st' ∧ ∀ H', Ext F μ H F μ H' → Rel K ct F μ st' H' → Q H'
theorem set_V (hu : X.A.units + 64 < cLine) : PSet X (rSetV X.K ct W) := by
  intro pins s σ H o i v ov iv u Q I ro ri rv h
  obtain ⟨F, μ, st, wo, wi, wv, st', r, r1, r2, r3, e, q⟩ := h
  unfold setV at e
  split at e
  · rename_i p
    cases r1 with
    | @ref _ a hp =>
    split at e
    · rename_i l el
      split at e
      · rename_i k ek
        obtain rfl := intOf_ok r2 ek
        split at e
        · rename_i j ej
          cases e
          cases r.obj _ _ _ el hp with
          | @lst _ vs h1 h2 =>
            refine set_list pins s σ H _ _ v ov iv u Q I ro ri rv ⟨a, vs, k, j, rfl, rfl, h1, by rw [← h2.length]; exact ej, ?_⟩
            exact q _ (.write r el hp _) (r.write el hp (.lst upd_same (h2.set r3 j)))
        · cases e
      · cases e
    · rename_i ks l el
      split at e
      · rename_i k ek
        obtain rfl := kyOf_ok r2 ek
        split at e
        · rename_i hz
          cases e
          cases r.obj _ _ _ el hp with
          | @dic _ _ kvs h1 h2 h3 =>
            obtain rfl : ov = Value.ref a := ro
            have hl : kvs.length < sizeLine := by
              have := congrArg List.length h2
              simp at this
              omega
            refine d_setItem (H' := upd H a (.dK (putK kvs (kyK k) v))) (by omega) I (.inl ⟨kvs, kyK k, h1, rfl, hl, rfl⟩) ri rv fun s' I' => ⟨_, I', ?_⟩
            obtain ⟨g1, g2⟩ := putKy_ok (k := k) r3 h2 h3
            exact q _ (.write r el hp _) (r.write el hp (.dic upd_same g1 g2))
        · cases e
      · cases e
    · cases e
  · cases e
theorem simS_setIx {o i e : Expr} {mo mi me : Mx Va} {pos' : Pos} (hpl : plainE i = true) (hu : X.A.units + 64 < cLine) (ho : PE X o (TE' X ct W mo)) (hi : PE X i (TE' X ct W mi)) (he : PE X e (TE' X ct W me)) (hs : swapsWithSole [.Subscript o i pos'] e pos.line X.env = pure false) :
    PS X (.Assign [.Subscript o i pos'] e pos) (TS' X ct W (mSetIx mo mi me)) := by
  refine PS.mono (ps_asg he (pg_sub ho hi (set_V (ct := ct) (W := W) hu) (fun v => by cases i <;> first | rfl | (simp [plainE] at hpl))) hs) fun D σ H ⟨F, μ, env, st, r, re, p⟩ => ⟨F, μ, env, st, r, re, SPost.bind re p fun v st1 F1 μ1 H1 vv x1 r1 rv p1 => ?_⟩
  refine ⟨F1, μ1, env, st1, r1, re.mono x1, SPost.bind (re.mono x1) p1 fun o st2 F2 μ2 H2 ov x2 r2 ro p2 => ?_⟩
  have re2 := (re.mono x1).mono x2
  refine ⟨F2, μ2, env, st2, r2, re2, SPost.bind re2 p2 fun i st3 F3 μ3 H3 iv x3 r3 ri p3 => ?_⟩
  split at p3
  · rename_i st4 e4
    exact ⟨F3, μ3, st3, o, i, v, st4, r3, x3.rv ro, ri, x3.rv (x2.rv rv), e4, fun H' x r' => p3 F3 μ3 H' σ x r' ((re2.mono x3).mono x)⟩
  · exact p3.elim
theorem simS_aug {i : Nat} {x : Str} {e : Expr} {me : Mx Va} {sub : Bool} {op : Operator} {pos' : Pos} (hb : ct.Bears i) (hop : op = if sub then .Sub else .Add) (hN : X.N.Nodup) (hi : X.N[i]? = some x) (hx : Loc X.env.scope x) (he : PE X e (TE' X ct W me)) (hf : X.fn x = true ∨ X.env.scope.names.lookup x = some .local) :
    PS X (.AugAssign (.Name x pos') op e pos) (TS' X ct W (mAug i sub me)) := by
  have ho : PIp X op (ipI fun a b => if sub then a - b else a + b) := by
    subst hop
    cases sub
    · exact ip_add
    · exact ip_sub
  refine PS.mono (ps_aug hN hi hx he ho hf) fun D σ H ⟨F, μ, env, st, r, re, p⟩ => ?_
  unfold mAug at p
  split at p
  · rename_i w ew
    obtain ⟨v, e1, rv⟩ := re.get i w ew
    refine ⟨v, e1, F, μ, env, st, r, re, SPost.bind re p fun y st1 F1 μ1 H1 yv x1 r1 ry p1 => ?_⟩
    split at p1
    · rename_i a b ea eb
      obtain rfl := intOf_ok rv ea
      obtain rfl := intOf_ok ry eb
      exact ⟨a, b, rfl, rfl, p1 F1 μ1 H1 _ .refl r1 ((re.mono x1).set i hb (.int _))⟩
    · exact p1.elim
  · exact p.elim
theorem simS_expr {e : Expr} {me : Mx Va} (he : PE X e (TE' X ct W me)) (hs : swapsWith e none pos.line X.env = pure false) : PS X (.Expr e pos) (TS' X ct W (mExpr me)) :=
  PS.mono (ps_expr he hs) fun D σ H ⟨F, μ, env, st, r, re, p⟩ => ⟨F, μ, env, st, r, re, SPost.bind re p fun v st1 F1 μ1 H1 vv x1 r1 rv p1 => p1 F1 μ1 H1 σ .refl r1 (re.mono x1)⟩
theorem simS_ret {e : Expr} {me : Mx Va} (he : PE X e (TE' X ct W me)) : PS X (.Return (some e) pos) (TS' X ct W (mRet me)) :=
  PS.mono (ps_ret he) fun D σ H ⟨F, μ, env, st, r, re, p⟩ => ⟨F, μ, env, st, r, re, SPost.bind re p fun v st1 F1 μ1 H1 vv x1 r1 rv p1 => p1 F1 μ1 H1 vv .refl r1 rv⟩
theorem simS_retN : PS X (.Return none pos) (TS' X ct W fun _ st => .rt .non st) :=
  PS.mono ps_retN fun D σ H ⟨F, μ, env, st, r, re, p⟩ => p F μ H _ .refl r .non
theorem simS_if {c : Expr} {a b : List Stmt} {mt : Mx Bool} {ma mb : Ms} (hc : PT X c (TT' X ct W mt)) (ha : PSs X a (TS' X ct W ma)) (hb : PSs X b (TS' X ct W mb)) : PS X (.If c a b pos) (TS' X ct W (mIfS mt ma mb)) := by
  refine PS.mono (ps_if hc ha hb) fun D σ H ⟨F, μ, env, st, r, re, p⟩ => ⟨F, μ, env, st, r, re, SPost.bind re p fun k st1 F1 μ1 H1 k' x1 r1 ek p1 => ?_⟩
  subst ek
  cases k with
  | true => exact ⟨F1, μ1, env, st1, r1, re.mono x1, p1⟩
  | false => exact ⟨F1, μ1, env, st1, r1, re.mono x1, p1⟩
theorem simS_while {c : Expr} {b : List Stmt} {mt : Mx Bool} {mb : Ms} (hp : PassesOwn (model X.prog X.w) X.A X.env X.xe) (hc : PT X c (TT' X ct W mt)) (hb : PSs X b (TS' X ct W mb)) (n : Nat) : PS X (.While c b [] pos) (TS' X ct W (whileN mt mb n)) := by
  refine PS.mono (ps_while hp hc hb) fun D σ H h => ?_
  refine ⟨fun m σ H => ∃ F μ env st, Rel X.K ct F μ st H ∧ REnv X.K ct F μ env σ ∧ SPost X.K ct W D F μ H (whileN mt mb m env st), ⟨n, h⟩, ?_⟩
  rintro m σ H ⟨F, μ, env, st, r, re, p⟩
  cases m with
  | zero => exact p.elim
  | succ m =>
    refine ⟨F, μ, env, st, r, re, SPost.bind re p fun k st1 F1 μ1 H1 k' x1 r1 ek p1 => ?_⟩
    subst ek
    cases k with
    | false =>
      rw [if_neg Bool.false_ne_true]
      exact p1 F1 μ1 H1 σ .refl r1 (re.mono x1)
    | true =>
      rw [if_pos rfl]
      refine ⟨fun σ' H' => ∃ F μ env st, Rel X.K ct F μ st H' ∧ REnv X.K ct F μ env σ' ∧ SPost X.K ct W D F μ H' (whileN mt mb m env st), fun σ' H' q => ⟨m, Nat.lt_succ_self m, q⟩, F1, μ1, env, st1, r1, re.mono x1, ?_⟩
      simp only [if_true] at p1
      cases e : mb env st1 with
      | nx env2 st2 => rw [e] at p1; exact fun F' μ' H' σ' x r' re' => ⟨F', μ', env2, st2, r', re', SPost.at x p1⟩
      | ct env2 st2 => rw [e] at p1; exact fun F' μ' H' σ' x r' re' => ⟨F', μ', env2, st2, r', re', SPost.at x p1⟩
      | rt w st2 => rw [e] at p1; exact p1
      | err y env2 st2 => rw [e] at p1; exact p1
      | stuck => rw [e] at p1; exact p1
theorem simS_for {tg : Tg} {t i : Expr} {b : List Stmt} {mi : Mx (List Va × Gd)} {mb : Ms} (hbe : ∀ j ∈ tgIx tg, ct.Bears j) (hp : PassesOwn (model X.prog X.w) X.A X.env X.xe) (hc : X.calm = true) (hi : PI X t i (TI' X ct W mi)) (hg : PG X t (gSet X.K tg)) (hb : PSs X b (TS' X ct W mb)) (hs : ∀ x, foldedSetIterable i X.env x = pure x) :
    PS X (.For t i b [] pos) (TS' X ct W (mFor tg mi mb)) := by
  refine PS.mono (ps_for hp hc hi hg hb hs) fun D σ H ⟨F, μ, env, st, r, re, p⟩ => ⟨F, μ, env, st, r, re, SPost.bind re p fun wg st1 F1 μ1 H1 J x1 r1 hJ p1 => ?_⟩
  refine ⟨fun i m σ H => m = wg.1.length - i ∧ i ≤ wg.1.length ∧ ∃ F μ env st, Ext F1 μ1 H1 F μ H ∧ Rel X.K ct F μ st H ∧ REnv X.K ct F μ env σ ∧ SPost X.K ct W D F μ H (forRun tg wg.2 mb (wg.1.drop i) env st),
    ⟨_, rfl, Nat.zero_le _, F1, μ1, env, st1, .refl, r1, re.mono x1, by rw [List.drop_zero]; exact p1⟩, ?_⟩
  rintro i m σ H ⟨rfl, hi', F2, μ2, env2, st2, x2, r2, re2, p2⟩
  by_cases hlt : i < wg.1.length
  · obtain ⟨w, hw⟩ : ∃ w, wg.1[i]? = some w := ⟨_, List.getElem?_eq_getElem hlt⟩
    have hdrop : wg.1.drop i = w :: wg.1.drop (i + 1) := by
      rw [List.drop_eq_getElem_cons hlt]
      rw [List.getElem?_eq_getElem hlt] at hw
      rw [Option.some.inj hw]
    rw [hdrop] at p2
    unfold forRun at p2
    split at p2
    · rename_i hgd
      have hIt := (hJ F2 μ2 st2 H x2.fr x2.pre r2 (gdB_ok hgd) i).2 w hw
      refine .inr ⟨hIt.1, fun σ' H' => i + 1 ≤ wg.1.length ∧ ∃ F μ env st, Ext F1 μ1 H1 F μ H' ∧ Rel X.K ct F μ st H' ∧ REnv X.K ct F μ env σ' ∧ SPost X.K ct W D F μ H' (forRun tg wg.2 mb (wg.1.drop (i + 1)) env st),
        fun σ' H' q => ⟨wg.1.length - (i + 1), by omega, rfl, q⟩, fun x H3 y => ?_⟩
      obtain ⟨F3, x3, r3, rx⟩ := hIt.2 x H3 y
      split at p2
      · exact p2.elim
      · rename_i env3 et
        refine gSet_of r3 (re2.mono x3) rx et hbe fun σ' re' _ => ⟨F3, μ2, env3, st2, r3, re', ?_⟩
        have p3 := SPost.at x3 p2
        cases e : mb env3 st2 with
        | nx env4 st4 => rw [e] at p3; exact fun F' μ' H' σ' x r' re' => ⟨hlt, F', μ', env4, st4, (x2.trans x3).trans x, r', re', SPost.at x p3⟩
        | ct env4 st4 => rw [e] at p3; exact fun F' μ' H' σ' x r' re' => ⟨hlt, F', μ', env4, st4, (x2.trans x3).trans x, r', re', SPost.at x p3⟩
        | rt w st4 => rw [e] at p3; exact p3
        | err y env4 st4 => rw [e] at p3; exact p3
        | stuck => rw [e] at p3; exact p3
    · exact p2.elim
  · have hi2 : i = wg.1.length := by omega
    rw [List.drop_eq_nil_of_le (by omega)] at p2
    unfold forRun at p2
    split at p2
    · rename_i hgd
      exact .inl ⟨(hJ F2 μ2 st2 H x2.fr x2.pre r2 (gdB_ok hgd) i).1 hi2, p2 F2 μ2 H σ .refl r2 re2⟩
    · exact p2.elim
end
end G

set_option Elab.async false
set_option linter.all false
set_option maxRecDepth 100000
set_option maxHeartbeats 8000000
namespace G
open PySem PySem.Spec PyProof.Rows L2

/-! ### try with several clauses, named or not -/
/-- the ends of a suite whose name goes -/
def Eclr (io : Option Nat) (D : Ends) : Ends := match io with
  | none => D
  | some i => { nx := fun σ' H' => D.nx (σ'.set i none) H', rt := D.rt, bk := fun σ' H' => D.bk (σ'.set i none) H', ct := fun σ' H' => D.ct (σ'.set i none) H' }
def Sset (io : Option Nat) (a : Addr) (σ : L2.St) : L2.St := match io with
  | none => σ
  | some i => σ.set i (some (.ref a))
abbrev Hd3 := Value × Option Nat × (Addr → Value → Option Addr → TS)
/-- what the clauses wish -/
def wG (K : PySem.W.Frag) (nN : Nat) (Wo : WX) (D : Ends) : List Hd3 → WX
  | [] => Wo
  | (c, io, ts) :: r => fun cls d σ H => ∃ b, PySem.W.exmOne K cls c = some b ∧ (b = true → σ.length = nN → ∀ a, H a = none → ts a cls d (Eclr io D) (Sset io a σ) H) ∧ (b = false → wG K nN Wo D r cls d σ H)
inductive HdsG (X : Cx) : List ExceptHandler → List Hd3 → Prop
  | nil : HdsG X [] []
  | cons {x : Str} {c : Value} {io : Option Nat} {on : Option Str} {ts : Addr → Value → Option Addr → TS} {b₀ : Stmt} {su : List Stmt} {np pos' : Pos} {hds : List ExceptHandler} {l : List Hd3} (hc : Names X x c)
      (hn : (io = none ∧ on = none) ∨ ∃ i n, io = some i ∧ on = some n ∧ X.N[i]? = some n ∧ X.env.kindOf n = some .local)
      (hsu : ∀ (a : Addr) (oe : Obj) (cls : Value) (d : Option Addr) (pn : List (Addr × Obj)), Zc cls d oe → (∃ vs, oe.data = .fields vs) → PSs (X.suite a ((a, oe) :: pn)) (b₀ :: su) (ts a cls d)) (r : HdsG X hds l) :
      HdsG X (.ExceptHandler (some (.Name x np)) on (b₀ :: su) pos' :: hds) ((c, io, ts) :: l)
section
variable {X : Cx} {body : List Stmt} {h₀ : ExceptHandler} {hds : List ExceptHandler} {l : List Hd3} {pos : Pos} {tb : WX → TS} {Wo : WX}
theorem ps_tryG (hs : X.stack = X.env :: X.outer) (hf : X.env.frame = some X.env.locals) (hN : X.N.Nodup) (tk : Takes X Wo)
    (hb : ∀ (W : WX) (pn : List (Addr × Obj)) (xe : Value → Shared → Prop), Takes (X.tr pn xe) W → PassesOwn (model X.prog X.w) X.A X.env xe → PSs (X.tr pn xe) body (tb W))
    (hh : HdsG X (h₀ :: hds) l) : PS X (.Try body (h₀ :: hds) [] [] pos) (fun D σ H => tb (wG X.K X.N.length Wo D l) D σ H) := by
  refine ⟨fun pins s σ H D I h => ?_⟩
  have ok := I.ok
  have hfr : X.A.frames = some (X.env :: X.outer) := by rw [ok.frames, hs]
  refine wpAny_Try_except ?_
  refine wpAny_mono ((hb (wG X.K X.N.length Wo D l) (X.pn ++ pins) (fun e s₁ => wpAny (model X.prog X.w) X.A (noteFrame e X.env) (fun _ s₂ => wpAny (model X.prog X.w) X.A (setFlight e none) (fun _ s₃ =>
    wpAny (model X.prog X.w) X.A (handleBy e X.env (h₀ :: hds)) (SP X pins D) X.xe s₃) X.xe s₂) X.xe s₁) (fun u s' xx => ?_) PassesOwn.looking).run [] s σ H D (I.toTry _) h) (fun f s1 hsp => ?_) (fun e s1 he => he)
  · -- the catch
    obtain ⟨a, B, sI, pins', σ', H', cls, d, rfl, J', nb, up, sky, na, os, ag, w⟩ := xx
    have J : Inv X pins σ' H' sI := J'.ofTry ok
    have sky' : Sky B (X.env :: X.outer) a (Zc cls d) X.env.locals s'.heap := by rw [← hs]; exact sky
    show wpAny (model X.prog X.w) X.A (noteFrame (.ref a) X.env) _ _ _
    refine Sky.land Zc.steady hfr hf sky' fun h3 fl3 up3 => ?_
    have J3 : Inv X pins σ' H' { s' with heap := h3 } := J.landed nb fl3.1 (up.trans up3) os ag
    obtain ⟨oe3, vs3, he3, hz3, hd3⟩ := fl3.there
    have notFr : ∀ {h : Heap} {o : Obj} {vs : Array Value}, h.FunFrames B (X.env :: X.outer) → h.get? a = some o → o.data = .fields vs → a ∉ frs (X.env :: X.outer) := fun {h o vs} ff e dd hm => by
      obtain ⟨_, o', e', hnf⟩ := ff.mem hm
      rw [e] at e'; cases e'
      exact hnf _ dd
    have nfr := notFr fl3.2.2.1 he3 hd3
    have nL : a ≠ X.env.locals := fun z => nfr (List.mem_filterMap.mpr ⟨X.env, List.mem_cons_self, by rw [hf, z]⟩)
    have nF : a ∉ X.fs := fun hm => by
      obtain ⟨e, he, q⟩ := List.mem_filterMap.mp hm
      exact nfr (List.mem_filterMap.mpr ⟨e, List.mem_cons_of_mem _ he, q⟩)
    have S3 := J3.suite he3 hd3 na nL nF
    have go : ∀ {hds' : List ExceptHandler} {l' : List Hd3}, HdsG X hds' l' → wG X.K X.N.length Wo D l' cls d σ' H' →
        wpAny (model X.prog X.w) X.A (handleBy (.ref a) X.env hds') (SP X pins D) X.xe { s' with heap := h3 } := by
      intro hds' l' hk
      induction hk with
      | nil =>
        intro w
        refine wpAny_handleBy_nil ?_
        obtain ⟨k1, k2, k3, oe, vs, T, oT, ts', he, hz, hd, h1, hr⟩ := id fl3
        unfold PySem.passOn
        refine wpAny_bind (wpAny_field he hd h1 ?_)
        rw [if_neg (show ¬ ((Value.ref T == Value.none) = true) from by simp)]
        have fin : wpAny (model X.prog X.w) X.A (setFlight (.ref a) X.env.frame) (fun _ s4 => wpAny (model X.prog X.w) X.A (throw (.ref a) : Sem Flow) (SP X pins D) X.xe s4) X.xe { s' with heap := h3 } := by
          rw [hf]
          refine HandSPX.setFlight_upZ fl3 fun h4 hh4 up4 => wpAny_throw (tk _ _ ?_)
          exact ⟨a, B, sI, pins, σ', H', cls, d, rfl, J, nb, (up.trans up3).trans up4, .inr (.inr (by rw [hs]; exact hh4)), na, os, ag, w⟩
        first
          | exact wpAny_bind (wpAny_pure (wpAny_bind fin))
          | exact wpAny_bind fin
      | @cons x c io on ts b₀ su np pos' hds2 l2 hc hnn hsu r ih =>
        intro w
        obtain ⟨b, hb1, hyes, hno⟩ := w
        refine wpAny_handleBy_cons (codeAny_handlers_test ?_) (by intro q; cases q)
        have LT : PySem.W.Looks (model X.prog X.w) h3 (typeOf (.ref a)) cls := fun A Q E s k q => wpAny_typeOf_ref (k _ _ he3) (by rw [hz3.1]; exact q)
        have LM := PySem.W.exm_one (M := model X.prog X.w) (J3.kIn) LT hb1
        have test : ∀ {Q : Value → Shared → Prop} {E : Value → Shared → Prop}, Q c { s' with heap := h3 } → wpAny (model X.prog X.w) (X.A.mark (some (.ref a))) (eval (.Name x np) X.env) Q E { s' with heap := h3 } := fun {Q E} q => by
          obtain ⟨hg, hdbg, hm | ⟨hm, hv, hnn⟩⟩ := hc
          · exact ld_glob (X := X.suite a ((a, oe3) :: (X.pn ++ pins))) S3 hg hm q hdbg
          · exact ld_blt (X := X.suite a ((a, oe3) :: (X.pn ++ pins))) S3 hg hm hv q hnn hdbg
        refine test (LM.here ?_)
        cases b with
        | true =>
          rcases hnn with ⟨rfl, rfl⟩ | ⟨i, n, rfl, rfl, hi, hln⟩
          · refine codeAny_handlers_suite ?_
            refine HandSPX.lands_againZ fl3 fun h4 fl4 up4 => ?_
            have J4 : Inv X pins σ' H' { s' with heap := h4 } := J.landed nb fl4.1 ((up.trans up3).trans up4) os ag
            obtain ⟨oe4, vs4, he4, hz4, hd4⟩ := fl4.there
            have S4 := J4.suite he4 hd4 na nL nF
            refine wpAny_mono ((hsu a oe4 cls d (X.pn ++ pins) hz4 ⟨_, hd4⟩).run [] _ _ H' _ S4 (hyes rfl J.len a na)) (fun f s6 hsp => ?_) (fun _ _ z => False.elim z)
            cases f with
            | next =>
              obtain ⟨σ6, H6, S6, q6⟩ := hsp
              exact ⟨_, _, S6.unsuite ok, q6⟩
            | brk =>
              obtain ⟨σ6, H6, S6, q6⟩ := hsp
              exact ⟨_, _, S6.unsuite ok, q6⟩
            | cont =>
              obtain ⟨σ6, H6, S6, q6⟩ := hsp
              exact ⟨_, _, S6.unsuite ok, q6⟩
            | ret u =>
              obtain ⟨v6, σ6, H6, S6, r6, q6⟩ := hsp
              exact ⟨_, _, _, S6.unsuite ok, r6, q6⟩
          · have hloc : Loc X.env.scope n := .inl hln
            refine codeAny_handlers_suite_as ?_
            refine HandSPX.lands_againZ fl3 fun h4 fl4 up4 => ?_
            have J4 : Inv X pins σ' H' { s' with heap := h4 } := J.landed nb fl4.1 ((up.trans up3).trans up4) os ag
            obtain ⟨oe4, vs4, he4, hz4, hd4⟩ := fl4.there
            have S4 := J4.suite he4 hd4 na nL nF
            refine store_ok (X := X.suite a ((a, oe4) :: (X.pn ++ pins))) (v := .ref a) S4 hN hi hloc rfl (fun s5 S5 => ?_) (.inr hln)
            refine wpAny_mono ((hsu a oe4 cls d (X.pn ++ pins) hz4 ⟨_, hd4⟩).run [] s5 _ H' _ S5 (hyes rfl J.len a na)) (fun f s6 hsp => ?_) (fun _ _ z => False.elim z)
            have end_ : ∀ {σ6 : L2.St} {H6 : Hp} {Q : Shared → Prop}, Inv (X.suite a ((a, oe4) :: (X.pn ++ pins))) [] σ6 H6 s6 → (∀ s7, Inv X pins (σ6.set i none) H6 s7 → Q s7) →
                wpAny (model X.prog X.w) X.A (do bindName X.env n .none; unbindBehindTheSuite X.env n pos') (fun _ s7 => Q s7) X.xe s6 := fun {σ6 H6 Q} S6 hq => gone_ok (S6.unsuite ok) hN hi hln hq
            cases f with
            | next =>
              obtain ⟨σ6, H6, S6, q6⟩ := hsp
              exact end_ S6 fun s7 J7 => ⟨_, _, J7, q6⟩
            | brk =>
              obtain ⟨σ6, H6, S6, q6⟩ := hsp
              exact end_ S6 fun s7 J7 => ⟨_, _, J7, q6⟩
            | cont =>
              obtain ⟨σ6, H6, S6, q6⟩ := hsp
              exact end_ S6 fun s7 J7 => ⟨_, _, J7, q6⟩
            | ret u =>
              obtain ⟨v6, σ6, H6, S6, r6, q6⟩ := hsp
              exact end_ S6 fun s7 J7 => ⟨_, _, _, J7, r6, q6⟩
        | false =>
          show wpAny _ X.A (handleBy (.ref a) X.env hds2) _ _ _
          exact ih (hno rfl)
    exact go hh w
  · cases f with
    | next =>
      obtain ⟨σ', H', J', q⟩ := hsp
      exact wpAny_execs_nil ⟨σ', H', J'.ofTry ok, q⟩
    | brk =>
      obtain ⟨σ', H', J', q⟩ := hsp
      exact ⟨σ', H', J'.ofTry ok, q⟩
    | cont =>
      obtain ⟨σ', H', J', q⟩ := hsp
      exact ⟨σ', H', J'.ofTry ok, q⟩
    | ret u =>
      obtain ⟨v, σ', H', J', r, q⟩ := hsp
      exact ⟨v, σ', H', J'.ofTry ok, r, q⟩
end
end G

set_option Elab.async false
set_option linter.all false
set_option maxRecDepth 100000
set_option maxHeartbeats 8000000
namespace G
open PySem PySem.Spec PyProof.Rows L2

/-! ### raise, try -/
section
variable {K : PySem.W.Frag} {ct ct' : Ct} {F F' : Hp} {μ : List Addr} {H : Hp} {st : Sto} {env : Ev} {σ : L2.St}
theorem RO.tab {a : Addr} {o : Ob} (e : ct.tab = ct'.tab) (h : RO K ct F μ H a o) : RO K ct' F μ H a o := by
  cases h with
  | lst h r => exact .lst h r
  | dic h k r => exact .dic h k r
  | ins c h k r => exact .ins (e ▸ c) h k r
theorem Rel.tab (e : ct.tab = ct'.tab) (e2 : ct'.tps = ct.tps) (r : Rel K ct F μ st H) : Rel K ct' F μ st H := ⟨r.sub, r.len, fun p o a h1 h2 => (r.obj p o a h1 h2).tab e, r.dis, r.inj, r.mtr, fun P m => r.tabs P (e2 ▸ m)⟩
theorem RX.tab {x : Exc} {cls : Value} {d : Option Addr} (e : ct.tab = ct'.tab) (r : RX K ct F μ x cls d) : RX K ct' F μ x cls d := ⟨e ▸ r.cls, r.fs, r.dd⟩
theorem clr_len (io : Option Nat) (env : Ev) : (clr io env).length = env.length := by
  cases io with
  | none => rfl
  | some i => exact List.length_set
/-- into a suite -/
theorem REnv.hot {a : Addr} (io : Option Nat) (r : REnv K ct F μ env σ) (h : ct'.inv (Sset io a σ) F) : REnv K ct' F μ (clr io env) (Sset io a σ) := by
  cases io with
  | none => exact ⟨r.len, r.get, h⟩
  | some i =>
    refine ⟨by show (env.set i none).length = (σ.set i _).length; simp [r.len], fun j w e => ?_, h⟩
    have e : (env.set i none)[j]? = some (some w) := e
    show ∃ v, (σ.set i (some (.ref a)))[j]? = some (some v) ∧ _
    by_cases hj : i = j
    · subst hj
      by_cases hl : i < env.length
      · rw [List.getElem?_set_self hl] at e; cases e
      · rw [List.getElem?_eq_none (by simpa using hl)] at e; cases e
    · rw [List.getElem?_set_ne hj] at e ⊢
      exact r.get j w e
def Sclr (io : Option Nat) (σ : L2.St) : L2.St := match io with
  | none => σ
  | some i => σ.set i none
/-- out of it -/
theorem REnv.cool (io : Option Nat) (hc : ∀ σ F, ct.inv σ F) (r : REnv K ct' F μ env σ) : REnv K ct F μ (clr io env) (Sclr io σ) := by
  cases io with
  | none => exact ⟨r.len, r.get, hc _ _⟩
  | some i =>
    refine ⟨by show (env.set i none).length = (σ.set i _).length; simp [r.len], fun j w e => ?_, hc _ _⟩
    have e : (env.set i none)[j]? = some (some w) := e
    show ∃ v, (σ.set i none)[j]? = some (some v) ∧ _
    by_cases hj : i = j
    · subst hj
      by_cases hl : i < env.length
      · rw [List.getElem?_set_self hl] at e; cases e
      · rw [List.getElem?_eq_none (by simpa using hl)] at e; cases e
    · rw [List.getElem?_set_ne hj] at e ⊢
      exact r.get j w e
/-- what is known in the suite -/
def hotCt (K : PySem.W.Frag) (ct : Ct) (io : Option Nat) (a : Addr) (cls : Value) (d : Option Addr) (x : Exc) : Ct where
  tab := ct.tab
  tps := ct.tps
  inv := fun σ F => (∀ i, io = some i → σ[i]? = some (some (.ref a))) ∧ RX K ct F [] x cls d
  mono := fun σ F F' s h => ⟨h.1, h.2.cls, fun n w e => let ⟨d', fvs, v, h1, h2, h3, h4⟩ := h.2.fs n w e; ⟨d', fvs, v, h1, s _ _ h2, h3, h4.mono s List.prefix_rfl⟩, h.2.dd.imp (fun e => e) fun ⟨d', fvs, g1, g2⟩ => ⟨d', fvs, g1, s _ _ g2⟩⟩
theorem Rel.toHot {io : Option Nat} {a : Addr} {cls : Value} {d : Option Addr} {x : Exc} (r : Rel K ct F μ st H) : Rel K (hotCt K ct io a cls d x) F μ st H := Rel.tab (show ct.tab = (hotCt K ct io a cls d x).tab from rfl) rfl r
theorem Rel.ofHot {io : Option Nat} {a : Addr} {cls : Value} {d : Option Addr} {x : Exc} (r : Rel K (hotCt K ct io a cls d x) F μ st H) : Rel K ct F μ st H := Rel.tab (show (hotCt K ct io a cls d x).tab = ct.tab from rfl) rfl r
theorem RX.free {x : Exc} {cls : Value} {d : Option Addr} (r : RX K ct F μ x cls d) (h : (x.fs.all fun p => G.free p.2) = true) : RX K ct F [] x cls d :=
  ⟨r.cls, fun n w hw => let ⟨d', fvs, v, a1, a2, a3, a4⟩ := r.fs n w hw; ⟨d', fvs, v, a1, a2, a3, a4.free (List.all_eq_true.mp h _ (lookup_mem hw))⟩, r.dd⟩
end
section
variable {X : Cx} {ct : Ct} {W : WX} {L : Lm}
theorem simS_rais {c m : Str} {j : Nat} {p p2 pos pos' : Pos} (hc : X.calm = true) (tk : Takes X W) (xs : XsOk X.prog X.K X.mg ct L.xs) (hg : Gl X c) (hdb : (c == ("__debug__" : Str)) = false) : PS X (.Raise (some (.Call (.Name c p) [.Constant (.str m) j p2] [] pos)) none pos') (TS' X ct W (mRais L c)) := by
  cases e : L.xs.pl c with
  | none =>
    refine ⟨fun pins s σ H D I ⟨F, μ, env, st, r, re, q⟩ => ?_⟩
    unfold mRais at q
    simp only [e] at q
    exact q.elim
  | some z =>
    obtain ⟨C, e1, e2, e3, e4, e5, e6⟩ := xs.pl _ _ e
    refine PS.mono (ps_raise hc tk (pmk_own PySem.F.excBase_ValueError e3 e2 e4 (raises_own e5 e6) hg hdb)) fun D σ H ⟨F, μ, env, st, r, re, q⟩ => ?_
    unfold mRais at q
    simp only [e] at q
    exact q F μ H σ _ _ .refl r re ⟨⟨C, e1, rfl⟩, fun n w h => (by simp at h), .inl rfl⟩
theorem Passes.nev : Passes (L2.CX X.prog X.w) X (fun _ _ _ => False) := fun pins σ H s e s' I h => by
  obtain ⟨_, _, _, _, _, _, _, _, _, _, _, _, z⟩ := h
  exact z.elim
theorem pcW_ok {K : PySem.W.Frag} {F : Hp} {μ : List Addr} {ws : List Va} {vs : List V} (r : RVs K F μ ws vs) : ∀ {p : Pc}, pcW ws p = true → pcV vs p
  | .c s, h => by
    have h : decide (s.length ≤ 1000000) = true := h
    show s.length ≤ 1000000
    exact of_decide_eq_true h
  | .p i, h => by
    have h : (match ws[i]? with
      | some (.str y) => decide (y.length ≤ 1000000)
      | some (.int k) => decide (k.natAbs.log2 < 1920)
      | _ => false) = true := h
    split at h
    · rename_i y e
      obtain ⟨v, e1, rv⟩ := r.get e
      cases rv
      exact .inl ⟨_, e1, by simpa [mkS, PySem.Str.length] using of_decide_eq_true h⟩
    · rename_i k e
      obtain ⟨v, e1, rv⟩ := r.get e
      cases rv
      exact .inr ⟨_, e1, of_decide_eq_true h⟩
    · cases h
theorem runFs_ok {K : PySem.W.Frag} {F : Hp} {μ : List Addr} {ws : List Va} {vs : List V} (r : RVs K F μ ws vs) : ∀ {l : List (Str × Nat)} {acc : List (Str × Va)} {acv : List (Str × V)} {fs : List (Str × Va)}, acv.map (·.1) = acc.map (·.1) → RVs K F μ (acc.map (·.2)) (acv.map (·.2)) → runFs ws l acc = some fs →
    ∃ fvs, runFs vs l acv = some fvs ∧ fvs.map (·.1) = fs.map (·.1) ∧ RVs K F μ (fs.map (·.2)) (fvs.map (·.2))
  | [], acc, acv, fs, h1, h2, h => by cases h; exact ⟨_, rfl, h1, h2⟩
  | (f, i) :: l, acc, acv, fs, h1, h2, h => by
    unfold runFs at h ⊢
    cases e : ws[i]? with
    | none => rw [e] at h; cases h
    | some w =>
      rw [e] at h
      obtain ⟨v, e1, rv⟩ := r.get e
      rw [e1]
      exact runFs_ok r (acc := (f, w) :: acc) (acv := (f, v) :: acv) (by simp [h1]) (.cons rv h2) h
theorem fs_look {K : PySem.W.Frag} {F : Hp} {μ : List Addr} {n : Tx} {w : Va} : ∀ {fs : List (Str × Va)} {fvs : List (Str × V)}, fvs.map (·.1) = fs.map (·.1) → RVs K F μ (fs.map (·.2)) (fvs.map (·.2)) → (fs.map fun p => (p.1.cps.toList, p.2)).lookup n = some w → ∃ v, fvs.lookup (mkS n) = some v ∧ RV K F μ w v
  | [], fvs, h1, h2, h => by simp at h
  | (f, x) :: fs, [], h1, h2, h => by simp at h1
  | (f, x) :: fs, (g, y) :: fvs, h1, h2, h => by
    simp only [List.map_cons, List.cons.injEq] at h1
    obtain ⟨rfl, h1⟩ := h1
    cases h2 with
    | cons r t =>
      simp only [List.map_cons, List.lookup_cons] at h ⊢
      by_cases e : n = g.cps.toList
      · have e1 : (n == g.cps.toList) = true := by simpa using e
        rw [e1] at h
        cases h
        have e2 : (mkS n == g) = true := by rw [e, mkS_tl]; simp
        rw [e2]
        exact ⟨y, rfl, r⟩
      · have e1 : (n == g.cps.toList) = false := by simpa using e
        rw [e1] at h
        have e2 : (mkS n == g) = false := by
          simp only [beq_eq_false_iff_ne]
          intro z
          exact e (by rw [← z]; rfl)
        rw [e2]
        exact fs_look h1 t h
theorem simS_raisI {k : Nat} {c : Str} {e : Expr} {es : List Expr} {ml : Mx (List Va)} {p pos pos' : Pos} (hr : Room (k + 2) X.A) (hc : X.calm = true) (tk : Takes X W) (xs : XsOk X.prog X.K X.mg ct L.xs) (hg : Gl X c) (ha : PA X (e :: es) (TA' X ct W ml)) (hdb : (c == ("__debug__" : Str)) = false)
    (he : starEach (e :: es) X.env = (false, eval e X.env) :: starEach es X.env) (hpl : (backTo pos (starEach es X.env)).any (·.1) = false) : PS X (.Raise (some (.Call (.Name c p) (e :: es) [] pos)) none pos') (TS' X ct W (mRaisI L c ml)) := by
  cases eo : L.xs.ow c with
  | none =>
    refine ⟨fun pins s σ H D I ⟨F, μ, env, st, r, re, q⟩ => ?_⟩
    unfold mRaisI at q
    rw [eo] at q
    exact q.elim
  | some o =>
    obtain ⟨C, fI, fd, ns, e1, e2, ok⟩ := xs.ow _ _ eo
    obtain ⟨_, _, _, _, _, _, Ik, _, _⟩ := ok.ex
    refine PS.mono (ps_raise hc tk (pmk_oex (ds := []) (dvs := []) Ik.oex ok.fi ok.ti (ini_fn (w := X.w) (base := X.base) ok) (hr.mono (by omega)) ok.bi .nil Passes.nev hg e2 ha hdb he hpl)) fun D σ H ⟨F, μ, env, st, r, re, q⟩ => ?_
    unfold mRaisI at q
    simp only [eo] at q
    refine ⟨F, μ, env, st, r, re, SPost.bind re q fun ws st1 F1 μ1 H1 vs x1 r1 rvs p1 => ?_⟩
    split at p1
    case isFalse => exact p1.elim
    rename_i hcond
    obtain ⟨hl, hn, ht, hp⟩ := hcond
    split at p1
    case h_2 => exact p1.elim
    rename_i fs efs
    obtain ⟨fvs, f1, f2, f3⟩ := runFs_ok rvs (acv := []) rfl .nil efs
    refine ⟨by rw [← rvs.length, hl]; omega, fun a ha => ⟨a, vs ++ [], rfl, by rw [List.append_nil, ← rvs.length, hl], upd_same, ht, fun y hy => by rw [List.append_nil]; exact pcW_ok rvs (List.all_eq_true.mp hp y hy), fvs, by rw [List.append_nil]; exact f1, fun d H2 hd hda g1 g2 g3 => ?_⟩⟩
    rw [upd_ne hda] at hd
    refine ⟨rfl, d, fvs, g1, g2, hd, ?_⟩
    have eH : upd (del H2 a) d (.xd fvs) = upd H1 d (.xd fvs) := by
      funext b
      by_cases hb : b = d
      · rw [hb, upd_same, upd_same]
      · rw [upd_ne hb, upd_ne hb]
        by_cases hba : b = a
        · rw [hba, del_same, ha]
        · rw [del_ne hba, g3 b hba hb, upd_ne hba]
    rw [eH]
    have x2 := Ext.frz r1 hd (.xd fvs)
    have r2 := Rel.frz r1 hd (.xd fvs)
    exact p1 _ _ _ _ _ _ x2 r2 ((re.mono x1).mono x2) ⟨⟨C, e1, rfl⟩, fun n w hw => by
      obtain ⟨v, v1, v2⟩ := fs_look f2 f3 hw
      exact ⟨d, fvs, v, rfl, upd_same, v1, x2.rv v2⟩, .inr ⟨d, fvs, rfl, upd_same⟩⟩
/-- a clause -/
structure Cl where
  c : Str
  io : Option Nat
  m : Lm → Ms
def selAll (L : Lm) : List Cl → Ms
  | [] => mHend L
  | k :: r => mSel L k.c (mHnd k.io (k.m L)) (selAll L r)
theorem Eclr_nx (io : Option Nat) (D : Ends) (σ : L2.St) (H : Hp) : (Eclr io D).nx σ H ↔ D.nx (Sclr io σ) H := by cases io <;> exact Iff.rfl
theorem Eclr_ct (io : Option Nat) (D : Ends) (σ : L2.St) (H : Hp) : (Eclr io D).ct σ H ↔ D.ct (Sclr io σ) H := by cases io <;> exact Iff.rfl
theorem Eclr_rt (io : Option Nat) (D : Ends) : (Eclr io D).rt = D.rt := by cases io <;> rfl
/-- the clauses, each with what its class is -/
def lG (K : PySem.W.Frag) (ct : Ct) (L : Lm) (cl : List Cl) (cvs : List Value) : List Hd3 := (cl.zip cvs).map fun p => (p.2, p.1.io, fun a cls d => fun D σ H => ∃ x F μ env st, Rel K (hotCt K ct p.1.io a cls d x) F μ st H ∧ REnv K (hotCt K ct p.1.io a cls d x) F μ env σ ∧ SPost K (hotCt K ct p.1.io a cls d x) W0 D F μ H (p.1.m { L with xh := some x } env st))
theorem wG_of {nN : Nat} {P : Program} {K : PySem.W.Frag} {mg : Str → Option Value} {D : Ends} {x : Exc} {cls : Value} {d : Option Addr} (xs : XsOk P K mg ct L.xs) (hcold : ∀ σ F, ct.inv σ F) : ∀ {cl : List Cl} {cvs : List Value} {F : Hp} {μ : List Addr} {env : Ev} {st : Sto} {σ : L2.St} {H : Hp},
    cvs.length = cl.length → (∀ (i : Nat) k cv, cl[i]? = some k → cvs[i]? = some cv → mg k.c = some cv ∨ (mg k.c = none ∧ bootBuiltins k.c = some cv)) → (∀ k ∈ cl, ∀ i, k.io = some i → i < nN) →
    Rel K ct F μ st H → REnv K ct F μ env σ → RX K ct F [] x cls d → SPost K ct W D F μ H (selAll { L with xh := some x } cl env st) → wG K nN W D (lG K ct L cl cvs) cls d σ H
  | [], cvs, F, μ, env, st, σ, H, hl, hc, hn, r, re, rx, q => by
    show W cls d σ H
    exact q F μ H σ cls d .refl r re ⟨rx.cls, fun n w e => let ⟨d', fvs, v, a1, a2, a3, a4⟩ := rx.fs n w e; ⟨d', fvs, v, a1, a2, a3, a4.mono (fun _ _ h => h) List.nil_prefix⟩, rx.dd⟩
  | k :: cl, [], _, _, _, _, _, _, hl, _, _, _, _, _, _ => by simp at hl
  | k :: cl, cv :: cvs, F, μ, env, st, σ, H, hl, hc, hn, r, re, rx, q => by
    unfold selAll mSel at q
    cases es : L.xs.sub x.cls k.c with
    | none => simp only [es] at q; exact q.elim
    | some b =>
      obtain ⟨C, e1, e2⟩ := xs.sub _ _ _ es
      obtain ⟨C', e3, e4⟩ := rx.cls
      have e5 := Option.some.inj (e3.symm.trans e1)
      subst e5
      have hcv : PySem.W.exmOne K cls cv = some b := by
        rw [e4]
        rcases hc 0 k cv rfl rfl with h | ⟨h1, h2⟩
        · rcases e2 with ⟨D', m1, m2, _⟩ | ⟨n, m1, _⟩
          · rw [h] at m1; cases m1; exact m2
          · rw [h] at m1; cases m1
        · rcases e2 with ⟨D', m1, m2, _⟩ | ⟨n, m1, m2, m3, _⟩
          · rw [h1] at m1; cases m1
          · rw [h2] at m2; cases m2; exact m3
      show wG K nN W D ((cv, k.io, _) :: lG K ct L cl cvs) cls d σ H
      refine ⟨b, hcv, fun hb hlen a na => ?_, fun hb => ?_⟩
      · subst hb
        simp only [es] at q
        have hinv : (hotCt K ct k.io a cls d x).inv (Sset k.io a σ) F := by
          refine ⟨fun i hi => ?_, rx⟩
          rw [hi]
          show (σ.set i (some (.ref a)))[i]? = _
          rw [List.getElem?_set_self]
          rw [hlen]
          exact hn k List.mem_cons_self i hi
        refine ⟨x, F, μ, clr k.io env, st, r.toHot, re.hot k.io hinv, ?_⟩
        unfold mHnd at q
        cases em : k.m { L with xh := some x } (clr k.io env) st with
        | nx env2 st2 =>
          rw [em] at q
          exact fun F' μ' H' σ' x' r' re' => (Eclr_nx _ _ _ _).mpr (q F' μ' H' _ x' r'.ofHot (re'.cool k.io hcold))
        | ct env2 st2 =>
          rw [em] at q
          exact fun F' μ' H' σ' x' r' re' => (Eclr_ct _ _ _ _).mpr (q F' μ' H' _ x' r'.ofHot (re'.cool k.io hcold))
        | rt w st2 =>
          rw [em] at q
          intro F' μ' H' v x' r' rv
          rw [Eclr_rt]
          exact q F' μ' H' v x' r'.ofHot rv
        | err y env2 st2 => rw [em] at q; exact q.elim
        | stuck => rw [em] at q; exact q.elim
      · subst hb
        simp only [es] at q
        exact wG_of xs hcold (by simpa using hl) (fun i k' cv' h1 h2 => hc (i + 1) k' cv' h1 h2) (fun k' hk => hn k' (List.mem_cons_of_mem _ hk)) r re rx q
theorem simS_try {mg : Str → Option Value} {body : List Stmt} {h₀ : ExceptHandler} {hds : List ExceptHandler} {pos : Pos} {cl : List Cl} {cvs : List Value} {mb : Ms} (hs : X.stack = X.env :: X.outer) (hf : X.env.frame = some X.env.locals) (hN : X.N.Nodup) (tk : Takes X W) (xs : XsOk X.prog X.K mg ct L.xs) (hcold : ∀ σ F, ct.inv σ F)
    (hb : ∀ (W : WX) (pn : List (Addr × Obj)) (xe : Value → Shared → Prop), Takes (X.tr pn xe) W → PassesOwn (model X.prog X.w) X.A X.env xe → PSs (X.tr pn xe) body (TS' (X.tr pn xe) ct W mb))
    (hl : cvs.length = cl.length) (hc : ∀ (i : Nat) k cv, cl[i]? = some k → cvs[i]? = some cv → mg k.c = some cv ∨ (mg k.c = none ∧ bootBuiltins k.c = some cv))
    (hn : ∀ k ∈ cl, ∀ i, k.io = some i → i < X.N.length) (hh : HdsG X (h₀ :: hds) (lG X.K ct L cl cvs)) : PS X (.Try body (h₀ :: hds) [] [] pos) (TS' X ct W (mTry mb fun x => selAll { L with xh := some x } cl)) := by
  refine PS.mono (ps_tryG (tb := fun W => TS' X ct W mb) hs hf hN tk hb hh) fun D σ H ⟨F, μ, env, st, r, re, q⟩ => ⟨F, μ, env, st, r, re, ?_⟩
  unfold mTry at q
  cases em : mb env st with
  | nx env2 st2 => rw [em] at q; exact q
  | ct env2 st2 => rw [em] at q; exact q
  | rt w st2 => rw [em] at q; exact q
  | stuck => rw [em] at q; exact q
  | err x env2 st2 =>
    rw [em] at q
    simp only at q
    split at q
    · rename_i hfr
      exact fun F' μ' H' σ' cls d x' r' re' rx => wG_of xs hcold hl hc hn r' re' (rx.free hfr) (SPost.at x' q)
    · exact q.elim

end
end G

set_option Elab.async false
set_option linter.all false
set_option maxRecDepth 100000
set_option maxHeartbeats 8000000
namespace G
open PySem PySem.Spec PyProof.Rows L2

/-! ### does it stand for this text: statements -/
structure SChk where
  s : Sc → Stmt → Bool
  b : Sc → List Stmt → Bool
  h : Sc → List ExceptHandler → Bool
def noComp : Expr → Bool
  | .ListComp .. => false | .SetComp .. => false | .DictComp .. => false | _ => true
def noTup : Expr → Bool
  | .Tuple .. => false | .List .. => false | _ => true
def ckS (f : Sc → Stmt → Bool) : SChk := ⟨f, fun _ _ => false, fun _ _ => false⟩
/-- a comprehension that is written to a name at once -/
def ckLc : T → Chk × Chk × Chk × Tg × List Nat × Bool
  | .lc _ vs tg it cd el => (chk it, chk cd, chk el, tg, vs, true)
  | _ => (chk .nil, chk .nil, chk .nil, .inl 0, [], false)
def ckSetLc (i : Nat) (e : T) (c : Sc) (s : Stmt) : Bool := match s with
  | .Assign [.Name x xp] (.ListComp elt [⟨t, it, ifs, 0⟩] scope cpos) _ =>
    cold c && (ckLc e).2.2.2.2.2 && blkC c.N c.sc scope (ownOf c (ckLc e).2.2.2.2.1) && (tgIx (ckLc e).2.2.2.1).all (fun j => decide (j ∈ (ckLc e).2.2.2.2.1)) && (ckLc e).1.i c t it && plainE it && tgOk (blkSc c scope) (ckLc e).2.2.2.1 t
      && (ckLc e).2.1.c (blkSc c scope) ifs && (ckLc e).2.2.1.e (blkSc c scope) elt
      && decide (c.N[i]? = some x) && decide (c.sc.names.lookup x = some .local) && (xp.line == cpos.line) && (match c.sc.kind with | .function => true | _ => false) && !(scope.names.any fun (n, k) => n == x && (k == .local || k == .cell))
  | _ => false
/-- the name of a clause -/
def onOk (c : Sc) (io : Option Nat) (on : Option Str) : Bool := match io, on with
  | none, none => true
  | some i, some n => decide (c.N[i]? = some n) && decide (c.sc.names.lookup n = some .local)
  | _, _ => false
def chkS : S → SChk
  | .nil => ⟨fun _ _ => false, fun _ l => (match l with | [] => true | _ => false), fun _ _ => false⟩
  | .seq a b => ⟨fun _ _ => false, fun c l => (match l with | s :: r => (chkS a).s c s && (chkS b).b c r | [] => false), fun _ _ => false⟩
  | .set (.inl i) e => ckS fun c s => (match s with
      | .Assign [.Name y p] x _ => tgOk c (.inl i) (.Name y p) && (noComp x || decide (c.sc.names.lookup y = some .cell)) && (chk e).e c x
      | _ => false) || ckSetLc i e c s
  | .set (.inr is) e => ckS fun c s => match s with
      | .Assign [t] x _ => tgOk c (.inr is) t && noComp x && noTup x && (chk e).e c x
      | _ => false
  | .setIx o i e => ckS fun c s => match s with
      | .Assign [.Subscript x y _] z _ => plainE y && noComp z && (chk o).e c x && (chk i).e c y && (chk e).e c z
      | _ => false
  | .aug i sub e => ckS fun c s => match s with
      | .AugAssign (.Name x _) op z _ => cold c && decide (op = if sub then .Sub else .Add) && decide (c.N[i]? = some x) && ownN c x && (chk e).e c z
      | _ => false
  | .expr e => ckS fun c s => match s with
      | .Expr z _ => noComp z && (chk e).e c z
      | _ => false
  | .ret e => ckS fun c s => match s with
      | .Return (some z) _ => (chk e).e c z
      | _ => false
  | .retN => ckS fun c s => match s with
      | .Return none _ => true
      | _ => false
  | .sif e a b => ckS fun c s => match s with
      | .If z p q _ => (chk e).t c z && (chkS a).b c p && (chkS b).b c q
      | _ => false
  | .swh e b => ckS fun c s => match s with
      | .While z p [] _ => (chk e).t c z && (chkS b).b c p
      | _ => false
  | .sfor tg it b => ckS fun c s => match s with
      | .For t i p [] _ => cold c && tgOk c tg t && plainE i && (chk it).i c t i && (chkS b).b c p
      | _ => false
  | .cont => ckS fun _ s => match s with
      | .Continue _ => true
      | _ => false
  | .stk => ckS fun _ _ => true
  | .pass => ckS fun _ s => match s with
      | .Pass _ => true
      | .Expr (.Constant (.str _) _ _) _ => true
      | _ => false
  | .tryE a h => ckS fun c s => match s with
      | .Try p (h₀ :: hds) [] [] _ => cold c && c.top && (chkS a).b c p && (chkS h).h c (h₀ :: hds)
      | _ => false
  | .hnd k io a r => ⟨fun _ _ => false, fun _ _ => false, fun c l => match l with
      | .ExceptHandler (some (.Name x _)) on (s₀ :: su) _ :: rest => decide (x = k) && isGl c x && okName x && !(x == ("__name__" : Str)) && decide (x ∈ c.xn) && onOk c io on && (chkS a).b { c with hot := some io } (s₀ :: su) && (chkS r).h c rest
      | _ => false⟩
  | .hend => ⟨fun _ _ => false, fun _ _ => false, fun _ l => match l with | [] => true | _ => false⟩
  | .rais k _ => ckS fun c s => match s with
      | .Raise (some (.Call (.Name x _) [.Constant (.str _) _ _] [] _)) none _ => cold c && decide (x = k) && isGl c x && okName x
      | _ => false
  | .raisI k l => ckS fun c s => match s with
      | .Raise (some (.Call (.Name x _) (y :: ys) [] _)) none _ => cold c && decide (x = k) && isGl c x && okName x && (chk l).l c (y :: ys)
      | _ => false

section
variable {ct : Ct} {L : Lm} {k : Nat} {c : Sc} {X : Cx} {W : WX}
theorem nocomp_sw {e : Expr} (h : noComp e = true) (t : Option Expr) (l : Nat) (env : Env) : swapsWith e t l env = pure false := by
  cases e <;> first | rfl | (simp [noComp] at h)
theorem sole_sw {e t : Expr} (h : noComp e = true) (l : Nat) (env : Env) : swapsWithSole [t] e l env = pure false := nocomp_sw h _ _ _
theorem cell_sw {e : Expr} {y : Str} {p : Pos} {env : Env} (h : env.scope.names.lookup y = some .cell) (l : Nat) : swapsWithSole [.Name y p] e l env = pure false := by
  show swapsWith e (some (.Name y p)) l env = pure false
  have ky : env.kindOf y = some .cell := h
  have kl : (env.kindOf y == some .local) = false := by rw [ky]; rfl
  cases e <;> first | rfl | (unfold swapsWith; simp only [kl, Bool.and_false, Bool.false_and] <;> rfl)
theorem notup_st {e t : Expr} (h : noTup e = true) (env : Env) : swappedStores [t] e env = pure none := by
  unfold swappedStores
  cases e <;> first | (simp [noTup] at h; done) | (cases t <;> rfl)
theorem assignEach_one {t : Expr} (env : Env) {c : Sc} {tg : Tg} (h : tgOk c tg t = true) : (assignEach [t] env).map (·.2) = [assign t env] := by
  cases t <;> first | rfl | (cases tg <;> simp [tgOk] at h)
structure SimS (ct : Ct) (L : Lm) (k : Nat) (m : Lm → Ms) (ck : SChk) : Prop where
  s : ∀ (c : Sc) (X : Cx) (W : WX) (st : Stmt), Good ct L k c X → Takes X W → PassesOwn (model X.prog X.w) X.A X.env X.xe → ck.s c st = true → PS X st (TS' X ct W (m L))
  b : ∀ (c : Sc) (X : Cx) (W : WX) (sts : List Stmt), Good ct L k c X → Takes X W → PassesOwn (model X.prog X.w) X.A X.env X.xe → ck.b c sts = true → PSs X sts (TS' X ct W (m L))
  h : ∀ (c : Sc) (X : Cx) (hds : List ExceptHandler), Good ct L k c X → c.hot = none → ck.h c hds = true → ∃ (cl : List Cl) (cvs : List Value), (∀ L' : Lm, m L' = selAll L' cl) ∧ cvs.length = cl.length ∧
    (∀ (i : Nat) k cv, cl[i]? = some k → cvs[i]? = some cv → X.mg k.c = some cv ∨ (X.mg k.c = none ∧ bootBuiltins k.c = some cv)) ∧ (∀ k ∈ cl, ∀ i, k.io = some i → i < X.N.length) ∧ HdsG X hds (lG X.K ct L cl cvs)
theorem SimS.of {f : Sc → Stmt → Bool} {m : Lm → Ms} (h : ∀ (c : Sc) (X : Cx) (W : WX) (st : Stmt), Good ct L k c X → Takes X W → PassesOwn (model X.prog X.w) X.A X.env X.xe → f c st = true → PS X st (TS' X ct W (m L))) : SimS ct L k m (ckS f) := ⟨h, fun _ _ _ _ _ _ _ q => (by cases q), fun _ _ _ _ _ q => (by cases q)⟩
theorem Good.tr (G : Good ct L k c X) (hc : c.hot = none) (pn : List (Addr × Obj)) (xe : Value → Shared → Prop) : Good ct L k c (X.tr pn xe) :=
  ⟨G.N, G.sc, G.un, G.room, G.calm, G.cool, G.bear, fun io h => (by rw [hc] at h; cases h), G.xs, G.nd, G.gl, G.fn, G.bs, G.fnn, G.xn, G.top, G.gen, G.sg⟩
theorem Good.hot (G : Good ct L k c X) (io : Option Nat) {b : Addr} {oe : Obj} {cls : Value} {d : Option Addr} {pn : List (Addr × Obj)} {y : Exc} (hz : Zc cls d oe) (hf : ∃ vs, oe.data = .fields vs) :
    Good (hotCt X.K ct io b cls d y) { L with xh := some y } k { c with hot := some io } (X.suite b ((b, oe) :: pn)) := by
  refine ⟨G.N, G.sc, G.un, fun h => (by cases h), fun h => (by cases h), fun h => (by cases h), fun j hj σ v F h => ⟨fun i hi => ?_, h.2⟩, fun io' h => ?_, ⟨G.xs.cls, G.xs.sub, G.xs.fld, G.xs.ow, G.xs.pl⟩, G.nd, G.gl, fun h => (by cases h), G.bs, G.fnn, G.xn, G.top, G.gen, G.sg⟩
  · subst hi
    have hj : (!(j == i)) = true := hj
    have ne : j ≠ i := by simpa using hj
    rw [List.getElem?_set_ne ne]
    exact h.1 i rfl
  · cases h
    exact ⟨X, b, oe, pn, cls, d, y, rfl, hz, hf, rfl, fun σ F h => ⟨h.1, h.2.tab (show ct.tab = (hotCt X.K ct io b cls d y).tab from rfl)⟩⟩
theorem Good.lv (G : Good ct L k c X) {i : Nat} {x : Str} (h1 : c.N[i]? = some x) (h2 : c.sc.names.lookup x = some .local) : X.N[i]? = some x ∧ X.env.scope.names.lookup x = some .local := by
  rw [← G.N] at h1
  rw [← G.sc] at h2
  exact ⟨h1, h2⟩
theorem simS_set {tg : Tg} {t e : Expr} {me : Mx Va} {pos : Pos} (he : PE X e (TE' X ct W me)) (hg : PG X t (gSet X.K tg)) (hs : swapsWithSole [t] e pos.line X.env = pure false) (hw : swappedStores [t] e X.env = pure none) (h1 : (assignEach [t] X.env).map (·.2) = [assign t X.env]) (hb : ∀ j ∈ tgIx tg, ct.Bears j) :
    PS X (.Assign [t] e pos) (TS' X ct W (mSet tg me)) := PS.mono (ps_asg he hg hs hw h1) fun D σ H h => tAsg_of hb (fun Q h => h) h
theorem name_st {x : Str} {p : Pos} {e : Expr} (env : Env) : swappedStores [.Name x p] e env = pure none := by
  unfold swappedStores
  cases e <;> rfl
theorem simS_setLc {i : Nat} {e : T} {s : Stmt} (G : Good ct L k c X) (tk : Takes X W) (q : ckSetLc i e c s = true) : PS X s (TS' X ct W (mSet (.inl i) (ev L e).e)) := by
  unfold ckSetLc at q
  split at q
  · rename_i x xp elt t it ifs scope cpos spos
    cases e with
    | lc m vs tg ti cd el =>
      simp only [ckLc, Bool.and_eq_true, List.all_eq_true, decide_eq_true_eq, Bool.not_eq_true'] at q
      obtain ⟨⟨⟨⟨⟨⟨⟨⟨⟨⟨⟨⟨⟨hcold, _⟩, h1⟩, h2⟩, h3⟩, h4⟩, h5⟩, h6⟩, h7⟩, h8⟩, h9⟩, h10⟩, h12⟩, h11⟩ := q
      have hc := cold_h hcold
      obtain ⟨g1, g2⟩ := G.lv h8 h9
      have ok : BlkOk X.N X.env.scope scope (ownOf c vs) := by
        rw [G.N, G.sc]
        exact blkOk_by h1
      have kind : X.env.scope.kind = .function := by
        rw [G.sc]
        revert h12
        cases c.sc.kind <;> simp
      refine PS.mono (ps_setLc (own := ownOf c vs) (g := gSet X.K tg) (tt := TT' X ct W0 (ev L cd).t) (te := TE' X ct W0 (ev L el).e) (G.calm hc) G.nd g1 g2 (sw_true kind g2 h10 h11) ((sim ti).i c X W _ _ G tk h3) ok (fun s H C cl fp => sim_tg (G.blk hc scope s H C cl fp) h5) (fun s H C cl fp => (sim cd).c _ _ W0 _ (G.blk hc scope s H C cl fp) takes0 h6)
          (fun s H C cl fp => ((sim el).e _ _ W0 _ (G.blk hc scope s H C cl fp) takes0 h7).2) (fun x => plain_fold h4 _ x)) fun D σ H h => tAsg_of (K := X.K) (ct := ct) (W := W) (tg := .inl i) (me := (ev L (.lc m vs tg ti cd el)).e) (G.bears hc _) (fun Q h => ?_) h
      rw [own_snd]
      exact tLc_of (fun _ h => h) (fun j hj => of_decide_eq_true (h2 j hj)) (G.bears hc _) h
    | _ => simp [ckLc] at q
  · cases q
theorem simS : ∀ (t : S) (ct : Ct) (L : Lm), SimS ct L k (fun L => ex L t) (chkS t)
  | .nil, ct, L => ⟨fun _ _ _ _ _ _ _ q => (by cases q), fun c X W sts G tk hp q => (by
      match sts, q with
      | [], _ => exact simS_nil), fun _ _ _ _ _ q => (by cases q)⟩
  | .seq a b, ct, L => ⟨fun _ _ _ _ _ _ _ q => (by cases q), fun c X W sts G tk hp q => (by
      match sts, q with
      | s :: r, q =>
        simp only [chkS, Bool.and_eq_true] at q
        exact simS_cons ((simS a ct L).s c X W s G tk hp q.1) ((simS b ct L).b c X W r G tk hp q.2)), fun _ _ _ _ _ q => (by cases q)⟩
  | .set (.inl i) e, ct, L => .of fun c X W st G tk hp q => by
      simp only [Bool.or_eq_true] at q
      rcases q with q | q
      · split at q
        · simp only [Bool.and_eq_true, Bool.or_eq_true, decide_eq_true_eq] at q
          exact simS_set ((sim e).e c X W _ G tk q.2).2 (sim_tg G q.1.1) (q.1.2.elim (fun z => sole_sw z _ _) fun z => cell_sw (by rw [G.sc]; exact z) _) (name_st _) (assignEach_one _ q.1.1) (tgOk_bears G q.1.1)
        · cases q
      · exact simS_setLc G tk q
  | .set (.inr is) e, ct, L => .of fun c X W st G tk hp q => by
      split at q
      · simp only [Bool.and_eq_true] at q
        exact simS_set ((sim e).e c X W _ G tk q.2).2 (sim_tg G q.1.1.1) (sole_sw q.1.1.2 _ _) (notup_st q.1.2 _) (assignEach_one _ q.1.1.1) (tgOk_bears G q.1.1.1)
      · cases q
  | .setIx o i e, ct, L => .of fun c X W st G tk hp q => by
      split at q
      · simp only [Bool.and_eq_true] at q
        exact simS_setIx q.1.1.1.1 G.un ((sim o).e c X W _ G tk q.1.1.2).2 ((sim i).e c X W _ G tk q.1.2).2 ((sim e).e c X W _ G tk q.2).2 (sole_sw q.1.1.1.2 _ _)
      · cases q
  | .aug i sub e, ct, L => .of fun c X W st G tk hp q => by
      split at q
      · simp only [Bool.and_eq_true, decide_eq_true_eq] at q
        obtain ⟨g1, g2, g3⟩ := G.one q.1.1.2 q.1.2
        exact simS_aug (G.bears (cold_h q.1.1.1.1) [i] i List.mem_cons_self) q.1.1.1.2 G.nd g1 g2 ((sim e).e c X W _ G tk q.2).2 g3
      · cases q
  | .expr e, ct, L => .of fun c X W st G tk hp q => by
      split at q
      · simp only [Bool.and_eq_true] at q
        exact simS_expr ((sim e).e c X W _ G tk q.2).2 (nocomp_sw q.1 _ _ _)
      · cases q
  | .ret e, ct, L => .of fun c X W st G tk hp q => by
      split at q
      · exact simS_ret ((sim e).e c X W _ G tk q).2
      · cases q
  | .retN, ct, L => .of fun c X W st G tk hp q => by
      split at q
      · exact simS_retN
      · cases q
  | .sif e a b, ct, L => .of fun c X W st G tk hp q => by
      split at q
      · simp only [Bool.and_eq_true] at q
        exact simS_if ((sim e).t c X W _ G tk q.1.1) ((simS a ct L).b c X W _ G tk hp q.1.2) ((simS b ct L).b c X W _ G tk hp q.2)
      · cases q
  | .swh e b, ct, L => .of fun c X W st G tk hp q => by
      split at q
      · simp only [Bool.and_eq_true] at q
        exact simS_while hp ((sim e).t c X W _ G tk q.1) ((simS b ct L).b c X W _ G tk hp q.2) _
      · cases q
  | .sfor tg it b, ct, L => .of fun c X W st G tk hp q => by
      split at q
      · simp only [Bool.and_eq_true] at q
        exact simS_for (tgOk_bears G q.1.1.1.2) hp (G.calm (cold_h q.1.1.1.1)) ((sim it).i c X W _ _ G tk q.1.2) (sim_tg G q.1.1.1.2) ((simS b ct L).b c X W _ G tk hp q.2) (fun x => plain_fold q.1.1.2 _ x)
      · cases q
  | .cont, ct, L => .of fun c X W st G tk hp q => by
      split at q
      · exact PS.mono ps_continue fun D σ H ⟨F, μ, env, st, r, re, p⟩ => p F μ H σ .refl r re
      · cases q
  | .stk, ct, L => .of fun c X W st G tk hp q => ⟨fun pins s σ H D I ⟨F, μ, env, st, r, re, p⟩ => p.elim⟩
  | .pass, ct, L => .of fun c X W st G tk hp q => by
      split at q
      · exact PS.mono ps_pass fun D σ H ⟨F, μ, env, st, r, re, p⟩ => p F μ H σ .refl r re
      · exact PS.mono ps_doc fun D σ H ⟨F, μ, env, st, r, re, p⟩ => p F μ H σ .refl r re
      · cases q
  | .tryE a h, ct, L => .of fun c X W st G tk hp q => by
      split at q
      · simp only [Bool.and_eq_true] at q
        obtain ⟨⟨⟨q1, q2⟩, q3⟩, q4⟩ := q
        have hc := cold_h q1
        obtain ⟨g1, g2⟩ := G.top q2
        obtain ⟨cl, cvs, e, h1, h2, h3, h4⟩ := (simS h ct L).h c X _ G hc q4
        have e2 : (fun x : Exc => ex { L with xh := some x } h) = fun x => selAll { L with xh := some x } cl := funext fun x => e _
        show PS X _ (TS' X ct W (mTry (ex L a) fun x => ex { L with xh := some x } h))
        rw [e2]
        exact simS_try g1 g2 G.nd tk G.xs (G.cool hc) (fun W pn xe tk' hp' => (simS a ct L).b c (X.tr pn xe) W _ (G.tr hc pn xe) tk' hp' q3) h1 h2 h3 h4
      · cases q
  | .hnd kk io a r, ct, L => ⟨fun _ _ _ _ _ _ _ q => (by cases q), fun _ _ _ _ _ _ _ q => (by cases q), fun c X hds G hc q => (by
      simp only [chkS] at q
      split at q
      · rename_i x np on s₀ su pos' rest
        simp only [Bool.and_eq_true, decide_eq_true_eq, Bool.not_eq_true'] at q
        obtain ⟨⟨⟨⟨⟨⟨⟨rfl, q2⟩, q3⟩, q4⟩, q5⟩, q6⟩, q7⟩, q8⟩ := q
        obtain ⟨cl, cvs, e, h1, h2, h3, h4⟩ := (simS r ct L).h c X rest G hc q8
        obtain ⟨cv, hcv⟩ := G.xn x q5
        have hn : x ≠ "__name__" := fun e => by rw [e] at q4; simp at q4
        have hgx : Gl X x := G.gl' (by simpa [isGl] using q2)
        have hon : (io = none ∧ on = none) ∨ ∃ i n, io = some i ∧ on = some n ∧ X.N[i]? = some n ∧ X.env.kindOf n = some .local := by
          unfold onOk at q6
          split at q6
          · exact .inl ⟨rfl, rfl⟩
          · rename_i i n
            simp only [Bool.and_eq_true, decide_eq_true_eq] at q6
            exact .inr ⟨i, n, rfl, rfl, by rw [G.N]; exact q6.1, by show X.env.scope.names.lookup n = _; rw [G.sc]; exact q6.2⟩
          · cases q6
        refine ⟨⟨x, io, fun L => ex L a⟩ :: cl, cv :: cvs, fun L' => ?_, by simp [h1], fun i k' cv' g1 g2 => ?_, fun k' hk i hi => ?_, ?_⟩
        · show mSel L' x (mHnd io (ex L' a)) (ex L' r) = mSel L' x (mHnd io (ex L' a)) (selAll L' cl)
          rw [← e L']
        · cases i with
          | zero => cases g1; cases g2; exact hcv
          | succ i => exact h2 i k' cv' g1 g2
        · rcases List.mem_cons.mp hk with rfl | hk
          · rcases hon with ⟨z, _⟩ | ⟨i', n, z, _, z2, _⟩
            · rw [show io = some i from hi] at z; cases z
            · rw [show io = some i from hi] at z; cases z
              exact (List.getElem?_eq_some_iff.mp z2).1
          · exact h3 k' hk i hi
        · refine HdsG.cons (c := cv) ⟨hgx, (okName_d q3).1, hcv.imp (fun h => h) fun h => ⟨h.1, h.2, hn⟩⟩ hon (fun b oe cls d pn hz hf => ?_) h4
          exact ⟨fun pins s σ H D I ⟨y, z⟩ => ((simS a (hotCt X.K ct io b cls d y) { L with xh := some y }).b { c with hot := some io } (X.suite b ((b, oe) :: pn)) W0 _ (G.hot io hz hf) takes_none5 PassesOwn.never q7).run pins s σ H D I z⟩
      · cases q)⟩
  | .hend, ct, L => ⟨fun _ _ _ _ _ _ _ q => (by cases q), fun _ _ _ _ _ _ _ q => (by cases q), fun c X hds G hc q => (by
      match hds, q with
      | [], _ => exact ⟨[], [], fun _ => rfl, rfl, fun i k cv h => (by simp at h), fun k h => (by cases h), .nil⟩)⟩
  | .rais kk s, ct, L => .of fun c X W st G tk hp q => by
      split at q
      · simp only [Bool.and_eq_true, decide_eq_true_eq] at q
        obtain ⟨⟨⟨q1, rfl⟩, q2⟩, q3⟩ := q
        exact simS_rais (G.calm (cold_h q1)) tk G.xs (G.gl' (by simpa [isGl] using q2)) (okName_d q3).1
      · cases q
  | .raisI kk l, ct, L => .of fun c X W st G tk hp q => by
      split at q
      · rename_i x _ y ys _ _
        simp only [Bool.and_eq_true, decide_eq_true_eq] at q
        obtain ⟨⟨⟨⟨q1, rfl⟩, q2⟩, q3⟩, q4⟩ := q
        obtain ⟨p1, g1, _⟩ := (sim l).l c X W _ G tk q4
        exact simS_raisI (G.room (cold_h q1)) (G.calm (cold_h q1)) tk G.xs (G.gl' (by simpa [isGl] using q2)) g1 (okName_d q3).1 (plain_star (p1 y List.mem_cons_self) _ _) (back_any fun z hz => p1 z (List.mem_cons_of_mem _ hz))
      · cases q
end

/-! ### a def as a whole -/
/-- what comes back: by value, or fresh -/
def retV (w : Va) (st : Sto) : R Va := match w with
  | .ref p => match takeO p st with
    | some (.lst l) => .ok (.lst l) [none]
    | some (.dic k l) => .ok (.dic k l) [none]
    | _ => .stuck
  | _ => match freezeN 20 w st with
    | some (w', _) => .ok w' []
    | none => .stuck
/-- a body, run at arguments -/
def runB (n : Nat) (m : Ms) (ws : List Va) : R Va := match m (ws.map some ++ List.replicate (n - ws.length) none) [] with
  | .nx _ _ => .ok .non []
  | .rt w st => retV w st
  | .err x _ _ => if x.fs.all fun p => free p.2 then .err x [] else .stuck
  | _ => .stuck
structure Df where
  N : List Str
  np : Nat
  body : S
def runD (L : Lm) (d : Df) (ws : List Va) : R Va := if ws.length = d.np then runB d.N.length (ex L d.body) ws else .stuck
section
variable {P : Program} {w : World} {K : PySem.W.Frag} {mg : Str → Option Value} {base : Heap} {ct : Ct} {L : Lm} {k : Nat}
theorem Ext.drop {F F' : Hp} {μ' : List Addr} {H H' : Hp} (x : Ext F [] H F' μ' H') : Ext F [] H F' [] H' := ⟨x.fr, List.prefix_rfl, x.keep, x.tab, x.new, fun a m => (nomatch m), x.there⟩
theorem ret_of {F F' : Hp} {μ' : List Addr} {H H' : Hp} {w0 : Va} {st' : Sto} {v : V} {Q : VK} {E : XK} (x : Ext F [] H F' μ' H') (r' : Rel K ct F' μ' st' H') (rv : RV K F' μ' w0 v)
    (h : match retV w0 st' with
      | .ok w s => match freshO w s with
        | some ob => ∀ F' H' a, Ext F [] H F' [] H' → Same F' H' → H a = none → F' a = none → RO K ct F' [] H' a ob → Q (.ref a) H'
        | none => ∀ F' H' v, Ext F [] H F' [] H' → Same F' H' → RV K F' [] w v → Q v H'
      | .err x _ => ∀ F' H' cls d, Ext F [] H F' [] H' → Same F' H' → RX K ct F' [] x cls d → E cls d H'
      | .stuck => False) : Q v H' := by
  have val : (∀ p, w0 ≠ .ref p) → Q v H' := fun hn => by
    have e : retV w0 st' = match freezeN 20 w0 st' with | some (w', _) => .ok w' [] | none => .stuck := by
      cases w0 <;> first | rfl | exact absurd rfl (hn _)
    rw [e] at h
    cases ef : freezeN 20 w0 st' with
    | none => rw [ef] at h; exact h.elim
    | some p =>
      obtain ⟨w', st2⟩ := p
      rw [ef] at h
      obtain ⟨F2, x2, r2, q2, _, _⟩ := freezeN_ok 20 r' rv ef
      exact h F2 H' v (x.trans x2).drop r2.sub q2
  cases rv with
  | @ref p a hp =>
    have hH : H a = none := by
      rcases x.mnew a (List.mem_of_getElem? hp) with z | z
      · cases z
      · exact z
    unfold retV at h
    simp only at h
    cases e : takeO p st' with
    | none => rw [e] at h; exact h.elim
    | some ob =>
      rw [e] at h
      obtain ⟨F2, st2, x2, r2, hF2, o⟩ := takeO_ok r' hp e
      cases ob with
      | lst l => exact h F2 H' a (x.trans x2).drop r2.sub hH hF2 o
      | dic k l => exact h F2 H' a (x.trans x2).drop r2.sub hH hF2 o
      | ins c fs => exact h.elim
  | _ => exact val fun p => by intro z; cases z
/-- what holds of all defs alike -/
structure Env0 (P : Program) (K : PySem.W.Frag) (mg : Str → Option Value) (ct : Ct) (L : Lm) (gls bs xns : List Str) (sgn : List (Str × Tx)) : Prop where
  gl : ∀ x ∈ gls, ∃ w v u, L.gl x = some w ∧ mg x = some u ∧ RelV v u ∧ ∀ F μ, RV K F μ w v
  bs : ∀ x ∈ bs, mg x = none
  xs : XsOk P K mg ct L.xs
  xn : ∀ x ∈ xns, ∃ cv, mg x = some cv ∨ (mg x = none ∧ bootBuiltins x = some cv)
  cold : ∀ σ F, ct.inv σ F
  sg : ∀ p ∈ sgn, SignF K mg p.1 p.2
theorem startEv (hc : ∀ σ F, ct.inv σ F) {N : List Str} {ws : List Va} {vs : List V} {F : Hp} (r : RVs K F [] ws vs) : REnv K ct F [] (ws.map some ++ List.replicate (N.length - ws.length) none) (L2.start N vs) := by
  refine ⟨by simp [L2.start, r.length], fun i w e => ?_, hc _ _⟩
  have hl := r.length
  by_cases hi : i < ws.length
  · rw [List.getElem?_append_left (by simpa using hi), List.getElem?_map] at e
    cases ew : ws[i]? with
    | none => rw [ew] at e; cases e
    | some w' =>
      rw [ew] at e
      cases e
      obtain ⟨v, hv, rv⟩ := r.get ew
      refine ⟨v, ?_, rv⟩
      unfold L2.start
      rw [List.getElem?_append_left (by rw [List.length_map, ← hl]; exact hi), List.getElem?_map, hv]
      rfl
  · rw [List.getElem?_append_right (by simpa using Nat.le_of_not_lt hi)] at e
    rw [List.getElem?_replicate] at e
    split at e <;> cases e
theorem def_ok {x qual : Str} {params : Arguments} {body : List Stmt} {scope : Scope} {dvs : List V} {kws : List (Str × V)} {f : Addr} {fd : FuncData} {ps : List Str} {d : Df} {gls bs xns : List Str} {fns : List (Str × List Str)} {gn : Bool} {sgn : List (Str × Tx)} (F : FunD K x qual params body scope dvs kws f fd) (S : FnScope d.N ps scope) (hnp : d.np = ps.length) (E0 : Env0 P K mg ct L gls bs xns sgn) (tb : gn = true → ∃ cd Q, fd.code = .ref cd ∧ GxR.TabB base mg cd Q ∧ Q ∈ ct.tps)
    (fn : ∀ g ∈ fns, FnC P w K mg base ct k g.2 g.1 (L.fn g.1)) (hck : (chkS d.body).b ⟨d.N, scope, gls, fns, bs, fun _ => true, xns, none, true, gn, sgn⟩ body = true) : FnOk P w K mg base (L2.CX P w) (k + 3) f fd ps (spP K ct (runD L d)) := by
  obtain ⟨oc, od, dV, kV, doc, pm, an, cdv, ctv, osl, rfl, lk, hcd, _, _⟩ := F.ex
  refine fn_of lk hcd S (fun vs H Q E ⟨F, ws, h1, ht, h2, h3⟩ => ?_) (fun A outer s H vs Q E hr ⟨F, ws, h1, ht, h2, h3⟩ => ?_)
  · rw [← h2.length, ← hnp]
    by_cases e : ws.length = d.np
    · exact e
    · unfold runD at h3
      rw [if_neg e] at h3
      exact h3.elim
  · have G : Good ct L k ⟨d.N, scope, gls, fns, bs, fun _ => true, xns, none, true, gn, sgn⟩ (cxOf (L2.CX P w) P w K mg base d.N qual scope f cdv A outer s H E) := ⟨rfl, rfl, hr.units, fun _ => hr, fun _ => rfl, fun _ => E0.cold, fun j _ σ v F _ => E0.cold _ _, fun io h => (by cases h), E0.xs, S.nd, E0.gl, fun _ => fn, E0.bs, rfl, E0.xn, fun _ => ⟨rfl, rfl⟩, tb, E0.sg⟩
    refine ⟨_, (simS d.body _ _).b _ _ (fun cls dd _ H => E cls dd H) _ G (takes_of rfl rfl rfl rfl) (passes_of rfl) hck, F, [], _, [], ?_, startEv E0.cold (N := d.N) h2, ?_⟩
    · exact ⟨h1, rfl, fun p o a e => (by simp at e), fun p o a e => (by simp at e), fun p q o o' a e => (by simp at e), fun a m => (nomatch m), ht⟩
    · unfold runD at h3
      by_cases he : ws.length = d.np
      · rw [if_pos he] at h3
        unfold runB at h3
        cases e : ex L d.body (ws.map some ++ List.replicate (d.N.length - ws.length) none) [] with
        | nx env' st' =>
          rw [e] at h3
          exact fun F' μ' H' σ' x r' re' => h3 F' H' .non x.drop r'.sub .non
        | ct env' st' => rw [e] at h3; exact h3.elim
        | rt w0 st' =>
          rw [e] at h3
          intro F' μ' H' v x r' rv'
          simp only at h3
          exact ret_of x r' rv' h3
        | err y env' st' =>
          rw [e] at h3
          intro F' μ' H' σ' cls dd x r' re' rx
          simp only at h3
          by_cases hfr : (y.fs.all fun p => free p.2) = true
          · rw [if_pos hfr] at h3
            exact h3 F' H' cls dd x.drop r'.sub ⟨rx.cls, fun n w hw => let ⟨d', fvs, v, a1, a2, a3, a4⟩ := rx.fs n w hw; ⟨d', fvs, v, a1, a2, a3, a4.free (List.all_eq_true.mp hfr _ (lookup_mem hw))⟩, rx.dd⟩
          · rw [if_neg hfr] at h3
            exact h3.elim
        | stuck => rw [e] at h3; exact h3.elim
      · rw [if_neg he] at h3
        exact h3.elim
end
end G

set_option Elab.async false
set_option linter.all false
set_option maxRecDepth 100000
set_option maxHeartbeats 8000000
/-! what the top has left: own exceptions' __init__ -/
namespace G
open PySem PySem.Spec PyProof.Rows L2

/-- an own exception class with an __init__: its name, what it does, its parameters behind self, its qualified name, the statement of the text -/
structure Ie where
  c : Str
  ow : Ow
  ns : List Str
  qual : Str
  st : Stmt
/-- the class's def of that name -/
def clsDef (c : Stmt) (i : Nat) : Stmt := match c with
  | .ClassDef _ _ _ b .. => b.getD i (.Pass ⟨0, 0, 0, 0⟩)
  | s => s
abbrev IniW : Type := Option (Str × Arguments × FuncBody × Scope × Addr × List Str × Addr)
def iniAt (K : PySem.W.Frag) (c : Str) : Addr := He.ma K (He.ga K c) "__init__"
def fnY (K : PySem.W.Frag) (c : Str) : IniW := match K.lookup (iniAt K c) with
  | some ⟨_, _, .func fd, _⟩ => some (fd.qualname, fd.params, fd.body, fd.scope, fd.globals, fd.closure.map (·.1), fd.builtins)
  | _ => none
def Ie.val (e : Ie) : IniW := some (e.qual, defArgs e.st, .stmts (defBody e.st), defScope e.st, mainGlobals, ["__class__"], builtinsNs)
def fileB (K : PySem.W.Frag) (cda : Addr) (file : Str) : Bool := match K.lookup cda with
  | some ⟨_, _, .fields vs, _⟩ => (match vs[2]? with
    | some (Value.str f _) => file == f
    | _ => false)
  | _ => false
def cellB (K : PySem.W.Frag) (C : Addr) : List (Str × Addr) → Bool
  | [(n, cc)] => decide (n = "__class__") && (match K.lookup cc with
    | some ⟨_, _, .cell (some (.ref D)), _⟩ => decide (D = C)
    | _ => false)
  | _ => false
def oexB (K : PySem.W.Frag) (C : Addr) : Bool := (match K.lookup C with
  | some ⟨.type "type", _, .cls cd, sl⟩ => (match cd.mro, sl.toList with
    | .ref C' :: bm, [_, _, _, _, some (.builtin n), _] => C' == C && n == "ValueError.__new__" && !cd.hasDel && cd.hasDict && PySem.HandSPX.refsVE bm
    | _, _ => false)
  | _ => false) && (He.eqO (PySem.W.findIn K (.ref C) "__setattr__") (some (some (.builtin "object.__setattr__"))) && (decide (PySem.W.subIn K (.ref C) (.type "BaseException") = some true) && (decide (PySem.W.typeIn K (.ref C) = some (.type "type")) && PySem.W.keepIn K (.ref C))))
theorem oexB_ok {K : PySem.W.Frag} {C : Addr} (h : oexB K C = true) : OexC K C := by
  obtain ⟨h0, h⟩ := He.ba h
  obtain ⟨h1, h⟩ := He.ba h
  obtain ⟨h2, h⟩ := He.ba h
  obtain ⟨h3, h4⟩ := He.ba h
  refine ⟨?_, He.eqO_ok h1, of_decide_eq_true h2, of_decide_eq_true h3, h4⟩
  split at h0
  · rename_i dd cd sl ho
    split at h0
    · rename_i C' bm k0 k1 k2 k3 n k5 hm hs
      simp only [Bool.and_eq_true, beq_iff_eq, Bool.not_eq_true'] at h0
      obtain ⟨⟨⟨⟨rfl, rfl⟩, hdel⟩, hdi⟩, ht⟩ := h0
      obtain ⟨nm, bs, mro, ns, qn, hd, sn, sub, ab, col, del⟩ := cd
      dsimp only at hm hdel hdi
      subst hm hdel hdi
      have hsl : sl = #[k0, k1, k2, k3, some (.builtin "ValueError.__new__"), k5] := by
        obtain ⟨l⟩ := sl
        simp only at hs
        rw [hs]
      subst hsl
      exact ⟨nm, qn, ns, bs, bm, sn, sub, ab, col, dd, k0, k1, k2, k3, k5, ho, ht⟩
    · cases h0
  · cases h0
def codB (K : PySem.W.Frag) (qual file : Str) : Value → Bool
  | .ref cda => PySem.W.codeIn K (.ref cda) qual && fileB K cda file
  | _ => false
def nonB : Value → Bool
  | .none => true
  | _ => false
def funB (K : PySem.W.Frag) (C : Addr) (qual file : Str) : Option Obj → Bool
  | some ⟨_, _, .func fd, _⟩ => codB K qual file fd.code && (cellB K C fd.closure && nonB fd.defaults)
  | _ => false
theorem codB_ok {K : PySem.W.Frag} {qual file : Str} {v : Value} (h : codB K qual file v = true) : ∃ cda, v = .ref cda ∧ PySem.W.codeIn K (.ref cda) qual = true ∧ fileB K cda file = true := by
  cases v with
  | ref a => obtain ⟨h1, h2⟩ := He.ba h; exact ⟨a, rfl, h1, h2⟩
  | _ => cases h
theorem nonB_ok {v : Value} (h : nonB v = true) : v = .none := by
  cases v with
  | none => rfl
  | _ => cases h
def iniB (file : Str) (K : PySem.W.Frag) (e : Ie) : Bool := He.eqO (PySem.W.findIn K (.ref (He.ga K e.c)) "__init__") (some (some (.ref (iniAt K e.c)))) && (decide (PySem.W.typeIn K (.ref (iniAt K e.c)) = some (.type "function")) && (funB K (He.ga K e.c) e.qual file (K.lookup (iniAt K e.c)) && ((PySem.W.clsIn K (He.ga K e.c)).isSome && (decide (PySem.W.mroIn K (He.ga K e.c) (.ref (He.ga K e.c)) = some true) && (decide (PySem.W.subIn K (.ref (He.ga K e.c)) (.type "ValueError") = some true) &&
    (He.eqO (PySem.W.ks_superIn K (He.ga K e.c) (He.ga K e.c) "__init__") (some (some (.builtin "ValueError.__init__"))) && (He.eqO (PySem.W.nsIn K cStatics "thirdparty.any") (some none) && (oexB K (He.ga K e.c) && ((e.ow.fs.all fun f => He.eqO (PySem.W.findIn K (.ref (He.ga K e.c)) f.1) (some none)) && ((He.Fa.free "super").ok K && (He.Fa.glo e.c).ok K))))))))))
/-- what is checked of the text alone -/
structure IeOk (P : Program) (e : Ie) : Prop where
  sc : ScS ("self" :: e.ns) ("self" :: e.ns) (defScope e.st)
  bd : bodyB e.ns e.ow (defBody e.st) = true
  bi : ∀ (kV doc pm : Value) (an : Option Addr) (cdv ct : Value) (nm : Str) (cc : Addr) (us : List Value), us.length = (("self" : Str) :: e.ns).length → bindArgs (PySem.W.ksFn nm e.qual (defArgs e.st) (defBody e.st) (defScope e.st) .none kV doc pm an cdv ct cc) ⟨us, []⟩ = pure ((("self" : Str) :: e.ns).zip us)
  self : ∃ ar, ((defArgs e.st).posonlyargs ++ (defArgs e.st).args).head? = some ar ∧ ar.arg = ("self" : Str)
  st : e.ns.length = e.ow.n ∧ e.ow.fs ≠ [] ∧ e.ow.fs.length ≤ 900 ∧ (e.ns.all okN) = true ∧ e.ow.z = e.c.cps.toList
  top : (P.main.scope.names.lookup ("super" : Str)).isSome = false
def scsB (N : List Str) (sc : Scope) : Bool := (N.all fun x => decide (sc.names.lookup x = some .local)) && ((sc.names.all fun y => (!decide (y.2 = .free) || decide (y.1 = "__class__")) && !decide (y.2 = .cell)) && (decide (sc.names.lookup ("super" : Str) = some .globalImplicit) && decide (sc.names.lookup ("__class__" : Str) = some .free)))
theorem scs_by {N : List Str} {sc : Scope} (kind : sc.kind = .function) (co : sc.isCoroutine = false) (gen : sc.isGenerator = false) (nd : N.Nodup) (h : scsB N sc = true) : ScS N N sc := by
  obtain ⟨h1, h⟩ := He.ba h
  obtain ⟨h2, h⟩ := He.ba h
  obtain ⟨h3, h4⟩ := He.ba h
  have h2 := List.all_eq_true.mp h2
  have k : ∀ y ∈ sc.names, y.2 ≠ .cell := fun y hy e => by
    have := (He.ba (h2 y hy)).2
    rw [e] at this
    simp at this
  refine ⟨kind, co, gen, nd, by simp, fun x hx => of_decide_eq_true (List.all_eq_true.mp h1 x hx), fun x e => ?_, fun x e => k _ (PySem.mem_of_lookup e) rfl, k, of_decide_eq_true h3, of_decide_eq_true h4⟩
  have := (He.ba (h2 _ (PySem.mem_of_lookup e))).1
  simpa using this
section
variable {P : Program} {K : PySem.W.Frag} {h : Heap} {mg : Str → Option Value} {e : Ie}
theorem ini_ok (X : K.In h) (N : h.Ns mainGlobals mg) (S : IeOk P e) (hy : fnY K e.c = e.val) (hb : iniB P.main.file K e = true) : ∃ fd, IniOk P K mg (He.ga K e.c) e.ow (iniAt K e.c) fd e.ns := by
  obtain ⟨b1, hb⟩ := He.ba hb
  obtain ⟨b2, hb⟩ := He.ba hb
  obtain ⟨b3, hb⟩ := He.ba hb
  obtain ⟨b4, hb⟩ := He.ba hb
  obtain ⟨b5, hb⟩ := He.ba hb
  obtain ⟨b6, hb⟩ := He.ba hb
  obtain ⟨b7, hb⟩ := He.ba hb
  obtain ⟨b8, hb⟩ := He.ba hb
  obtain ⟨b9, hb⟩ := He.ba hb
  obtain ⟨b10, hb⟩ := He.ba hb
  obtain ⟨b11, _⟩ := He.ba hb
  obtain ⟨s1, s2, s3, s4, _⟩ := S.st
  unfold fnY Ie.val at hy
  cases q : K.lookup (iniAt K e.c) with
  | none => rw [q] at b3; cases b3
  | some o =>
    rw [q] at b3 hy
    obtain ⟨oc, od, dt, osl⟩ := o
    cases dt with
    | func fd =>
      obtain ⟨n1, n2, n3, n4, n5, n6, n7, n8, n9, n10, n11, n12, n13, n14, n15⟩ := fd
      have e2 : (some (n2, n3, n4, n5, n6, n7.map (·.1), n15) : IniW) = (some (e.qual, defArgs e.st, FuncBody.stmts (defBody e.st), defScope e.st, mainGlobals, ["__class__"], builtinsNs) : IniW) := hy
      simp only [Option.some.injEq, Prod.mk.injEq] at e2
      obtain ⟨h2, h3, h4, h5, h6, h7, h8⟩ := e2
      subst h2 h3 h4 h5 h6 h8
      obtain ⟨c1, c2⟩ := He.ba (show (codB K e.qual P.main.file n13 && (cellB K (He.ga K e.c) n7 && nonB n8)) = true from b3)
      obtain ⟨c3, c4⟩ := He.ba c2
      obtain ⟨cda, rfl, c5, c6⟩ := codB_ok c1
      obtain rfl := nonB_ok c4
      obtain ⟨cc, rfl, hcell⟩ : ∃ cc, n7 = [(("__class__" : Str), cc)] ∧ ∃ cl cld csl, K.lookup cc = some ⟨cl, cld, .cell (some (.ref (He.ga K e.c))), csl⟩ := by
        unfold cellB at c3
        split at c3
        · rename_i n cc
          obtain ⟨d1, d2⟩ := He.ba c3
          have d1 := of_decide_eq_true d1
          subst d1
          split at d2
          · rename_i cl cld D csl hl
            have d2 := of_decide_eq_true d2
            subst d2
            exact ⟨cc, rfl, _, _, _, hl⟩
          · cases d2
        · cases c3
      have hf : ∃ ccl cdd vs ccs file tf, K.lookup cda = some ⟨ccl, cdd, .fields vs, ccs⟩ ∧ vs[2]? = some (.str file tf) ∧ ((P.main.file : Str) == file) = true := by
        unfold fileB at c6
        split at c6
        · rename_i vs _ hl
          split at c6
          · rename_i f tf hv
            exact ⟨_, _, _, _, _, _, hl, hv, c6⟩
          · cases c6
        · cases c6
      refine ⟨_, ⟨cda, cc, e.qual, defArgs e.st, defBody e.st, defScope e.st, ⟨⟨oc, od, osl, q⟩, ⟨_, _, _, _, _, _, _, rfl⟩, c5, hf, hcell, Option.isSome_iff_exists.mp b4, of_decide_eq_true b5, of_decide_eq_true b6, He.eqO_ok b7, He.eqO_ok b8, S.top, oexB_ok b9, S.self⟩, S.sc, S.bd⟩, He.eqO_ok b1, of_decide_eq_true b2, .all fun us hl => S.bi _ _ _ _ _ _ _ _ us hl, He.free_ok X N b11, s1, s2, ⟨s3, fun f hf => He.eqO_ok (List.all_eq_true.mp b10 f hf)⟩, List.all_eq_true.mp s4⟩
    | _ => cases b3
end
/-! ### the Hook -/
def asY (g : Addr → Option Obj) (n : Nat) : List Addr := cStatics :: He.asD g n
def kY (g : Addr → Option Obj) (n : Nat) : PySem.W.Frag := He.frT g (asY g n)
abbrev AlY : Type := He.AlX × List IniW
structure SaysY (fa : List He.Fa) (fn : List He.DefD) (tf : List He.Defn) (ex : PySem.W.Frag → Bool) (ies : List Ie) (w : World) (h : Heap) (K : PySem.W.Frag) : Prop where
  x : He.SaysX fa fn [] tf ex w h K
  y : ies.map (fun e => fnY K e.c) = ies.map Ie.val
def obsY (n : Nat) (fa : List He.Fa) (fn : List He.DefD) (tf : List He.Defn) (ex : PySem.W.Frag → Bool) (ies : List Ie) (g : Addr → Option Obj) : AlY := ((He.obsT fa fn [] (kY g n), ex (kY g n) && He.tabsB g tf (kY g n)), ies.map fun e => fnY (kY g n) e.c)
def valY (fn : List He.DefD) (ies : List Ie) (w : World) : AlY := ((He.valT fn [] w, true), ies.map Ie.val)
theorem saysY_of {n : Nat} {fa : List He.Fa} {fn : List He.DefD} {tf : List He.Defn} {ex : PySem.W.Frag → Bool} {ies : List Ie} {w : World} {h : Heap} (e : obsY n fa fn tf ex ies h.get? = valY fn ies w) : SaysY fa fn tf ex ies w h (kY h.get? n) := by
  have e0 : (He.obsT fa fn [] (kY h.get? n), ex (kY h.get? n) && He.tabsB h.get? tf (kY h.get? n)) = (He.valT fn [] w, true) := congrArg (fun z : AlY => z.1) e
  have e1 : He.obsT fa fn [] (kY h.get? n) = He.valT fn [] w := congrArg (fun z : He.AlX => z.1) e0
  have e2 : (ex (kY h.get? n) && He.tabsB h.get? tf (kY h.get? n)) = true := congrArg (fun z : He.AlX => z.2) e0
  obtain ⟨h1, h2⟩ := He.ba e2
  have key : ∀ p ∈ tf, PySem.W.codeHdIn (kY h.get? n) (He.cT (kY h.get? n) p).1 (He.cT (kY h.get? n) p).2 = true ∧ ∃ o, h.get? (He.cT (kY h.get? n) p).2 = some o ∧ He.emptyTab o = true := fun p hp => by
    obtain ⟨h3, h4⟩ := He.ba (List.all_eq_true.mp h2 p hp)
    refine ⟨h3, ?_⟩
    cases q : h.get? (He.cT (kY h.get? n) p).2 with
    | none => rw [q] at h4; cases h4
    | some o => rw [q] at h4; exact ⟨o, rfl, h4⟩
  refine ⟨⟨e1, h1, fun p hp => (key p hp).1, fun p hp => ?_, fun p hp => ?_⟩, congrArg (fun z : AlY => z.2) e⟩
  · obtain ⟨_, o, q, z⟩ := key p hp
    exact He.frT_none q z
  · obtain ⟨_, o, q, z⟩ := key p hp
    rw [q, He.emptyTab_eq z]
def hookY (n : Nat) (fa : List He.Fa) (fn : List He.DefD) (tf : List He.Defn) (ex : PySem.W.Frag → Bool) (ies : List Ie) : PySem.W.Hook where
  α := AlY
  obs := fun s => obsY n fa fn tf ex ies s.heap.get?
  val := fun w => valY fn ies w
  says := fun w h => ∃ K : PySem.W.Frag, K.In h ∧ SaysY fa fn tf ex ies w h K
  of := fun _ _ e => ⟨_, He.frT_in, saysY_of e⟩
  keeps := fun _ _ _ ⟨K, hK, c⟩ k => ⟨K, PySem.W.Frag.In.keeps hK k, ⟨⟨c.x.t, c.x.more, c.x.hd, c.x.out, fun p hp => k _ _ (c.x.empty p hp)⟩, c.y⟩⟩
theorem obsY_eq {n : Nat} {fa : List He.Fa} {fn : List He.DefD} {tf : List He.Defn} {ex : PySem.W.Frag → Bool} {ies : List Ie} {g : Addr → Option Obj} {s : Shared} (h : ∀ a, g a = s.heap.get? a) : obsY n fa fn tf ex ies g = (hookY n fa fn tf ex ies).obs s := by
  have e : g = s.heap.get? := funext h
  rw [e] <;> rfl
end G

set_option Elab.async false
set_option linter.all false
set_option maxRecDepth 100000
set_option maxHeartbeats 8000000
namespace G
open PySem PySem.Spec PyProof.Rows L2

/-! ### a text of defs -/
abbrev Tab := List (Str × Df)
/-- the meaning of the defs, to a depth of calls -/
def den (gl : Str → Option Va) (xs : Xs) (tab : Tab) : Nat → Str → Fn
  | 0, _ => fun _ => .stuck
  | n + 1, f => match tab.lookup f with
    | some d => runD ⟨gl, den gl xs tab n, xs, none⟩ d
    | none => fun _ => .stuck
theorem den_succ {gl : Str → Option Va} {xs : Xs} {tab : Tab} {n : Nat} {f : Str} {d : Df} (h : tab.lookup f = some d) : den gl xs tab (n + 1) f = runD ⟨gl, den gl xs tab n, xs, none⟩ d := by
  show (match tab.lookup f with | some d => runD ⟨gl, den gl xs tab n, xs, none⟩ d | none => fun _ => .stuck) = _
  rw [h]
section
variable {P : Program} {w : World} {K : PySem.W.Frag} {mg : Str → Option Value} {base : Heap} {ct : Ct} {gl : Str → Option Va} {xs : Xs} {tab : Tab}
structure DefOk (K : PySem.W.Frag) (mg : Str → Option Value) (tab : Tab) (gls : List Str) (fns : List (Str × List Str)) (bs xns : List Str) (sgn : List (Str × Tx)) (tbs : List (Addr × Addr)) (f : Str) (ks : List Str) : Prop where
  ex : ∃ (d : Df) (a : Addr) (fd : FuncData) (ps : List Str) (x qual : Str) (params : Arguments) (body : List Stmt) (scope : Scope) (dvs : List V) (kws : List (Str × V)) (gn : Bool), tab.lookup f = some d ∧ mg f = some (.ref a) ∧ FunD K x qual params body scope dvs kws a fd ∧ FnScope d.N ps scope ∧ KB fd ps ks ∧ d.np = ps.length ∧ (chkS d.body).b ⟨d.N, scope, gls, fns, bs, fun _ => true, xns, none, true, gn, sgn⟩ body = true ∧ (gn = true → ∃ p ∈ tbs, fd.code = .ref p.1)
theorem all_ok {gls bs xns : List Str} {fns : List (Str × List Str)} {sgn : List (Str × Tx)} {tbs : List (Addr × Addr)} (hsg : ∀ p ∈ sgn, SignF K mg p.1 p.2) (htb : ∀ p ∈ tbs, GxR.TabB base mg p.1 p.2) (htp : ∀ p ∈ tbs, p.2 ∈ ct.tps) (hxs : XsOk P K mg ct xs) (hxn : ∀ x ∈ xns, ∃ cv, mg x = some cv ∨ (mg x = none ∧ bootBuiltins x = some cv)) (hcold : ∀ σ F, ct.inv σ F) (hgl : ∀ x ∈ gls, ∃ w v u, gl x = some w ∧ mg x = some u ∧ RelV v u ∧ ∀ F μ, RV K F μ w v) (hbs : ∀ x ∈ bs, mg x = none) (h : ∀ f ∈ fns, DefOk K mg tab gls fns bs xns sgn tbs f.1 f.2) : ∀ n, ∀ f ∈ fns, FnC P w K mg base ct (3 * n) f.2 f.1 (den gl xs tab n f.1)
  | 0, f, hf => by
    obtain ⟨d, a, fd, ps, _, _, _, _, _, _, _, gn, h1, h2, h3, h4, h5, h6, h7, h8⟩ := (h f hf).ex
    refine ⟨a, fd, ps, h2, h3.kp, h5, ?_⟩
    refine ⟨fun vs H Q E ⟨_, _, _, _, _, z⟩ => z.elim, fun A outer s H args us vs Q E hr e0 hb r ⟨_, _, _, _, _, z⟩ => z.elim⟩
  | n + 1, f, hf => by
    obtain ⟨d, a, fd, ps, _, _, _, _, _, _, _, gn, h1, h2, h3, h4, h5, h6, h7, h8⟩ := (h f hf).ex
    refine ⟨a, fd, ps, h2, h3.kp, h5, ?_⟩
    rw [den_succ h1]
    exact def_ok h3 h4 h6 ⟨hgl, hbs, hxs, hxn, hcold, hsg⟩ (fun e => let ⟨p, hp, q⟩ := h8 e; ⟨p.1, p.2, q, htb p hp, htp p hp⟩) (all_ok hsg htb htp hxs hxn hcold hgl hbs h n) h7
theorem law_sp {φ : Fn} {H : Hp} {a : Addr} {ns : List Int} (h : φ [.scr (ns.map Va.int)] = .ok (.bl true) []) (hT : ∀ P ∈ ct.tps, H P = some (.tbl #[])) (hS : SqL K H a (ns.map V.int)) : spP K ct φ [.ref a] H (fun v _ => v = .bl true) fun _ _ _ => False := by
  have allInt : ∀ (F : Hp) (l : List Int), RVs K F [] (l.map Va.int) (l.map V.int) := fun F l => by
    induction l with
    | nil => exact .nil
    | cons x r ih => exact .cons (.int x) ih
  have off : ∀ b u, H b = some u → (∀ ps, u ≠ .tbl ps) → (if b ∈ ct.tps then none else H b) = some u := fun b u e nt => by
    rw [if_neg fun m => by
      rw [hT b m] at e
      exact nt _ (Option.some.inj e).symm]
    exact e
  refine ⟨fun b => if b ∈ ct.tps then none else H b, [.scr (ns.map Va.int)], fun b u e => ?_, fun P m => ⟨⟨#[], hT P m, trivial⟩, if_pos m⟩, .cons (.scr ?_ (allInt _ ns)) .nil, ?_⟩
  · have e : (if b ∈ ct.tps then none else H b) = some u := e
    split at e
    · cases e
    · exact e
  · rcases hS with (e | ⟨o, e⟩) | e
    · exact .inl (.inl (off _ _ e fun _ => nofun))
    · exact .inl (.inr ⟨o, off _ _ e fun _ => nofun⟩)
    · exact .inr e
  · rw [h]
    intro F' H' v _ _ rv
    cases rv
    rfl
/-! ### what the top has left -/
/-- a def of the text: its name, its slots, its parameters, its body's words; the statement of the text -/
structure De where
  f : Str
  ps : List Str
  d : Df
  st : Stmt
  ks : List Str := []
def De.fk (e : De) : Str × List Str := (e.f, e.ks)
def De.dd (e : De) : He.DefD := ⟨(e.f, none), e.f, e.f, defArgs e.st, defBody e.st, defScope e.st, [], []⟩
def tabOf (es : List De) : Tab := es.map fun e => (e.f, e.d)
/-- constants of the module: whole numbers, texts, tuples of texts and numbers -/
inductive Gc where
  | int (i : Int) | str (x : Str) | tup (l : List He.Dv)
def dvV : He.Dv → Option Va
  | .non => some .non | .bl b => some (.bl b) | .int i => some (.int i) | .str x => some (.str x.cps.toList) | _ => none
def Gc.va : Gc → Option Va
  | .int i => some (.int i)
  | .str x => some (.str x.cps.toList)
  | .tup l => (l.mapM dvV).map Va.tup
def Gc.ok (K : PySem.W.Frag) (x : Str) : Gc → Bool
  | .int i => (He.Fa.int x i).ok K
  | .str z => (He.Fa.str x z).ok K
  | .tup l => (He.Fa.glo x).ok K && He.tupB K x l
def gcs (cs : List (Str × Gc)) (K : PySem.W.Frag) : Bool := cs.all fun c => c.2.ok K c.1 && c.2.va.isSome
def glOf (cs : List (Str × Gc)) (x : Str) : Option Va := (cs.lookup x).bind Gc.va
theorem lookup_of {α : Type} {x : Str} : ∀ {l : List (Str × α)}, x ∈ l.map (·.1) → ∃ g, l.lookup x = some g ∧ (x, g) ∈ l
  | [], h => by simp at h
  | (y, v) :: r, h => by
    by_cases e : x = y
    · subst e
      exact ⟨v, by simp [List.lookup_cons], List.mem_cons_self⟩
    · have h2 : x ∈ r.map (·.1) := by simpa [e] using h
      obtain ⟨g, h3, h4⟩ := lookup_of h2
      have e2 : (x == y) = false := by simpa using e
      exact ⟨g, by rw [List.lookup_cons, e2]; exact h3, List.mem_cons_of_mem _ h4⟩
theorem dvV_ok {v : He.Dv} {x : Va} (h : dvV v = some x) (F : Hp) (μ : List Addr) : RV K F μ x (v.v K) := by
  cases v with
  | str z =>
    cases h
    have e : (He.Dv.str z).v K = .str (mkS z.cps.toList) := by rw [mkS_tl]; rfl
    rw [e]
    exact .str _
  | non => cases h; exact .non
  | bl b => cases h; exact .bl b
  | int i => cases h; exact .int i
  | _ => cases h
theorem dvVs_ok {F : Hp} {μ : List Addr} : ∀ {l : List He.Dv} {ws : List Va}, l.mapM dvV = some ws → RVs K F μ ws (l.map (He.Dv.v K))
  | [], ws, h => by
    have : ws = [] := by simpa using h.symm
    subst this
    exact .nil
  | v :: l, ws, h => by
    rw [List.mapM_cons] at h
    cases e1 : dvV v with
    | none => rw [e1] at h; simp at h
    | some x =>
      cases e2 : l.mapM dvV with
      | none => rw [e1, e2] at h; simp at h
      | some xs =>
        rw [e1, e2] at h
        simp at h
        subst h
        exact .cons (dvV_ok e1 F μ) (dvVs_ok e2)
theorem gcs_ok {h : Heap} {cs : List (Str × Gc)} (X : K.In h) (N : h.Ns mainGlobals mg) (c : gcs cs K = true) : ∀ x ∈ cs.map (·.1), ∃ w v u, glOf cs x = some w ∧ mg x = some u ∧ RelV v u ∧ ∀ F μ, RV K F μ w v := fun x hx => by
  obtain ⟨g, h1, h2⟩ := lookup_of hx
  obtain ⟨c1, c2⟩ := He.ba (List.all_eq_true.mp c _ h2)
  obtain ⟨w, ew⟩ := Option.isSome_iff_exists.mp c2
  have e0 : glOf cs x = some w := by unfold glOf; rw [h1]; exact ew
  cases g with
  | int i =>
    obtain ⟨t, e⟩ := He.int_ok X N c1
    cases ew
    exact ⟨_, .int i, _, e0, e, ⟨t, rfl⟩, fun F μ => .int i⟩
  | str z =>
    obtain ⟨t, e⟩ := He.str_ok X N c1
    cases ew
    refine ⟨_, .str (mkS z.cps.toList), _, e0, e, ?_, fun F μ => .str _⟩
    rw [mkS_tl]
    exact ⟨t, rfl⟩
  | tup l =>
    obtain ⟨c3, c4⟩ := He.ba c1
    have e := He.glo_ok X N c3
    cases em : l.mapM dvV with
    | none => simp [Gc.va, em] at ew
    | some ws =>
      simp [Gc.va, em] at ew
      subst ew
      exact ⟨_, .ref (He.ga K x), _, e0, e, rfl, fun F μ => .tup (He.tupB_ok c4 F) (dvVs_ok em)⟩
/-- the exception classes of a text: own ones; who is one of whom; names that a class has not; those that are made with a text alone -/
structure Xt where
  cs : List Str := []
  subs : List (Str × Str × Bool) := []
  flds : List (Str × Str) := []
  pls : List Str := []
  inis : List Ie := []
def Xt.tabC (t : Xt) (K : PySem.W.Frag) (z : Tx) : Option Addr := (t.cs.find? fun x => x.cps.toList == z).map (He.ga K)
def Xt.ctC (t : Xt) (K : PySem.W.Frag) (tps : List Addr) : Ct := ⟨t.tabC K, tps, fun _ _ => True, fun _ _ _ _ h => h⟩
def Xt.xsC (t : Xt) : Xs := ⟨fun z c => (t.subs.find? fun p => p.1.cps.toList == z && p.2.1 == c).map fun p => p.2.2, fun c => if c ∈ t.pls then some c.cps.toList else none, fun z f => t.flds.any fun p => p.1.cps.toList == z && p.2 == f, fun c => (t.inis.find? fun e => e.c == c).map (·.ow)⟩
def Xt.xn (t : Xt) : List Str := t.subs.map fun p => p.2.1
def excB (K : PySem.W.Frag) (C : Addr) : Bool := He.eqO (PySem.W.findIn K (.ref C) "__getattribute__") (some (some (.builtin "BaseException.__getattribute__"))) && (He.eqO (PySem.W.findIn K (.ref C) "__getattr__") (some none) && (decide (PySem.W.subIn K (.ref C) (.type "BaseException") = some true) && (PySem.W.hasDictIn K C &&
  (He.eqO (PySem.W.findIn K (.ref C) "__class__") (some (some (.builtin "object.__class__"))) && (He.eqO (PySem.W.specialIn K (.builtin "object.__class__") "__get__") (some (some (.builtin "getset_descriptor.__get__"))) && (decide (PySem.W.takesIn K (.builtin "object.__class__") = some true) && decide (PySem.W.mroIn K C (.type "object") = some true)))))))
theorem excB_ok {K : PySem.W.Frag} {C : Addr} (h : excB K C = true) : ExcC K C := by
  obtain ⟨h1, h⟩ := He.ba h
  obtain ⟨h2, h⟩ := He.ba h
  obtain ⟨h3, h⟩ := He.ba h
  obtain ⟨h4, h⟩ := He.ba h
  obtain ⟨h5, h⟩ := He.ba h
  obtain ⟨h6, h⟩ := He.ba h
  obtain ⟨h7, h8⟩ := He.ba h
  exact ⟨He.eqO_ok h1, He.eqO_ok h2, of_decide_eq_true h3, h4, He.eqO_ok h5, He.eqO_ok h6, of_decide_eq_true h7, of_decide_eq_true h8⟩
def subB (K : PySem.W.Frag) (p : Str × Str × Bool) : Bool := ((He.Fa.glo p.2.1).ok K && (decide (PySem.W.exmOne K (.ref (He.ga K p.1)) (.ref (He.ga K p.2.1)) = some p.2.2) && decide (PySem.W.kitOne K (.ref (He.ga K p.1)) (.ref (He.ga K p.2.1)) = some p.2.2))) ||
  (match bootBuiltins p.2.1 with
  | some (.type n) => (He.Fa.free p.2.1).ok K && (decide (PySem.W.exmOne K (.ref (He.ga K p.1)) (.type n) = some p.2.2) && decide (PySem.W.kitOne K (.ref (He.ga K p.1)) (.type n) = some p.2.2))
  | _ => false)
def Xt.ok (t : Xt) (file : Str) (K : PySem.W.Frag) : Bool := (t.inis.all fun e => decide (e.c ∈ t.cs) && iniB file K e) && ((t.cs.all fun x => (He.Fa.glo x).ok K && excB K (He.ga K x)) && ((t.subs.all fun p => decide (p.1 ∈ t.cs) && subB K p) && ((t.flds.all fun p => decide (p.1 ∈ t.cs) && He.eqO (PySem.W.findIn K (.ref (He.ga K p.1)) p.2) (some none)) && t.pls.all fun x => decide (x ∈ t.cs) && (He.Fa.exc x).ok K)))
theorem cps_inj {x y : Str} (h : x.cps.toList = y.cps.toList) : x = y := by rw [← mkS_tl x, ← mkS_tl y, h]
theorem Xt.tabC_of {t : Xt} {K : PySem.W.Frag} {x : Str} (h : x ∈ t.cs) : t.tabC K x.cps.toList = some (He.ga K x) := by
  unfold Xt.tabC
  cases e : t.cs.find? fun y => y.cps.toList == x.cps.toList with
  | none =>
    have := List.find?_eq_none.mp e x h
    simp at this
  | some y =>
    have := List.find?_some e
    rw [cps_inj (eq_of_beq this)]
    rfl
theorem Xt.subs_ok {t : Xt} {K : PySem.W.Frag} {h : Heap} {mg : Str → Option Value} (X : K.In h) (N : h.Ns mainGlobals mg) {p : Str × Str × Bool} (c : subB K p = true) : (∃ D, mg p.2.1 = some (.ref D) ∧ PySem.W.exmOne K (.ref (He.ga K p.1)) (.ref D) = some p.2.2 ∧ PySem.W.kitOne K (.ref (He.ga K p.1)) (.ref D) = some p.2.2) ∨
    ∃ n, mg p.2.1 = none ∧ bootBuiltins p.2.1 = some (.type n) ∧ PySem.W.exmOne K (.ref (He.ga K p.1)) (.type n) = some p.2.2 ∧ PySem.W.kitOne K (.ref (He.ga K p.1)) (.type n) = some p.2.2 := by
  unfold subB at c
  rcases Bool.or_eq_true_iff.mp c with c | c
  · obtain ⟨c1, c⟩ := He.ba c
    obtain ⟨c2, c3⟩ := He.ba c
    exact .inl ⟨_, He.glo_ok X N c1, of_decide_eq_true c2, of_decide_eq_true c3⟩
  · split at c
    · rename_i n e
      obtain ⟨c1, c⟩ := He.ba c
      obtain ⟨c2, c3⟩ := He.ba c
      exact .inr ⟨n, He.free_ok X N c1, e, of_decide_eq_true c2, of_decide_eq_true c3⟩
    · cases c
theorem Xt.fine {P : Program} {tps : List Addr} {t : Xt} {K : PySem.W.Frag} {h : Heap} {mg : Str → Option Value} (X : K.In h) (N : h.Ns mainGlobals mg) (c : t.ok P.main.file K = true) (hI : ∀ e ∈ t.inis, IeOk P e) (hy : ∀ e ∈ t.inis, fnY K e.c = e.val) : XsOk P K mg (t.ctC K tps) t.xsC := by
  obtain ⟨c0, c⟩ := He.ba c
  have c0 := List.all_eq_true.mp c0
  obtain ⟨c1, c⟩ := He.ba c
  obtain ⟨c2, c⟩ := He.ba c
  obtain ⟨c3, c4⟩ := He.ba c
  have c1 := List.all_eq_true.mp c1
  have c2 := List.all_eq_true.mp c2
  have c3 := List.all_eq_true.mp c3
  have c4 := List.all_eq_true.mp c4
  refine ⟨fun z C e => ?_, fun z k b e => ?_, fun z f e => ?_, fun k o e => ?_, fun k z e => ?_⟩
  · have e : (t.cs.find? fun x => x.cps.toList == z).map (He.ga K) = some C := e
    obtain ⟨x, e1, rfl⟩ := Option.map_eq_some_iff.mp e
    exact excB_ok (He.ba (c1 x (List.mem_of_find?_eq_some e1))).2
  · have e : (t.subs.find? fun p => p.1.cps.toList == z && p.2.1 == k).map (fun p => p.2.2) = some b := e
    obtain ⟨p, e1, rfl⟩ := Option.map_eq_some_iff.mp e
    obtain ⟨q1, q2⟩ := He.ba (c2 p (List.mem_of_find?_eq_some e1))
    have e4 := List.find?_some e1
    simp only [Bool.and_eq_true] at e4
    obtain ⟨e2, e3⟩ := e4
    have e2 := eq_of_beq e2
    have e3 := eq_of_beq e3
    subst e2 e3
    exact ⟨_, Xt.tabC_of (of_decide_eq_true q1), Xt.subs_ok (t := t) X N q2⟩
  · have e : (t.flds.any fun p => p.1.cps.toList == z && p.2 == f) = true := e
    obtain ⟨p, e1, e2⟩ := List.any_eq_true.mp e
    obtain ⟨q1, q2⟩ := He.ba (c3 p e1)
    obtain ⟨e2, e3⟩ := He.ba e2
    have e2 := eq_of_beq e2
    have e3 := eq_of_beq e3
    subst e2 e3
    exact ⟨_, Xt.tabC_of (of_decide_eq_true q1), He.eqO_ok q2⟩
  · have e : (t.inis.find? fun e => e.c == k).map (·.ow) = some o := e
    obtain ⟨ie, e1, rfl⟩ := Option.map_eq_some_iff.mp e
    have hm := List.mem_of_find?_eq_some e1
    have e2 := List.find?_some e1
    have e2 : ie.c = k := eq_of_beq e2
    subst e2
    obtain ⟨q1, q2⟩ := He.ba (c0 ie hm)
    have q1 := of_decide_eq_true q1
    obtain ⟨fd, ok⟩ := ini_ok X N (hI ie hm) (hy ie hm) q2
    refine ⟨_, _, fd, ie.ns, ?_, He.glo_ok X N (He.ba (c1 ie.c q1)).1, ok⟩
    rw [(hI ie hm).st.2.2.2.2]
    exact Xt.tabC_of q1
  · have e : (if k ∈ t.pls then some k.cps.toList else none) = some z := e
    split at e
    · rename_i hk
      cases e
      obtain ⟨q1, q2⟩ := He.ba (c4 k hk)
      have q1 : k ∈ t.cs := of_decide_eq_true q1
      obtain ⟨g1, g2, g3, g4⟩ := He.exc_ok q2
      exact ⟨_, Xt.tabC_of q1, He.glo_ok X N (He.ba (c1 k q1)).1, g1, g2, g3, g4⟩
    · cases e
theorem Xt.names {t : Xt} {K : PySem.W.Frag} {h : Heap} {mg : Str → Option Value} (X : K.In h) (N : h.Ns mainGlobals mg) {file : Str} (c : t.ok file K = true) : ∀ x ∈ t.xn, ∃ cv, mg x = some cv ∨ (mg x = none ∧ bootBuiltins x = some cv) := fun x hx => by
  obtain ⟨p, hp, rfl⟩ := List.mem_map.mp hx
  have q := (He.ba (List.all_eq_true.mp (He.ba (He.ba (He.ba c).2).2).1 p hp)).2
  rcases Xt.subs_ok (t := t) X N q with ⟨D, e, _⟩ | ⟨n, e1, e2, _⟩
  · exact ⟨_, .inl e⟩
  · exact ⟨_, .inr ⟨e1, e2⟩⟩
/-- what is checked over the heap -/
def xgs (file : Str) (t : Xt) (cs : List (Str × Gc)) (K : PySem.W.Frag) : Bool := gcs cs K && t.ok file K
/-- what is checked of each def -/
structure DeOk (tab : Tab) (gls : List Str) (fns : List (Str × List Str)) (bs xns : List Str) (gns : List Str) (sgn : List (Str × Tx)) (e : De) : Prop where
  lk : tab.lookup e.f = some e.d
  sc : FnScope e.d.N e.ps (defScope e.st)
  np : e.d.np = e.ps.length
  bi : ∀ (kV doc pm : Value) (an : Option Addr) (cdv ct : Value) (us ws : List Value), us.length + e.ks.length = e.ps.length → ws.length = e.ks.length → bindArgs (PySem.W.fnOf e.f e.f (defArgs e.st) (defBody e.st) (defScope e.st) .none kV doc pm an cdv ct) ⟨us, e.ks.zip ws⟩ = pure (e.ps.zip (us ++ ws))
  ck : (chkS e.d.body).b ⟨e.d.N, defScope e.st, gls, fns, bs, fun _ => true, xns, none, true, decide (e.f ∈ gns), sgn⟩ (defBody e.st) = true
theorem bi0 {e : De} (hk : e.ks = []) (h : ∀ (kV doc pm : Value) (an : Option Addr) (cdv ct : Value) (us : List Value), us.length = e.ps.length → bindArgs (PySem.W.fnOf e.f e.f (defArgs e.st) (defBody e.st) (defScope e.st) .none kV doc pm an cdv ct) ⟨us, []⟩ = pure (e.ps.zip us)) :
    ∀ (kV doc pm : Value) (an : Option Addr) (cdv ct : Value) (us ws : List Value), us.length + e.ks.length = e.ps.length → ws.length = e.ks.length → bindArgs (PySem.W.fnOf e.f e.f (defArgs e.st) (defBody e.st) (defScope e.st) .none kV doc pm an cdv ct) ⟨us, e.ks.zip ws⟩ = pure (e.ps.zip (us ++ ws)) := by
  intro kV doc pm an cdv ct us ws h1 h2
  rw [hk] at h1 h2 ⊢
  have : ws = [] := by simpa using h2
  subst this
  rw [List.append_nil]
  exact h _ _ _ _ _ _ us (by simpa using h1)
theorem bi1 {e : De} {kw : Str} (hk : e.ks = [kw]) (h : ∀ (kV doc pm : Value) (an : Option Addr) (cdv ct : Value) (w : Value) (us : List Value), us.length + 1 = e.ps.length → bindArgs (PySem.W.fnOf e.f e.f (defArgs e.st) (defBody e.st) (defScope e.st) .none kV doc pm an cdv ct) ⟨us, [(kw, w)]⟩ = pure (e.ps.zip (us ++ [w]))) :
    ∀ (kV doc pm : Value) (an : Option Addr) (cdv ct : Value) (us ws : List Value), us.length + e.ks.length = e.ps.length → ws.length = e.ks.length → bindArgs (PySem.W.fnOf e.f e.f (defArgs e.st) (defBody e.st) (defScope e.st) .none kV doc pm an cdv ct) ⟨us, e.ks.zip ws⟩ = pure (e.ps.zip (us ++ ws)) := by
  intro kV doc pm an cdv ct us ws h1 h2
  rw [hk] at h1 h2 ⊢
  match ws, h2 with
  | [w], _ => exact h _ _ _ _ _ _ w us (by simpa using h1)
theorem kb_of {K : PySem.W.Frag} {x qual : Str} {params : Arguments} {body : List Stmt} {scope : Scope} {kws : List (Str × V)} {f : Addr} {fd : FuncData} {ps ks : List Str} (F : FunD K x qual params body scope [] kws f fd)
    (h : ∀ (kV doc pm : Value) (an : Option Addr) (cdv ct : Value) (us ws : List Value), us.length + ks.length = ps.length → ws.length = ks.length → bindArgs (PySem.W.fnOf x qual params body scope .none kV doc pm an cdv ct) ⟨us, ks.zip ws⟩ = pure (ps.zip (us ++ ws))) : KB fd ps ks := by
  obtain ⟨oc, od, dV, kV, doc, pm, an, cdv, ct, osl, rfl, lk, hcd, hD, hK⟩ := F.ex
  rcases hD with ⟨_, rfl⟩ | ⟨e, _⟩
  · exact h kV doc pm an cdv ct
  · exact absurd rfl e
def fasOf (es : List De) (law : De) (bs : List Str) : List He.Fa := .glo law.f :: (es.map fun e => .glo e.f) ++ bs.map .free
def fnsOf (es : List De) (law : De) : List He.DefD := law.dd :: es.map De.dd
def tfOf (gns : List Str) : List He.Defn := gns.map fun f => (f, none)
theorem law_end {es : List De} {law : De} {cs : List (Str × Gc)} {xt : Xt} {bs : List Str} {gns : List Str} {sgn : List (Str × Tx)} {n : Nat} {h : Heap} {f : Addr} {x : Str} (hc : SaysY (fasOf es law bs) (fnsOf es law) (tfOf gns) (xgs P.main.file xt cs) xt.inis w h K) (hI : ∀ e ∈ xt.inis, IeOk P e) (KX : K.In h) (N : h.Ns mainGlobals mg) (hmg : mg law.f = some (.ref f)) (hx : law.ps = [x])
    (H : ∀ e ∈ es, DeOk (tabOf es) (cs.map (·.1)) (es.map De.fk) bs xt.xn gns sgn e) (hsc : FnScope law.d.N law.ps (defScope law.st)) (hnp : law.d.np = 1)
    (hbi : ∀ (kV doc pm : Value) (an : Option Addr) (cdv ct : Value) (us : List Value), us.length = law.ps.length → bindArgs (PySem.W.fnOf law.f law.f (defArgs law.st) (defBody law.st) (defScope law.st) .none kV doc pm an cdv ct) ⟨us, []⟩ = pure (law.ps.zip us))
    (hck : (chkS law.d.body).b ⟨law.d.N, defScope law.st, cs.map (·.1), es.map De.fk, bs, fun _ => true, xt.xn, none, true, false, sgn⟩ (defBody law.st) = true)
    (hsg : ∀ p ∈ sgn, ∃ e ∈ es, e.f = p.1 ∧ e.ks = [] ∧ ∃ y g, e.ps = [y] ∧ signB y g (defScope e.st) (defBody e.st) = true ∧ g ∈ cs.map (·.1) ∧ glOf cs g = some (.str p.2))
    (hlaw : ∀ ns : List Int, ns.length ≤ 63 → runD ⟨glOf cs, den (glOf cs) xt.xsC (tabOf es) n, xt.xsC, none⟩ law.d [.scr (ns.map Va.int)] = .ok (.bl true) []) :
    ∃ (K : PySem.W.Frag) (fd : FuncData) (sp : Sp) (tbs : List (Addr × Addr)), K.In h ∧ (∀ (s : Shared) (u : Value), BindsTo s fd ⟨[u], []⟩ [(x, u)]) ∧
        (∀ p ∈ tbs, h.get? p.2 = some { cls := .none, data := .fields #[] } ∧ K.lookup p.2 = none ∧ PySem.W.CodeHd h p.1 p.2) ∧
        (∀ (H : Hp) (a : Addr) (ns : List Int), ns.length ≤ 63 → (∀ p ∈ tbs, H p.2 = some (.tbl #[])) → SqL K H a (ns.map V.int) → sp [.ref a] H (fun v _ => v = .bl true) fun _ _ _ => False) ∧
        ∀ base : Heap, K.In base → base.Ns mainGlobals mg → (∀ p ∈ tbs, LamX.TabB base mg p.1 p.2) → FnOk P w K mg base (L2.CX P w) (3 * n + 3) f fd [x] sp := by
  have cd := hc.x.t.d
  have hy : ∀ e ∈ xt.inis, fnY K e.c = e.val := fun e he => by
    obtain ⟨i, hi, e1⟩ := List.mem_iff_getElem.mp he
    have e2 : (xt.inis.map fun e => fnY K e.c)[i]? = (xt.inis.map Ie.val)[i]? := by rw [hc.y]
    rw [List.getElem?_map, List.getElem?_map, List.getElem?_eq_getElem hi, e1] at e2
    exact Option.some.inj e2
  obtain ⟨fd, F⟩ := He.SaysD.defs cd (d := law.dd) List.mem_cons_self
  have e := hmg.symm.trans (He.glo_ok KX N (He.SaysD.facts cd (f := .glo law.f) List.mem_cons_self))
  cases e
  have b := FunD.bindsA (ps := law.ps) F hbi
  let tbs : List (Addr × Addr) := (tfOf gns).map (He.cT K)
  let tps : List Addr := tbs.map (·.2)
  refine ⟨K, fd, spP K (xt.ctC K tps) (runD ⟨glOf cs, den (glOf cs) xt.xsC (tabOf es) n, xt.xsC, none⟩ law.d), tbs, KX, fun s v => ?_, fun p hp => ?_, fun H a ns hl hT hS => law_sp (hlaw ns hl) (fun P hP => ?_) hS, fun base _ _ hTB => ?_⟩
  · have z := b s [v] (by rw [hx]; rfl)
    rw [hx] at z
    exact z
  · obtain ⟨q, hq, rfl⟩ := List.mem_map.mp hp
    exact ⟨hc.x.empty q hq, hc.x.out q hq, PySem.W.codeHd_of_K KX (hc.x.hd q hq)⟩
  · obtain ⟨p, hp, rfl⟩ := List.mem_map.mp hP
    exact hT p hp
  · rw [← hx]
    have hbs : ∀ y ∈ bs, mg y = none := fun y hy => He.free_ok KX N (He.SaysD.facts cd (f := .free y) (by
      unfold fasOf
      exact List.mem_append_right _ (List.mem_map_of_mem hy)))
    obtain ⟨hm1, hm2⟩ := He.ba hc.x.more
    have gets : ∀ d ∈ es, ∃ fd', FunD K d.dd.name d.dd.qual d.dd.params d.dd.body d.dd.scope (d.dd.dvs K) (d.dd.kws K) (He.fAd K d.dd.at_) fd' := fun d hd => He.SaysD.defs cd (d := d.dd) (List.mem_cons_of_mem _ (List.mem_map_of_mem hd))
    have glo : ∀ d ∈ es, mg d.f = some (.ref (He.ga K d.f)) := fun d hd => He.glo_ok KX N (He.SaysD.facts cd (f := .glo d.f) (by
      unfold fasOf
      exact List.mem_append_left _ (List.mem_cons_of_mem _ (List.mem_map_of_mem (f := fun e : De => He.Fa.glo e.f) hd))))
    have sg : ∀ p ∈ sgn, SignF K mg p.1 p.2 := fun p hp => by
      obtain ⟨d, hd, e1, e2, y, g, e3, e4, e5, e6⟩ := hsg p hp
      obtain ⟨fd', F'⟩ := gets d hd
      have D := H d hd
      obtain ⟨wg, vg, ug, g1, g2, g3, g4⟩ := gcs_ok KX N hm1 g e5
      rw [g1] at e6
      cases e6
      have g4 := g4 (fun _ => none) []
      cases g4
      obtain ⟨t, rfl⟩ := g3
      have kb := kb_of F' D.bi
      have sc := D.sc
      rw [e3] at sc kb
      rw [e2] at kb
      exact ⟨_, _, _, _, _, _, _, fd', _, y, g, t, by rw [← e1]; exact glo d hd, F', sc, kb, e4, g2⟩
    refine def_ok (gn := false) F hsc (by rw [hnp, hx]; rfl) ⟨gcs_ok KX N hm1, hbs, Xt.fine KX N hm2 hI hy, Xt.names KX N hm2, fun _ _ => trivial, sg⟩ (fun e => (by cases e)) (all_ok (tab := tabOf es) (bs := bs) (tbs := tbs) sg (fun p hp => ⟨(hTB p hp).code, (hTB p hp).bm, (hTB p hp).gP⟩) (fun p hp => List.mem_map_of_mem hp) (Xt.fine KX N hm2 hI hy) (Xt.names KX N hm2) (fun _ _ => trivial) (gcs_ok KX N hm1) hbs (fun g hg => ?_) n) hck
    obtain ⟨d, hd, rfl⟩ := List.mem_map.mp hg
    obtain ⟨fd', F'⟩ := gets d hd
    have D := H d hd
    refine ⟨d.d, _, fd', d.ps, _, _, _, _, _, _, _, decide (d.f ∈ gns), D.lk, glo d hd, F', D.sc, kb_of F' D.bi, D.np, D.ck, fun hgn => ?_⟩
    have hgn := of_decide_eq_true hgn
    refine ⟨He.cT K (d.f, none), List.mem_map_of_mem (List.mem_map.mpr ⟨d.f, hgn, rfl⟩), ?_⟩
    obtain ⟨oc, od, dV, kV, doc, pm, an, cdv, ctv, osl, rfl, lk, hcd, _, _⟩ := F'.ex
    obtain ⟨c, rfl⟩ := He.codeIn_ref hcd
    exact congrArg Value.ref (He.codeOf_eq (p := (d.f, none)) lk rfl).symm
end
theorem walk_g {l : PySem.W.OpenLaw} {n k : Nat} {q : Program} {loose : List Str} {XP : (Str → Option Value) → Heap → Prop} {YP : World → Heap → Prop} {d : DefRec} {CX : World → CXT} {x : Str}
    (hn : l.most = some n) (hn2 : n ≤ sizeLine) (hdf : d.params.defaults = []) (hr : Room k callerA)
    (F : ∀ (w : World) (mg : Str → Option Value) (fa : Addr) (h : Heap), YP w h → h.Ns mainGlobals mg → mg d.name = some (.ref fa) →
      ∃ (K : PySem.W.Frag) (fd : FuncData) (sp : Sp) (tbs : List (Addr × Addr)), K.In h ∧ (∀ (s : Shared) (u : Value), BindsTo s fd ⟨[u], []⟩ [(x, u)]) ∧
        (∀ p ∈ tbs, h.get? p.2 = some { cls := .none, data := .fields #[] } ∧ K.lookup p.2 = none ∧ PySem.W.CodeHd h p.1 p.2) ∧
        (∀ (H : Hp) (a : Addr) (ns : List Int), ns.length ≤ n → (∀ p ∈ tbs, H p.2 = some (.tbl #[])) → SqL K H a (ns.map V.int) → sp [.ref a] H (fun v _ => v = .bl true) fun _ _ _ => False) ∧
        ∀ base : Heap, K.In base → base.Ns mainGlobals mg → (∀ p ∈ tbs, LamX.TabB base mg p.1 p.2) → FnOk l.prog w K mg base (CX w) k fa fd [x] sp)
    (hCX : ∀ (w : World) (H : Hp) (s : Shared) (e : Value) (s' : Shared), CX w [] H s (fun _ _ _ => False) e s' → False) :
    PySem.W.WalkO q loose XP YP l.row.toRowW d [] (fun f vs => PySem.call f vs) := by
  refine Att.attach_call hn hdf fun w s₀ s₁ mg mb fa o pm cd doc a vs ns G Y ho hd hcd hmg hobj hints hlen hg => ?_
  obtain ⟨K, fd, sp, tbs, KX, hb, hT, hsp, hF⟩ := F w mg fa _ Y G.T.g hmg
  exact LamX.law_callTs KX G.T.g G.T.b G.T.builtins G.T.nolimit hg (fun p hp => (hT p hp).1) (fun p hp => (hT p hp).2.1) (fun p hp => (hT p hp).2.2) G.T.bmain hobj hints (Nat.le_trans hlen hn2) hr hF hb (fun H hH hS => hsp H a ns hlen hH hS) fun H e s' => hCX w H s₁ e s'
theorem noCX {P : Program} : ∀ (w : World) (H : Hp) (s : Shared) (e : Value) (s' : Shared), L2.CX P w [] H s (fun _ _ _ => False) e s' → False := fun _ _ _ _ _ h => by
  obtain ⟨_, _, _, _, _, _, _, _, _, _, _, _, z⟩ := h
  exact z.elim
end G

set_option Elab.async false
set_option linter.all false
set_option maxRecDepth 100000
set_option maxHeartbeats 4000000
namespace G
open PySem PySem.Spec PyProof.Rows L2

/-! ### reckoning with the machine: what a run ends with -/
structure Po where
  nx : Ev → Sto → Prop := fun _ _ => False
  ct : Ev → Sto → Prop := fun _ _ => False
  rt : Va → Sto → Prop := fun _ _ => False
  err : Exc → Ev → Sto → Prop := fun _ _ _ => False
def wp0 (Q : Po) : RS → Prop
  | .nx env st => Q.nx env st
  | .ct env st => Q.ct env st
  | .rt w st => Q.rt w st
  | .err x env st => Q.err x env st
  | .stuck => False
theorem wp0_nx {Q : Po} {env : Ev} {st : Sto} : wp0 Q (.nx env st) = Q.nx env st := rfl
theorem wp0_ct {Q : Po} {env : Ev} {st : Sto} : wp0 Q (.ct env st) = Q.ct env st := rfl
theorem wp0_rt {Q : Po} {w : Va} {st : Sto} : wp0 Q (.rt w st) = Q.rt w st := rfl
theorem wp0_err {Q : Po} {x : Exc} {env : Ev} {st : Sto} : wp0 Q (.err x env st) = Q.err x env st := rfl
theorem wp0_stuck {Q : Po} : wp0 Q .stuck = False := rfl
def Po.then0 (Q : Po) (b : Ms) : Po := { Q with nx := fun env st => wp0 Q (b env st) }
theorem wp0_seq {Q : Po} {a b : Ms} {env : Ev} {st : Sto} : wp0 Q (mSeq a b env st) = wp0 (Q.then0 b) (a env st) := by
  unfold mSeq
  cases a env st <;> rfl
theorem wp0_mono {Q Q' : Po} {r : RS} (h : wp0 Q r) (h1 : ∀ e s, Q.nx e s → Q'.nx e s) (h2 : ∀ e s, Q.ct e s → Q'.ct e s) (h3 : ∀ e s, Q.rt e s → Q'.rt e s) (h4 : ∀ x e s, Q.err x e s → Q'.err x e s) : wp0 Q' r := by
  cases r with
  | nx e s => exact h1 e s h
  | ct e s => exact h2 e s h
  | rt e s => exact h3 e s h
  | err x e s => exact h4 x e s h
  | stuck => exact h
/-- the loop over values -/
theorem wp0_for {tg : Tg} {gd : Gd} {b : Ms} {Q : Po} (I : Nat → Ev → Sto → Prop) {ws : List Va} {env : Ev} {st : Sto} (h0 : I 0 env st)
    (hs : ∀ i w env st (Qb : Po), ws[i]? = some w → I i env st → (∀ e s, I (i + 1) e s → Qb.nx e s) → (∀ e s, I (i + 1) e s → Qb.ct e s) → (∀ v s, Q.rt v s → Qb.rt v s) → (∀ x e s, Q.err x e s → Qb.err x e s) → gdB gd st = true ∧ ∃ env', tgV tg w env st = some env' ∧ wp0 Qb (b env' st))
    (he : ∀ env st, I ws.length env st → gdB gd st = true ∧ Q.nx env st) : wp0 Q (forRun tg gd b ws env st) := by
  have key : ∀ (n : Nat) (rest : List Va) (env : Ev) (st : Sto), (∀ j, rest[j]? = ws[n + j]?) → n + rest.length = ws.length → I n env st → wp0 Q (forRun tg gd b rest env st) := by
    intro n rest
    induction rest generalizing n with
    | nil =>
      intro env st _ hl hI
      have e : n = ws.length := by simpa using hl
      subst e
      obtain ⟨g, q⟩ := he env st hI
      unfold forRun
      rw [if_pos g]
      exact q
    | cons w rest ih =>
      intro env st hj hl hI
      obtain ⟨g, env', e1, q⟩ := hs n w env st { nx := I (n + 1), ct := I (n + 1), rt := Q.rt, err := Q.err } (by have := hj 0; simpa using this.symm) hI (fun _ _ h => h) (fun _ _ h => h) (fun _ _ h => h) (fun _ _ _ h => h)
      unfold forRun
      rw [if_pos g, e1]
      simp only
      have next : ∀ env2 st2, I (n + 1) env2 st2 → wp0 Q (forRun tg gd b rest env2 st2) := fun env2 st2 hI2 =>
        ih (n + 1) env2 st2 (fun j => by have := hj (j + 1); rw [show n + 1 + j = n + (j + 1) by omega, ← this]; rfl) (by simp at hl; omega) hI2
      cases eb : b env' st with
      | nx env2 st2 => rw [eb] at q; exact next _ _ q
      | ct env2 st2 => rw [eb] at q; exact next _ _ q
      | rt w st2 => rw [eb] at q; exact q
      | err x env2 st2 => rw [eb] at q; exact q
      | stuck => rw [eb] at q; exact q
  exact key 0 ws env st (fun j => by simp) (by simp) h0
/-- a run whose end is told of any wish -/
theorem wp0_of {P : Po} {r : RS} (h : ∀ Q : Po, (∀ e s, P.nx e s → Q.nx e s) → (∀ e s, P.ct e s → Q.ct e s) → (∀ v s, P.rt v s → Q.rt v s) → (∀ x e s, P.err x e s → Q.err x e s) → wp0 Q r) : wp0 P r := h P (fun _ _ h => h) (fun _ _ h => h) (fun _ _ h => h) fun _ _ _ h => h
/-- while, by a measure -/
theorem wp0_whileN {mt : Mx Bool} {b : Ms} {Q : Po} (I : Nat → Ev → Sto → Prop)
    (hs : ∀ k env st, I k env st → ∃ c st1, mt env st = .ok c st1 ∧ (if c = true then wp0 { nx := fun e s => ∃ j, j < k ∧ I j e s, ct := fun e s => ∃ j, j < k ∧ I j e s, rt := Q.rt, err := Q.err } (b env st1) else Q.nx env st1)) :
    ∀ (N k : Nat) (env : Ev) (st : Sto), k < N → I k env st → wp0 Q (whileN mt b N env st)
  | 0, k, env, st, hk, _ => by omega
  | N + 1, k, env, st, hk, hI => by
    obtain ⟨c, st1, e, q⟩ := hs k env st hI
    unfold whileN
    rw [e, bindE_ok]
    cases c with
    | false =>
      rw [if_neg Bool.false_ne_true] at q ⊢
      exact q
    | true =>
      rw [if_pos rfl] at q ⊢
      cases eb : b env st1 with
      | nx env2 st2 =>
        rw [eb] at q
        obtain ⟨j, hj, hI2⟩ := q
        exact wp0_whileN I hs N j env2 st2 (by omega) hI2
      | ct env2 st2 =>
        rw [eb] at q
        obtain ⟨j, hj, hI2⟩ := q
        exact wp0_whileN I hs N j env2 st2 (by omega) hI2
      | rt w st2 => rw [eb] at q; exact q
      | err x env2 st2 => rw [eb] at q; exact q
      | stuck => rw [eb] at q; exact q
@[irreducible] def wp (Q : Po) (r : RS) : Prop := wp0 Q r
theorem wp_eq : wp = wp0 := by
  funext Q r
  unfold wp
  rfl
section
variable {Q : Po} {env : Ev} {st : Sto}
theorem wp_nx : wp Q (.nx env st) = Q.nx env st := by rw [wp_eq]; rfl
theorem wp_ct : wp Q (.ct env st) = Q.ct env st := by rw [wp_eq]; rfl
theorem wp_rt {w : Va} : wp Q (.rt w st) = Q.rt w st := by rw [wp_eq]; rfl
theorem wp_err {x : Exc} : wp Q (.err x env st) = Q.err x env st := by rw [wp_eq]; rfl
theorem wp_stuck : wp Q .stuck = False := by rw [wp_eq]; rfl
def Po.then (Q : Po) (b : Ms) : Po := { Q with nx := fun env st => wp Q (b env st) }
theorem wp_seq {a b : Ms} : wp Q (mSeq a b env st) = wp (Q.then b) (a env st) := by
  have h := @wp0_seq Q a b env st
  rw [wp_eq, h]
  show wp0 (Q.then0 b) _ = wp0 (Q.then b) _
  have e : Q.then b = Q.then0 b := by unfold Po.then Po.then0; rw [wp_eq]
  rw [e]
theorem wp_mono {Q' : Po} {r : RS} (h : wp Q r) (h1 : ∀ e s, Q.nx e s → Q'.nx e s) (h2 : ∀ e s, Q.ct e s → Q'.ct e s) (h3 : ∀ e s, Q.rt e s → Q'.rt e s) (h4 : ∀ x e s, Q.err x e s → Q'.err x e s) : wp Q' r := by
  rw [wp_eq] at h ⊢
  exact wp0_mono h h1 h2 h3 h4
theorem wp_cut {b : Ms} {m : RS} (P : Ev → Sto → Prop) (h : ∀ R : Po, (∀ e s, P e s → R.nx e s) → (∀ e s, Q.ct e s → R.ct e s) → (∀ v s, Q.rt v s → R.rt v s) → (∀ x e s, Q.err x e s → R.err x e s) → wp R m) (h2 : ∀ e s, P e s → wp Q (b e s)) : wp (Q.then b) m :=
  wp_mono (h { Q with nx := P } (fun _ _ h => h) (fun _ _ h => h) (fun _ _ h => h) (fun _ _ _ h => h)) h2 (fun _ _ h => h) (fun _ _ h => h) (fun _ _ _ h => h)
theorem snoc_map {α β : Type} (f : α → β) (l : List α) (x : α) : (l ++ [x]).map f = l.map f ++ [f x] := by simp
theorem wp_for {tg : Tg} {gd : Gd} {b : Ms} (I : Nat → Ev → Sto → Prop) {ws : List Va} (h0 : I 0 env st)
    (hs : ∀ i w env st (Qb : Po), ws[i]? = some w → I i env st → (∀ e s, I (i + 1) e s → Qb.nx e s) → (∀ e s, I (i + 1) e s → Qb.ct e s) → (∀ v s, Q.rt v s → Qb.rt v s) → (∀ x e s, Q.err x e s → Qb.err x e s) → gdB gd st = true ∧ ∃ env', tgV tg w env st = some env' ∧ wp Qb (b env' st))
    (he : ∀ env st, I ws.length env st → gdB gd st = true ∧ Q.nx env st) : wp Q (forRun tg gd b ws env st) := by
  rw [wp_eq] at hs ⊢
  exact wp0_for I h0 hs he
theorem wp_whileN {mt : Mx Bool} {b : Ms} (I : Nat → Ev → Sto → Prop)
    (hs : ∀ k env st (Qb : Po), I k env st → (∀ e s j, j < k → I j e s → Qb.nx e s) → (∀ e s j, j < k → I j e s → Qb.ct e s) → (∀ v s, Q.rt v s → Qb.rt v s) → (∀ x e s, Q.err x e s → Qb.err x e s) → ∃ c st1, mt env st = .ok c st1 ∧ (if c = true then wp Qb (b env st1) else Q.nx env st1))
    (k : Nat) (hk : k < fuel) (hI : I k env st) : wp Q (whileN mt b fuel env st) := by
  rw [wp_eq] at hs ⊢
  exact wp0_whileN I (fun k env st h => hs k env st { nx := fun e s => ∃ j, j < k ∧ I j e s, ct := fun e s => ∃ j, j < k ∧ I j e s, rt := Q.rt, err := Q.err } h (fun e s j h1 h2 => ⟨j, h1, h2⟩) (fun e s j h1 h2 => ⟨j, h1, h2⟩) (fun _ _ h => h) (fun _ _ _ h => h)) fuel k env st hk hI
end
/-- a list made by a block that keeps the store -/
theorem lc_map {tg : Tg} {mc : Mx Bool} {me : Mx Va} {gd : Gd} {env : Ev} {st : Sto} (p : Va → Bool) (f : Va → Va) (hg : gdB gd st = true) : ∀ {ws acc : List Va}, (∀ w ∈ ws, ∃ env1, tgV tg w env st = some env1 ∧ mc env1 st = .ok (p w) st ∧ (p w = true → me env1 st = .ok (f w) st)) →
    lcRun tg mc me gd env ws acc st = .ok (acc ++ (ws.filter p).map f) st
  | [], acc, h => by
    unfold lcRun
    rw [if_pos hg]
    simp
  | w :: ws, acc, h => by
    obtain ⟨env1, e1, e2, e3⟩ := h w List.mem_cons_self
    unfold lcRun
    rw [if_pos hg, e1]
    simp only [e2]
    cases hp : p w with
    | false =>
      simp only [Bool.false_eq_true, if_false]
      rw [lc_map p f hg fun x hx => h x (List.mem_cons_of_mem _ hx)]
      simp [hp]
    | true =>
      simp only [if_true, e3 hp]
      rw [lc_map p f hg fun x hx => h x (List.mem_cons_of_mem _ hx)]
      simp [hp]
theorem lc_all {tg : Tg} {mc : Mx Bool} {me : Mx Va} {gd : Gd} {env : Ev} {st : Sto} (f : Va → Va) (hg : gdB gd st = true) {ws acc : List Va} (h : ∀ w ∈ ws, ∃ env1, tgV tg w env st = some env1 ∧ mc env1 st = .ok true st ∧ me env1 st = .ok (f w) st) :
    lcRun tg mc me gd env ws acc st = .ok (acc ++ ws.map f) st := by
  have := lc_map (tg := tg) (mc := mc) (me := me) (gd := gd) (env := env) (st := st) (fun _ => true) f hg (ws := ws) (acc := acc) fun w hw => let ⟨e, h1, h2, h3⟩ := h w hw; ⟨e, h1, h2, fun _ => h3⟩
  rw [this, List.filter_eq_self.mpr fun _ _ => rfl]

/-! ### a def's run -/
theorem runD_ok {L : Lm} {d : Df} {ws : List Va} {w : Va} {s : Sto} (hn : ws.length = d.np) (h : wp { rt := fun v st => retV v st = .ok w s, nx := fun _ _ => w = .non ∧ s = [] } (ex L d.body (ws.map some ++ List.replicate (d.N.length - ws.length) none) [])) : runD L d ws = .ok w s := by
  rw [wp_eq] at h
  unfold runD runB
  rw [if_pos hn]
  cases e : ex L d.body (ws.map some ++ List.replicate (d.N.length - ws.length) none) [] with
  | nx env st => rw [e] at h; obtain ⟨rfl, rfl⟩ := h; rfl
  | ct env st => rw [e] at h; exact h.elim
  | rt v st => rw [e] at h; exact h
  | err x env st => rw [e] at h; exact h.elim
  | stuck => rw [e] at h; exact h.elim
theorem freeze_free {w : Va} {st : Sto} {n : Nat} (h : free w = true) : freezeN (n + 1) w st = some (w, st) := by
  unfold freezeN
  rw [if_pos h]
theorem mapS_free {n : Nat} {st : Sto} : ∀ {l : List Va}, frees l = true → mapS (freezeN (n + 1)) l st = some (l, st)
  | [], _ => rfl
  | x :: r, h => by
    simp only [frees, Bool.and_eq_true] at h
    unfold mapS
    rw [freeze_free h.1]
    simp only [mapS_free h.2]
theorem freeze_lst {p : Nat} {st : Sto} {l : List Va} {n : Nat} (e : st[p]? = some (some (.lst l))) (h : frees l = true) : freezeN (n + 2) (.ref p) st = some (.lst l, st.set p none) := by
  unfold freezeN
  rw [if_neg (by simp [free])]
  simp only [e, mapS_free h, Option.map_some]
/-- the mark of a fresh thing -/
abbrev fresh : Sto := [none]
theorem ret_free {w : Va} {st : Sto} (h : free w = true) : retV w st = .ok w [] := by
  cases w <;> first | (simp [free] at h; done) | (unfold retV; simp only [freeze_free (n := 19) h])
theorem ret_lst {p : Nat} {st : Sto} {l : List Va} (e : st[p]? = some (some (.lst l))) (h : frees l = true) : retV (.ref p) st = .ok (.lst l) fresh := by
  unfold retV takeO
  simp only [e, mapS_free (n := 19) h, Option.map_some]
theorem ret_dic {p : Nat} {st : Sto} {k : List Ky} {l : List Va} (e : st[p]? = some (some (.dic k l))) (h : frees l = true) : retV (.ref p) st = .ok (.dic k l) fresh := by
  unfold retV takeO
  simp only [e, mapS_free (n := 19) h, Option.map_some]
theorem callP_free {φ : Fn} {ws : List Va} {w : Va} {s st : Sto} (hf : frees ws = true) (h : φ ws = .ok w s) : callP false φ ws st = .ok w st := by
  unfold callP
  rw [if_pos hf, h]
  rfl
theorem callP_new {φ : Fn} {ws l : List Va} {st : Sto} (hf : frees ws = true) (h : φ ws = .ok (.lst l) fresh) : callP true φ ws st = .ok (.ref st.length) (st ++ [some (.lst l)]) := by
  unfold callP
  rw [if_pos hf, h]
  rfl
theorem callP_err {m : Bool} {φ : Fn} {ws : List Va} {x : Exc} {s st : Sto} (hf : frees ws = true) (h : φ ws = .err x s) : callP m φ ws st = .err x st := by
  unfold callP
  rw [if_pos hf, h]
@[simp] theorem frees_nil : frees [] = true := rfl
@[simp] theorem frees_cons (x : Va) (r : List Va) : frees (x :: r) = (free x && frees r) := rfl
theorem frees_all : ∀ l : List Va, frees l = l.all free
  | [] => rfl
  | x :: r => by rw [frees_cons, frees_all r]; rfl
@[simp] theorem frees_append (a b : List Va) : frees (a ++ b) = (frees a && frees b) := by simp [frees_all]
@[simp] theorem free_int (i : Int) : free (.int i) = true := rfl
@[simp] theorem free_str (i : Tx) : free (.str i) = true := rfl
@[simp] theorem free_bl (i : Bool) : free (.bl i) = true := rfl
@[simp] theorem free_non : free .non = true := rfl
@[simp] theorem free_tup (l : List Va) : free (.tup l) = frees l := by simp [free]
@[simp] theorem free_lst (l : List Va) : free (.lst l) = frees l := by simp [free]
@[simp] theorem free_scr (l : List Va) : free (.scr l) = frees l := by simp [free]
@[simp] theorem free_ref (p : Nat) : free (.ref p) = false := rfl
theorem frees_of {l : List Va} (h : ∀ x ∈ l, free x = true) : frees l = true := by rw [frees_all]; exact List.all_eq_true.mpr h

/-! ### plain data -/
mutual
def dat : Nat → Va → Bool
  | _, .non => true
  | _, .bl _ => true
  | _, .int _ => true
  | _, .str _ => true
  | n + 1, .tup l => dats n l
  | n + 1, .lst l => dats n l
  | n + 1, .scr l => dats n l
  | _, _ => false
def dats : Nat → List Va → Bool
  | _, [] => true
  | n, x :: r => dat n x && dats n r
end
mutual
def toPd : Va → PyData
  | .bl b => .bool b
  | .int i => .int i
  | .str x => .str (mkS x)
  | .tup l => .tuple (toPds l)
  | .lst l => .list (toPds l)
  | .scr l => .list (toPds l)
  | _ => .none
def toPds : List Va → List PyData
  | [] => []
  | x :: r => toPd x :: toPds r
end
def eqd (x y : Va) : Bool := PyData.eqv (toPd x) (toPd y)
def eqds (x y : List Va) : Bool := PyData.eqvAll (toPds x) (toPds y)
mutual
theorem pd_dat : ∀ {n : Nat} {x : Va}, dat n x = true → ∀ st, pd n st x = some (toPd x)
  | n, .non, _, st => by cases n <;> simp [pd, toPd]
  | n, .bl _, _, st => by cases n <;> simp [pd, toPd]
  | n, .int _, _, st => by cases n <;> simp [pd, toPd]
  | n, .str _, _, st => by cases n <;> simp [pd, toPd]
  | n + 1, .tup l, h, st => by
    have h2 : dats n l = true := by simpa [dat] using h
    simp [pd, toPd, pd_dats h2 st]
  | n + 1, .lst l, h, st => by
    have h2 : dats n l = true := by simpa [dat] using h
    simp [pd, toPd, pd_dats h2 st]
  | n + 1, .scr l, h, st => by
    have h2 : dats n l = true := by simpa [dat] using h
    simp [pd, toPd, pd_dats h2 st]
  | 0, .tup l, h, st => by simp [dat] at h
  | 0, .lst l, h, st => by simp [dat] at h
  | 0, .scr l, h, st => by simp [dat] at h
  | n, .dic _ _, h, st => by simp [dat] at h
  | n, .ref _, h, st => by simp [dat] at h
theorem pd_dats : ∀ {n : Nat} {l : List Va}, dats n l = true → ∀ st, mapO (pd n st) l = some (toPds l)
  | n, [], _, st => rfl
  | n, x :: r, h, st => by
    simp only [dats, Bool.and_eq_true] at h
    unfold mapO
    rw [pd_dat h.1 st, pd_dats h.2 st]
    rfl
end
theorem eqV_dat {x y : Va} {neg : Bool} {st : Sto} (hx : dat 40 x = true) (hy : dat 40 y = true) : eqV neg x y st = .ok (.bl (if neg then !eqd x y else eqd x y)) st := by
  unfold eqV
  rw [pd_dat hx st, pd_dat hy st]
  rfl
mutual
theorem eqv_self : ∀ {n : Nat} {x : Va}, dat n x = true → PyData.eqv (toPd x) (toPd x) = true
  | n, .non, _ => by simp [toPd, PyData.eqv]
  | n, .bl _, _ => by simp [toPd, PyData.eqv]
  | n, .int _, _ => by simp [toPd, PyData.eqv]
  | n, .str _, _ => by simp [toPd, PyData.eqv]
  | n + 1, .tup l, h => by
    have h2 : dats n l = true := by simpa [dat] using h
    simp [toPd, PyData.eqv, eqvAll_self h2]
  | n + 1, .lst l, h => by
    have h2 : dats n l = true := by simpa [dat] using h
    simp [toPd, PyData.eqv, eqvAll_self h2]
  | n + 1, .scr l, h => by
    have h2 : dats n l = true := by simpa [dat] using h
    simp [toPd, PyData.eqv, eqvAll_self h2]
  | 0, .tup l, h => by simp [dat] at h
  | 0, .lst l, h => by simp [dat] at h
  | 0, .scr l, h => by simp [dat] at h
  | n, .dic _ _, h => by simp [dat] at h
  | n, .ref _, h => by simp [dat] at h
theorem eqvAll_self : ∀ {n : Nat} {l : List Va}, dats n l = true → PyData.eqvAll (toPds l) (toPds l) = true
  | n, [], _ => by simp [toPds, PyData.eqvAll]
  | n, x :: r, h => by
    simp only [dats, Bool.and_eq_true] at h
    simp [toPds, PyData.eqvAll, eqv_self h.1, eqvAll_self h.2]
end
theorem eqd_self {n : Nat} {x : Va} (h : dat n x = true) : eqd x x = true := eqv_self h
theorem eqV_self {x : Va} {neg : Bool} {st : Sto} (hx : dat 40 x = true) : eqV neg x x st = .ok (.bl (!neg)) st := by
  rw [eqV_dat hx hx, eqd_self hx]
  cases neg <;> rfl
@[simp] theorem eqd_int (i j : Int) : eqd (.int i) (.int j) = decide (i = j) := by
  show (i == j) = decide (i = j)
  by_cases h : i = j <;> simp [h]
@[simp] theorem eqd_str (i j : Tx) : eqd (.str i) (.str j) = decide (i = j) := by
  show (mkS i == mkS j) = decide (i = j)
  by_cases h : i = j
  · simp [h]
  · simp only [h, decide_false, beq_eq_false_iff_ne, ne_eq]
    exact fun e => h (mkS_inj e)
@[simp] theorem eqd_bl (i j : Bool) : eqd (.bl i) (.bl j) = (i == j) := rfl
@[simp] theorem eqd_tup (i j : List Va) : eqd (.tup i) (.tup j) = eqds i j := by simp [eqd, toPd, PyData.eqv, eqds]
@[simp] theorem eqd_lst (i j : List Va) : eqd (.lst i) (.lst j) = eqds i j := by simp [eqd, toPd, PyData.eqv, eqds]
@[simp] theorem eqds_nil : eqds [] [] = true := by simp [eqds, toPds, PyData.eqvAll]
@[simp] theorem eqds_cons (x y : Va) (r s : List Va) : eqds (x :: r) (y :: s) = (eqd x y && eqds r s) := by simp [eqds, toPds, PyData.eqvAll, eqd]
@[simp] theorem eqds_cons_nil (x : Va) (r : List Va) : eqds (x :: r) [] = false := by simp [eqds, toPds, PyData.eqvAll]
@[simp] theorem eqds_nil_cons (x : Va) (r : List Va) : eqds [] (x :: r) = false := by simp [eqds, toPds, PyData.eqvAll]
@[simp] theorem dat_int (n : Nat) (i : Int) : dat n (.int i) = true := by cases n <;> rfl
@[simp] theorem dat_str (n : Nat) (i : Tx) : dat n (.str i) = true := by cases n <;> rfl
@[simp] theorem dat_bl (n : Nat) (i : Bool) : dat n (.bl i) = true := by cases n <;> rfl
@[simp] theorem dat_non (n : Nat) : dat n .non = true := by cases n <;> rfl
@[simp] theorem dat_tup (n : Nat) (l : List Va) : dat (n + 1) (.tup l) = dats n l := by simp [dat]
@[simp] theorem dat_lst (n : Nat) (l : List Va) : dat (n + 1) (.lst l) = dats n l := by simp [dat]
@[simp] theorem dat_scr (n : Nat) (l : List Va) : dat (n + 1) (.scr l) = dats n l := by simp [dat]
@[simp] theorem dats_nil (n : Nat) : dats n [] = true := by cases n <;> rfl
@[simp] theorem dats_cons (n : Nat) (x : Va) (r : List Va) : dats n (x :: r) = (dat n x && dats n r) := by cases n <;> simp [dats]
theorem dats_all (n : Nat) : ∀ l : List Va, dats n l = l.all (dat n)
  | [] => by simp
  | x :: r => by rw [dats_cons, dats_all n r]; rfl
@[simp] theorem dats_append (n : Nat) (a b : List Va) : dats n (a ++ b) = (dats n a && dats n b) := by simp [dats_all]
theorem dats_of {n : Nat} {l : List Va} (h : ∀ x ∈ l, dat n x = true) : dats n l = true := by rw [dats_all]; exact List.all_eq_true.mpr h
mutual
theorem dat_free : ∀ {n : Nat} {x : Va}, dat n x = true → free x = true
  | n, .non, _ => rfl
  | n, .bl _, _ => rfl
  | n, .int _, _ => rfl
  | n, .str _, _ => rfl
  | n + 1, .tup l, h => by rw [free_tup]; exact dats_free (by simpa using h)
  | n + 1, .lst l, h => by rw [free_lst]; exact dats_free (by simpa using h)
  | n + 1, .scr l, h => by rw [free_scr]; exact dats_free (by simpa using h)
  | 0, .tup l, h => by simp [dat] at h
  | 0, .lst l, h => by simp [dat] at h
  | 0, .scr l, h => by simp [dat] at h
  | n, .dic _ _, h => by simp [dat] at h
  | n, .ref _, h => by simp [dat] at h
theorem dats_free : ∀ {n : Nat} {l : List Va}, dats n l = true → frees l = true
  | n, [], _ => rfl
  | n, x :: r, h => by
    simp only [dats_cons, Bool.and_eq_true] at h
    rw [frees_cons, dat_free h.1, dats_free h.2]
    rfl
end
mutual
theorem dat_mono : ∀ {n m : Nat} {x : Va}, dat n x = true → n ≤ m → dat m x = true
  | n, m, .non, _, _ => by simp
  | n, m, .bl _, _, _ => by simp
  | n, m, .int _, _, _ => by simp
  | n, m, .str _, _, _ => by simp
  | n + 1, m + 1, .tup l, h, hm => by rw [dat_tup] at h ⊢; exact dats_mono h (by omega)
  | n + 1, m + 1, .lst l, h, hm => by rw [dat_lst] at h ⊢; exact dats_mono h (by omega)
  | n + 1, m + 1, .scr l, h, hm => by rw [dat_scr] at h ⊢; exact dats_mono h (by omega)
  | n + 1, 0, x, h, hm => by omega
  | 0, m, .tup l, h, hm => by simp [dat] at h
  | 0, m, .lst l, h, hm => by simp [dat] at h
  | 0, m, .scr l, h, hm => by simp [dat] at h
  | n, m, .dic _ _, h, hm => by simp [dat] at h
  | n, m, .ref _, h, hm => by simp [dat] at h
theorem dats_mono : ∀ {n m : Nat} {l : List Va}, dats n l = true → n ≤ m → dats m l = true
  | n, m, [], _, _ => by simp
  | n, m, x :: r, h, hm => by
    simp only [dats_cons, Bool.and_eq_true] at h ⊢
    exact ⟨dat_mono h.1 hm, dats_mono h.2 hm⟩
end
end G

set_option Elab.async false
set_option linter.all false
set_option maxRecDepth 100000
set_option maxHeartbeats 4000000
namespace G
open PySem PySem.Spec PyProof.Rows L2

/-! ### reckoning: what each word does -/
@[simp] theorem ev_var (L : Lm) (i : Nat) : ev L (.var i) = mke (mVar i) := (rfl)
@[simp] theorem ev_int (L : Lm) (i : Int) : ev L (.int i) = mke (mC (.int i)) := (rfl)
@[simp] theorem ev_str (L : Lm) (s : Tx) : ev L (.str s) = mke (mC (.str s)) := (rfl)
@[simp] theorem ev_bl (L : Lm) (b : Bool) : ev L (.bl b) = mke (mC (.bl b)) := (rfl)
@[simp] theorem ev_non (L : Lm)  : ev L .non = mke (mC .non) := (rfl)
@[simp] theorem ev_glob (L : Lm) (x : Str) : ev L (.glob x) = mke (match L.gl x with | some w => mC w | none => fun _ _ => .stuck) := (rfl)
@[simp] theorem ev_bin (L : Lm) (op : BOp) (m : Bool) (a b : T) : ev L (.bin op m a b) = mke (mBin (bopV op m) (ev L a).e (ev L b).e) := (rfl)
@[simp] theorem ev_neg (L : Lm) (a : T) : ev L (.neg a) = mke (mNeg (ev L a).e) := (rfl)
@[simp] theorem ev_not (L : Lm) (a : T) : ev L (.not a) = G.mk (mNot (ev L a).e) (mTNot (ev L a).t) := (rfl)
@[simp] theorem ev_cmp (L : Lm) (op : COp) (a b : T) : ev L (.cmp op a b) = G.mk (mBin (copV op) (ev L a).e (ev L b).e) (mTst (mBin (copV op) (ev L a).e (ev L b).e)) := (rfl)
@[simp] theorem ev_cmp2 (L : Lm) (op op' : COp) (a b c : T) : ev L (.cmp2 op op' a b c) = G.mk (mChain (copV op) (copV op') (ev L a).e (ev L b).e (ev L c).e) (mTst (mChain (copV op) (copV op') (ev L a).e (ev L b).e (ev L c).e)) := (rfl)
@[simp] theorem ev_and (L : Lm) (l : T) : ev L (.and l) = G.mk (ev L l).an (ev L l).ta := (rfl)
@[simp] theorem ev_or (L : Lm) (l : T) : ev L (.or l) = G.mk (ev L l).or (ev L l).to := (rfl)
@[simp] theorem ev_ife (L : Lm) (c a b : T) : ev L (.ife c a b) = G.mk (mIf (ev L c).t (ev L a).e (ev L b).e) fun _ _ => .stuck := (rfl)
@[simp] theorem ev_tup (L : Lm) (l : T) : ev L (.tup l) = mke (mTup (ev L l).l) := (rfl)
@[simp] theorem ev_lst (L : Lm) (m : Bool) (l : T) : ev L (.lst m l) = mke (mLst m (ev L l).l) := (rfl)
@[simp] theorem ev_ix (L : Lm) (a i : T) : ev L (.ix a i) = mke (mBin ixV (ev L a).e (ev L i).e) := (rfl)
@[simp] theorem ev_sl (L : Lm) (m : Bool) (a lo hi : T) : ev L (.sl m a lo hi) = mke (mSlice m (ev L a).e (ev L lo).p (ev L hi).p) := (rfl)
@[simp] theorem ev_call (L : Lm) (f : Str) (m : Bool) (l : T) : ev L (.call f m l) = mke (mFn (callP m (L.fn f)) (ev L l).l) := (rfl)
@[simp] theorem ev_bif (L : Lm) (b : Bif) (m : Bool) (l : T) : ev L (.bif b m l) = mke (mFn (bifV b m) (ev L l).l) := (rfl)
@[simp] theorem ev_isi (L : Lm) (c : String) (a : T) : ev L (.isi c a) = mke (mIsi c (ev L a).e) := (rfl)
@[simp] theorem ev_mth (L : Lm) (k : Mth) (o l : T) : ev L (.mth k o l) = mke (mMth (mthT k) (mthV k) (ev L o).e (ev L l).l) := (rfl)
@[simp] theorem ev_lc (L : Lm) (m : Bool) (vs : List Nat) (tg : Tg) (it c e : T) : ev L (.lc m vs tg it c e) = mke (mLc m vs tg (ev L it).i (ev L c).t (ev L e).e) := (rfl)
@[simp] theorem ev_lc2 (L : Lm) (m : Bool) (vs vs1 : List Nat) (tg : Tg) (it c : T) (tg1 : Tg) (it1 c1 e : T) : ev L (.lc2 m vs vs1 tg it c tg1 it1 c1 e) = mke (mLc2 m vs vs1 tg (ev L it).i (ev L c).t tg1 (ev L it1).i (ev L c1).t (ev L e).e) := (rfl)
@[simp] theorem ev_lrng (L : Lm) (m : Bool) (a b : T) : ev L (.lrng m a b) = mke (mLrg m (ev L a).e (ev L b).e) := (rfl)
@[simp] theorem ev_irng (L : Lm) (l : T) : ev L (.irng l) = mkI (mRng (ev L l).l) := (rfl)
@[simp] theorem ev_ienum (L : Lm) (l : T) : ev L (.ienum l) = mkI (mEnum (ev L l).l) := (rfl)
@[simp] theorem ev_xf (L : Lm) (i : Nat) (f : Str) : ev L (.xf i f) = mke (xfV L f) := (rfl)
@[simp] theorem ev_xi (L : Lm) (i : Nat) (c : Str) : ev L (.xi i c) = mke (xiV L c) := (rfl)
@[simp] theorem ev_mm (L : Lm) (mx : Bool) (l : T) : ev L (.mm mx l) = mke (mFn (mmV mx) (ev L l).l) := (rfl)
@[simp] theorem ev_irev (L : Lm) (a : T) : ev L (.irev a) = mkI (mRev (ev L a).e) := (rfl)
@[simp] theorem ex_stk (L : Lm) : ex L .stk = fun _ _ => .stuck := (rfl)
@[simp] theorem mRev_eq (me : Mx Va) (env : Ev) (st : Sto) : mRev me env st = (me env st).bind fun x st => match x with | .lst l => .ok (l.reverse, none) st | _ => .stuck := (rfl)
@[simp] theorem ev_allS (L : Lm) (f : Str) (gs : Tx) (a : T) : ev L (.allS f gs a) = mke (mAllS gs (ev L a).e) := (rfl)
@[simp] theorem nil_l (L : Lm) : (ev L .nil).l = mNil := (rfl)
@[simp] theorem nil_z (L : Lm) : (ev L .nil).z = true := (rfl)
@[simp] theorem nil_t (L : Lm) : (ev L .nil).t = mTyes := (rfl)
@[simp] theorem nil_p (L : Lm) : (ev L .nil).p = mNo := (rfl)
@[simp] theorem cons_l (L : Lm) (a b : T) : (ev L (.cons a b)).l = mCons (ev L a).e (ev L b).l := (rfl)
@[simp] theorem cons_z (L : Lm) (a b : T) : (ev L (.cons a b)).z = false := (rfl)
@[simp] theorem cons_an (L : Lm) (a b : T) : (ev L (.cons a b)).an = if (ev L b).z then (ev L a).e else mAnd (ev L a).e (ev L b).an := (rfl)
@[simp] theorem cons_or (L : Lm) (a b : T) : (ev L (.cons a b)).or = if (ev L b).z then (ev L a).e else mOr (ev L a).e (ev L b).or := (rfl)
@[simp] theorem cons_ta (L : Lm) (a b : T) : (ev L (.cons a b)).ta = if (ev L b).z then (ev L a).t else mTAnd (ev L a).t (ev L b).ta := (rfl)
@[simp] theorem cons_to (L : Lm) (a b : T) : (ev L (.cons a b)).to = if (ev L b).z then (ev L a).t else mTOr (ev L a).t (ev L b).to := (rfl)
@[simp] theorem mke_e (m : Mx Va) : (mke m).e = m := (rfl)
@[simp] theorem mke_t (m : Mx Va) : (mke m).t = mTru m := (rfl)
@[simp] theorem mke_p (m : Mx Va) : (mke m).p = mPart m := (rfl)
@[simp] theorem mke_i (m : Mx Va) : (mke m).i = mIt m := (rfl)
@[simp] theorem mk_e (m : Mx Va) (k : Mx Bool) : (G.mk m k).e = m := (rfl)
@[simp] theorem mk_t (m : Mx Va) (k : Mx Bool) : (G.mk m k).t = k := (rfl)
@[simp] theorem mk_p (m : Mx Va) (k : Mx Bool) : (G.mk m k).p = mPart m := (rfl)
@[simp] theorem mk_i (m : Mx Va) (k : Mx Bool) : (G.mk m k).i = mIt m := (rfl)
@[simp] theorem mkI_i (m : Mx (List Va × Gd)) : (mkI m).i = m := (rfl)
@[simp] theorem bop_add (m : Bool) : bopV .add m = addV m := (rfl)
@[simp] theorem bop_sub (m : Bool) : bopV .sub m = subV := (rfl)
@[simp] theorem bop_mul (m : Bool) : bopV .mul m = mulV m := (rfl)
@[simp] theorem bop_fdiv (m : Bool) : bopV .fdiv m = fdivV := (rfl)
@[simp] theorem bop_mod (m : Bool) : bopV .mod m = modV := (rfl)
@[irreducible] def powD : Va → Va → Sto → R Va := powV
@[simp] theorem bop_pow (m : Bool) : bopV .pow m = powD := by unfold powD; rfl
@[simp] theorem cop_eq : copV .eq = eqV false := (rfl)
@[simp] theorem cop_ne : copV .ne = eqV true := (rfl)
@[simp] theorem cop_lt : copV .lt = cmpV fun i j => decide (i < j) := (rfl)
@[simp] theorem cop_le : copV .le = cmpV fun i j => decide (i ≤ j) := (rfl)
@[simp] theorem cop_gt : copV .gt = cmpV fun i j => decide (j < i) := (rfl)
@[simp] theorem cop_ge : copV .ge = cmpV fun i j => decide (j ≤ i) := (rfl)
@[simp] theorem cop_in_ : copV .in_ = inV' false := (rfl)
@[simp] theorem cop_notIn : copV .notIn = inV' true := (rfl)
@[simp] theorem cop_is_ : copV .is_ = isNV false := (rfl)
@[simp] theorem cop_isNot : copV .isNot = isNV true := (rfl)
@[simp] theorem bif_len (m : Bool) : bifV .len m = lenV := (rfl)
@[simp] theorem bif_list (m : Bool) : bifV .list m = listV m := (rfl)
@[simp] theorem bif_tuple (m : Bool) : bifV .tuple m = tupleV := (rfl)
@[simp] theorem bif_str (m : Bool) : bifV .str m = strV := (rfl)
@[simp] theorem bif_int (m : Bool) : bifV .int m = toIntV := (rfl)
@[simp] theorem mth_append : mthV .append = appendV := (rfl)
@[simp] theorem mthT_append : mthT .append = "list" := (rfl)
@[simp] theorem mth_extend : mthV .extend = extendV := (rfl)
@[simp] theorem mthT_extend : mthT .extend = "list" := (rfl)
@[simp] theorem mth_pop : mthV .pop = popV := (rfl)
@[simp] theorem mthT_pop : mthT .pop = "list" := (rfl)
@[simp] theorem mth_insert : mthV .insert = insertV := (rfl)
@[simp] theorem mthT_insert : mthT .insert = "list" := (rfl)
@[simp] theorem mth_join : mthV .join = joinV := (rfl)
@[simp] theorem mthT_join : mthT .join = "str" := (rfl)
@[simp] theorem mth_find : mthV .find = findV := (rfl)
@[simp] theorem mthT_find : mthT .find = "str" := (rfl)
@[simp] theorem mth_lstrip : mthV .lstrip = lstripV := (rfl)
@[simp] theorem mthT_lstrip : mthT .lstrip = "str" := (rfl)
@[simp] theorem mth_isalnum : mthV .isalnum = isalnumV := (rfl)
@[simp] theorem mthT_isalnum : mthT .isalnum = "str" := (rfl)
@[simp] theorem mth_isdigit : mthV .isdigit = isdigitV := (rfl)
@[simp] theorem mthT_isdigit : mthT .isdigit = "str" := (rfl)
@[simp] theorem ex_nil (L : Lm)  : ex L .nil = fun env st => .nx env st := (rfl)
@[simp] theorem ex_seq (L : Lm) (a b : S) : ex L (.seq a b) = mSeq (ex L a) (ex L b) := (rfl)
@[simp] theorem ex_set (L : Lm) (tg : Tg) (e : T) : ex L (.set tg e) = mSet tg (ev L e).e := (rfl)
@[simp] theorem ex_setIx (L : Lm) (o i e : T) : ex L (.setIx o i e) = mSetIx (ev L o).e (ev L i).e (ev L e).e := (rfl)
@[simp] theorem ex_aug (L : Lm) (i : Nat) (s : Bool) (e : T) : ex L (.aug i s e) = mAug i s (ev L e).e := (rfl)
@[simp] theorem ex_expr (L : Lm) (e : T) : ex L (.expr e) = mExpr (ev L e).e := (rfl)
@[simp] theorem ex_ret (L : Lm) (e : T) : ex L (.ret e) = mRet (ev L e).e := (rfl)
@[simp] theorem ex_retN (L : Lm)  : ex L .retN = fun _ st => .rt .non st := (rfl)
@[simp] theorem ex_sif (L : Lm) (c : T) (a b : S) : ex L (.sif c a b) = mIfS (ev L c).t (ex L a) (ex L b) := (rfl)
@[simp] theorem ex_sfor (L : Lm) (tg : Tg) (it : T) (b : S) : ex L (.sfor tg it b) = mFor tg (ev L it).i (ex L b) := (rfl)
@[simp] theorem ex_cont (L : Lm)  : ex L .cont = fun env st => .ct env st := (rfl)
@[simp] theorem ex_pass (L : Lm)  : ex L .pass = fun env st => .nx env st := (rfl)
@[simp] theorem ex_swh (L : Lm) (c : T) (b : S) : ex L (.swh c b) = whileN (ev L c).t (ex L b) fuel := (rfl)
@[simp] theorem ex_tryE (L : Lm) (a h : S) : ex L (.tryE a h) = mTry (ex L a) fun x => ex ⟨L.gl, L.fn, L.xs, some x⟩ h := (rfl)
@[simp] theorem ex_hnd (L : Lm) (c : Str) (io : Option Nat) (a r : S) : ex L (.hnd c io a r) = mSel L c (mHnd io (ex L a)) (ex L r) := (rfl)
@[simp] theorem ex_hend (L : Lm) : ex L .hend = mHend L := (rfl)
@[simp] theorem ev_cbf (L : Lm) (b : Cb) (m : Bool) (l : T) : ev L (.cbf b m l) = mke (mFn (cbV b m) (ev L l).l) := (rfl)
@[simp] theorem ev_dnew (L : Lm) (m : Bool) : ev L (.dnew m) = mke (mDnew m) := (rfl)
@[simp] theorem mDnew_eq {env : Ev} {st : Sto} (m : Bool) : mDnew m env st = mkD m [] [] st := (rfl)
@[simp] theorem cbV_sorted (m : Bool) : cbV .sorted m = sortedV m := (rfl)
@[simp] theorem cbV_sum (m : Bool) : cbV .sum m = sumV := (rfl)
@[simp] theorem cbV_dict (m : Bool) : cbV .dict m = dictV m := (rfl)
@[simp] theorem mth_get : mthV .get = getV := (rfl)
@[simp] theorem mth_setd : mthV .setdefault = setdV := (rfl)
@[simp] theorem mthT_setd : mthT .setdefault = "dict" := (rfl)
@[simp] theorem mth_index : mthV .index = indexV := (rfl)
@[simp] theorem mthT_index : mthT .index = "list" := (rfl)
@[simp] theorem mth_split : mthV .split = splitV := (rfl)
@[simp] theorem mthT_split : mthT .split = "str" := (rfl)
@[simp] theorem mAllS_eq (gs : Tx) (ma : Mx Va) (env : Ev) (st : Sto) : mAllS gs ma env st = (ma env st).bind fun v st => match v with | .str a => .ok (.bl (a.all (sgV gs))) st | _ => .stuck := (rfl)
@[simp] theorem mthT_get : mthT .get = "dict" := (rfl)
@[simp] theorem mkD_t {st : Sto} (k : List Ky) (l : List Va) : mkD true k l st = .ok (.ref st.length) (st ++ [some (.dic k l)]) := (rfl)
@[simp] theorem mkD_f {st : Sto} (k : List Ky) (l : List Va) : mkD false k l st = .ok (.dic k l) st := (rfl)
@[simp] theorem ev_callK (L : Lm) (f : Str) (m : Bool) (l : T) (k : Str) (e : T) : ev L (.callK f m l k e) = mke (mFn (callP m (L.fn f)) (mSnoc (ev L l).l (ev L e).e)) := (rfl)
@[simp] theorem mSnoc_eq {env : Ev} {st : Sto} {ml : Mx (List Va)} {me : Mx Va} : mSnoc ml me env st = (ml env st).bind fun l st => (me env st).bind fun x st => .ok (l ++ [x]) st := (rfl)
@[simp] theorem ex_raisI (L : Lm) (c : Str) (l : T) : ex L (.raisI c l) = mRaisI L c (ev L l).l := (rfl)
@[simp] theorem ex_rais (L : Lm) (c : Str) (s : Tx) : ex L (.rais c s) = mRais L c := (rfl)
/-- the wish of a try's body -/
def Po.tryP (Q : Po) (mh : Exc → Ms) : Po := { Q with err := fun x e s => wp Q (if (x.fs.all fun p => free p.2) = true then mh x e s else .stuck) }
def Po.hndP (Q : Po) (io : Option Nat) : Po := { nx := fun e s => Q.nx (clr io e) s, ct := fun e s => Q.ct (clr io e) s, rt := Q.rt, err := fun _ _ _ => False }
section
variable {env : Ev} {st : Sto} {Q : Po} {L : Lm}
@[simp] theorem wp_try {mb : Ms} {mh : Exc → Ms} : wp Q (mTry mb mh env st) = wp (Q.tryP mh) (mb env st) := by
  unfold mTry
  rw [wp_eq]
  cases mb env st with
  | err x e s =>
    show wp0 Q (if _ then _ else _) = wp Q (if _ then _ else _)
    rw [wp_eq]
  | _ => rfl
@[simp] theorem tryP_nx {mh : Exc → Ms} : (Q.tryP mh).nx = Q.nx := (rfl)
@[simp] theorem tryP_ct {mh : Exc → Ms} : (Q.tryP mh).ct = Q.ct := (rfl)
@[simp] theorem tryP_rt {mh : Exc → Ms} : (Q.tryP mh).rt = Q.rt := (rfl)
@[simp] theorem tryP_err {mh : Exc → Ms} {x : Exc} {e : Ev} {s : Sto} : (Q.tryP mh).err x e s = wp Q (if (x.fs.all fun p => free p.2) = true then mh x e s else .stuck) := (rfl)
@[simp] theorem wp_hnd {io : Option Nat} {m : Ms} : wp Q (mHnd io m env st) = wp (Q.hndP io) (m (clr io env) st) := by
  unfold mHnd
  rw [wp_eq]
  cases m (clr io env) st <;> rfl
@[simp] theorem hndP_nx {io : Option Nat} {e : Ev} {s : Sto} : (Q.hndP io).nx e s = Q.nx (clr io e) s := (rfl)
@[simp] theorem hndP_ct {io : Option Nat} {e : Ev} {s : Sto} : (Q.hndP io).ct e s = Q.ct (clr io e) s := (rfl)
@[simp] theorem hndP_rt {io : Option Nat} : (Q.hndP io).rt = Q.rt := (rfl)
@[simp] theorem clr_none : clr none env = env := (rfl)
@[simp] theorem clr_some (i : Nat) : clr (some i) env = env.set i none := (rfl)
@[simp] theorem mSel_eq {g : Str → Option Va} {f : Str → Fn} {xs : Xs} {x : Exc} {c : Str} {ms mr : Ms} : mSel ⟨g, f, xs, some x⟩ c ms mr env st = match xs.sub x.cls c with | some true => ms env st | some false => mr env st | none => .stuck := (rfl)
@[simp] theorem mHend_eq {g : Str → Option Va} {f : Str → Fn} {xs : Xs} {x : Exc} : mHend ⟨g, f, xs, some x⟩ env st = .err x env st := (rfl)
@[simp] theorem mRais_eq {c : Str} : mRais L c env st = match L.xs.pl c with | some z => .err ⟨z, []⟩ env st | none => .stuck := (rfl)
def raisW (o : Ow) (env : Ev) (ws : List Va) (st : Sto) : RS := if ws.length = o.n ∧ o.n ≤ 100 ∧ o.tx.length ≤ 8 ∧ o.tx.all (pcW ws) = true then (match runFs ws o.fs [] with
      | some fs => .err ⟨o.z, fs.map fun p => (p.1.cps.toList, p.2)⟩ env st
      | none => .stuck) else .stuck
def raisO : Option Ow → R (List Va) → Ev → RS
  | some o, r, env => bindE r env (raisW o env)
  | none, _, _ => .stuck
@[simp] theorem raisO_some {o : Ow} {r : R (List Va)} : raisO (some o) r env = bindE r env (raisW o env) := (rfl)
@[simp] theorem mRaisI_eq {c : Str} {ml : Mx (List Va)} : mRaisI L c ml env st = raisO (L.xs.ow c) (ml env st) env := by
  unfold mRaisI
  cases L.xs.ow c with
  | none => rfl
  | some o => rfl
@[simp] theorem xfV_eq {g : Str → Option Va} {f : Str → Fn} {xs : Xs} {x : Exc} {n : Str} : xfV ⟨g, f, xs, some x⟩ n = if xs.fld x.cls n then match x.fs.lookup n.cps.toList with | some w => mC w | none => fun _ _ => .stuck else fun _ _ => .stuck := (rfl)
@[simp] theorem xiV_eq {g : Str → Option Va} {f : Str → Fn} {xs : Xs} {x : Exc} {c : Str} : xiV ⟨g, f, xs, some x⟩ c = match xs.sub x.cls c with | some b => mC (.bl b) | none => fun _ _ => .stuck := (rfl)
/-- a def that may raise -/
theorem runD_any {d : Df} {ws : List Va} (r : R Va) (e0 : Ev) (he : ws.map some ++ List.replicate (d.N.length - ws.length) none = e0) (hn : ws.length = d.np)
    (h : ∀ Q : Po, (∀ v s, retV v s = r → Q.rt v s) → (∀ x e s, (x.fs.all fun p => free p.2) = true → r = .err x [] → Q.err x e s) → wp Q (ex L d.body e0 [])) : runD L d ws = r := by
  subst he
  have h := h { rt := fun v s => retV v s = r, err := fun x _ _ => (x.fs.all fun p => free p.2) = true ∧ r = .err x [] } (fun v s h => h) fun x e s h1 h2 => ⟨h1, h2⟩
  rw [wp_eq] at h
  unfold runD runB
  rw [if_pos hn]
  cases e : ex L d.body (ws.map some ++ List.replicate (d.N.length - ws.length) none) [] with
  | nx env st => rw [e] at h; exact h.elim
  | ct env st => rw [e] at h; exact h.elim
  | rt v st => rw [e] at h; exact h
  | err x env st =>
    rw [e] at h
    obtain ⟨h1, h2⟩ := h
    show (if _ then _ else _) = r
    rw [if_pos h1, h2]
  | stuck => rw [e] at h; exact h.elim
@[simp] theorem wp_seqs {a b : Ms} : wp Q (mSeq a b env st) = wp (Q.then b) (a env st) := wp_seq
@[simp] theorem wp_nxs : wp Q (.nx env st) = Q.nx env st := wp_nx
@[simp] theorem wp_cts : wp Q (.ct env st) = Q.ct env st := wp_ct
@[simp] theorem wp_rts {w : Va} : wp Q (.rt w st) = Q.rt w st := wp_rt
@[simp] theorem wp_errs {x : Exc} : wp Q (.err x env st) = Q.err x env st := wp_err
@[simp] theorem wp_stucks : wp Q .stuck = False := wp_stuck
@[simp] theorem then_nx {b : Ms} : (Q.then b).nx env st = wp Q (b env st) := (rfl)
@[simp] theorem then_ct {b : Ms} : (Q.then b).ct = Q.ct := (rfl)
@[simp] theorem then_rt {b : Ms} : (Q.then b).rt = Q.rt := (rfl)
@[simp] theorem then_err {b : Ms} : (Q.then b).err = Q.err := (rfl)
@[simp] theorem mTyes_eq : mTyes env st = .ok true st := (rfl)
@[simp] theorem wp_set {tg : Tg} {me : Mx Va} : wp Q (mSet tg me env st) = wp Q (bindE (me env st) env fun w st => match tgV tg w env st with | some env' => .nx env' st | none => .stuck) := (rfl)
@[simp] theorem wp_ret {me : Mx Va} : wp Q (mRet me env st) = wp Q (bindE (me env st) env fun w st => .rt w st) := (rfl)
@[simp] theorem wp_expr {me : Mx Va} : wp Q (mExpr me env st) = wp Q (bindE (me env st) env fun _ st => .nx env st) := (rfl)
@[simp] theorem wp_ifS {mt : Mx Bool} {a b : Ms} : wp Q (mIfS mt a b env st) = wp Q (bindE (mt env st) env fun c st => if c = true then a env st else b env st) := (rfl)
@[simp] theorem wp_forS {tg : Tg} {mi : Mx (List Va × Gd)} {b : Ms} : wp Q (mFor tg mi b env st) = wp Q (bindE (mi env st) env fun wg st => forRun tg wg.2 b wg.1 env st) := (rfl)
@[simp] theorem bindE_err {α : Type} (x : Exc) (k : α → Sto → RS) : bindE (.err x st) env k = .err x env st := (rfl)
@[simp] theorem tgV_one (i : Nat) (w : Va) : tgV (.inl i) w env st = some (env.set i (some w)) := (rfl)
@[simp] theorem tgV_two (is : List Nat) (l : List Va) : tgV (.inr is) (.tup l) env st = if l.length = is.length then some (setAll is l env) else none := (rfl)
@[simp] theorem setAll_nil (σ : Ev) : setAll (α := Va) [] [] σ = σ := (rfl)
@[simp] theorem setAll_cons (i : Nat) (is : List Nat) (x : Va) (xs : List Va) (σ : Ev) : setAll (i :: is) (x :: xs) σ = setAll is xs (σ.set i (some x)) := (rfl)
theorem mVar_ok {i : Nat} {w : Va} (h : env[i]? = some (some w)) : mVar i env st = .ok w st := by unfold mVar; rw [h]
@[simp] theorem mC_eq (w : Va) : mC w env st = .ok w st := (rfl)
@[simp] theorem mBin_eq (g : Va → Va → Sto → R Va) (ma mb : Mx Va) : mBin g ma mb env st = (ma env st).bind fun x st => (mb env st).bind fun y st => g x y st := (rfl)
@[simp] theorem mNil_eq : mNil env st = .ok [] st := (rfl)
@[simp] theorem mCons_eq (ma : Mx Va) (ml : Mx (List Va)) : mCons ma ml env st = (ma env st).bind fun x st => (ml env st).bind fun xs st => .ok (x :: xs) st := (rfl)
@[simp] theorem mTup_eq (ml : Mx (List Va)) : mTup ml env st = (ml env st).bind fun l st => mkT l st := (rfl)
@[simp] theorem mLst_eq (m : Bool) (ml : Mx (List Va)) : mLst m ml env st = (ml env st).bind fun l st => mkL m l st := (rfl)
@[simp] theorem mFn_eq (g : List Va → Sto → R Va) (ml : Mx (List Va)) : mFn g ml env st = (ml env st).bind fun l st => g l st := (rfl)
@[simp] theorem mTst_eq (m : Mx Va) : mTst m env st = (m env st).bind fun w st => match blOf w with | some b => .ok b st | none => .stuck := (rfl)
@[simp] theorem mTru_eq (m : Mx Va) : mTru m env st = (m env st).bind fun w st => match truV w st with | some b => .ok b st | none => .stuck := (rfl)
@[simp] theorem mIf_eq (mt : Mx Bool) (ma mb : Mx Va) : mIf mt ma mb env st = (mt env st).bind fun b st => if b = true then ma env st else mb env st := (rfl)
@[simp] theorem mAnd_eq (ma mb : Mx Va) : mAnd ma mb env st = (ma env st).bind fun x st => match truV x st with | some true => mb env st | some false => .ok x st | none => .stuck := (rfl)
@[simp] theorem mOr_eq (ma mb : Mx Va) : mOr ma mb env st = (ma env st).bind fun x st => match truV x st with | some true => .ok x st | some false => mb env st | none => .stuck := (rfl)
@[simp] theorem mNot_eq (ma : Mx Va) : mNot ma env st = (ma env st).bind fun x st => match truV x st with | some b => .ok (.bl (!b)) st | none => .stuck := (rfl)
@[simp] theorem mNeg_eq (ma : Mx Va) : mNeg ma env st = (ma env st).bind fun x st => match intOf x with | some i => .ok (.int (-i)) st | none => .stuck := (rfl)
@[simp] theorem mTAnd_eq (ma mb : Mx Bool) : mTAnd ma mb env st = (ma env st).bind fun b st => if b = true then mb env st else .ok false st := (rfl)
@[simp] theorem mTOr_eq (ma mb : Mx Bool) : mTOr ma mb env st = (ma env st).bind fun b st => if b = true then .ok true st else mb env st := (rfl)
@[simp] theorem mTNot_eq (ma : Mx Bool) : mTNot ma env st = (ma env st).bind fun b st => .ok (!b) st := (rfl)
@[simp] theorem mIsi_eq (c : String) (ma : Mx Va) : mIsi c ma env st = (ma env st).bind fun x st => isiV c [x] st := (rfl)
@[simp] theorem mIt_eq (m : Mx Va) : mIt m env st = (m env st).bind itV := (rfl)
@[simp] theorem mRng_eq (m : Mx (List Va)) : mRng m env st = (m env st).bind rngV := (rfl)
@[simp] theorem mEnum_eq (m : Mx (List Va)) : mEnum m env st = (m env st).bind enumV := (rfl)
@[simp] theorem mNo_eq : mNo env st = .ok none st := (rfl)
@[simp] theorem mPart_eq (m : Mx Va) : mPart m env st = (m env st).bind fun w st => match intOf w with | some i => .ok (some i) st | none => .stuck := (rfl)
@[simp] theorem mSlice_eq (m : Bool) (ma : Mx Va) (ml mh : Mx (Option Int)) : mSlice m ma ml mh env st = (ma env st).bind fun x st => (ml env st).bind fun lo st => (mh env st).bind fun hi st => sliceV m x lo hi st := (rfl)
@[simp] theorem mMth_eq (T : String) (g : Va → List Va → Sto → R Va) (mo : Mx Va) (ml : Mx (List Va)) : mMth T g mo ml env st = (mo env st).bind fun x st => if tyB T x st then (ml env st).bind fun l st => g x l st else .stuck := (rfl)
@[simp] theorem mChain_eq (g g' : Va → Va → Sto → R Va) (ma mb mc : Mx Va) : mChain g g' ma mb mc env st = (ma env st).bind fun x st => (mb env st).bind fun y st => (g x y st).bind fun z st => match blOf z with | none => .stuck | some false => .ok (.bl false) st | some true => (mc env st).bind fun w st => g' y w st := (rfl)
theorem mLc_eq (m : Bool) (vs : List Nat) (tg : Tg) (mi : Mx (List Va × Gd)) (mc : Mx Bool) (me : Mx Va) : mLc m vs tg mi mc me env st = (mi env st).bind fun wg st => (lcRun tg mc me wg.2 (wipeE env vs) wg.1 [] st).bind fun l st => mkL m l st := rfl

@[simp] theorem intOf_int (i : Int) : intOf (.int i) = some i := (rfl)
@[simp] theorem intOf_str (i : Tx) : intOf (.str i) = none := (rfl)
@[simp] theorem intOf_bl (i : Bool) : intOf (.bl i) = none := (rfl)
@[simp] theorem intOf_non : intOf .non = none := (rfl)
@[simp] theorem intOf_tup (i : List Va) : intOf (.tup i) = none := (rfl)
@[simp] theorem intOf_lst (i : List Va) : intOf (.lst i) = none := (rfl)
@[simp] theorem intOf_scr (i : List Va) : intOf (.scr i) = none := (rfl)
@[simp] theorem intOf_ref (i : Nat) : intOf (.ref i) = none := (rfl)
@[simp] theorem strOf_int (i : Int) : strOf (.int i) = none := (rfl)
@[simp] theorem strOf_str (i : Tx) : strOf (.str i) = some i := (rfl)
@[simp] theorem strOf_bl (i : Bool) : strOf (.bl i) = none := (rfl)
@[simp] theorem strOf_non : strOf .non = none := (rfl)
@[simp] theorem strOf_tup (i : List Va) : strOf (.tup i) = none := (rfl)
@[simp] theorem strOf_lst (i : List Va) : strOf (.lst i) = none := (rfl)
@[simp] theorem strOf_scr (i : List Va) : strOf (.scr i) = none := (rfl)
@[simp] theorem strOf_ref (i : Nat) : strOf (.ref i) = none := (rfl)
@[simp] theorem tupOf_int (i : Int) : tupOf (.int i) = none := (rfl)
@[simp] theorem tupOf_str (i : Tx) : tupOf (.str i) = none := (rfl)
@[simp] theorem tupOf_tup (i : List Va) : tupOf (.tup i) = some i := (rfl)
@[simp] theorem tupOf_lst (i : List Va) : tupOf (.lst i) = none := (rfl)
@[simp] theorem tupOf_scr (i : List Va) : tupOf (.scr i) = none := (rfl)
@[simp] theorem tupOf_ref (i : Nat) : tupOf (.ref i) = none := (rfl)
@[simp] theorem blOf_bl (i : Bool) : blOf (.bl i) = some i := (rfl)
@[simp] theorem lstOf_lst (i : List Va) : lstOf (.lst i) st = some i := (rfl)
@[simp] theorem lstOf_tup (i : List Va) : lstOf (.tup i) st = none := (rfl)
@[simp] theorem lstOf_str (i : Tx) : lstOf (.str i) st = none := (rfl)
@[simp] theorem lstOf_scr (i : List Va) : lstOf (.scr i) st = none := (rfl)
theorem lstOf_ref {p : Nat} {l : List Va} (h : st[p]? = some (some (.lst l))) : lstOf (.ref p) st = some l := by simp [lstOf, h]
@[simp] theorem dicOf_lst (i : List Va) : dicOf (.lst i) st = none := (rfl)
@[simp] theorem dicOf_tup (i : List Va) : dicOf (.tup i) st = none := (rfl)
@[simp] theorem dicOf_str (i : Tx) : dicOf (.str i) st = none := (rfl)
@[simp] theorem dicOf_int (i : Int) : dicOf (.int i) st = none := (rfl)
@[simp] theorem dicOf_scr (i : List Va) : dicOf (.scr i) st = none := (rfl)
@[simp] theorem dicOf_dic (k : List Ky) (i : List Va) : dicOf (.dic k i) st = some (k, i) := (rfl)
theorem dicOf_ref {p : Nat} {l : List Va} (h : st[p]? = some (some (.lst l))) : dicOf (.ref p) st = none := by simp [dicOf, h]
@[simp] theorem seqOf_lst (i : List Va) : seqOf (.lst i) st = some i := (rfl)
@[simp] theorem seqOf_tup (i : List Va) : seqOf (.tup i) st = some i := (rfl)
@[simp] theorem seqOf_scr (i : List Va) : seqOf (.scr i) st = some i := (rfl)
theorem seqOf_ref {p : Nat} {l : List Va} (h : st[p]? = some (some (.lst l))) : seqOf (.ref p) st = some l := lstOf_ref h
@[simp] theorem addV_int (m : Bool) (i j : Int) : addV m (.int i) (.int j) st = .ok (.int (i + j)) st := (rfl)
theorem addV_str {m : Bool} {i j : Tx} (h : i.length + j.length ≤ sizeLine) : addV m (.str i) (.str j) st = .ok (.str (i ++ j)) st := by simp [addV, h]
theorem mkT_val {l : List Va} (h : l.length ≤ sizeLine) : mkT l st = .ok (.tup l) st := by unfold mkT; rw [if_pos h]
theorem mkL_val {l : List Va} (h : l.length ≤ sizeLine) : mkL false l st = .ok (.lst l) st := by unfold mkL; rw [if_pos h]; rfl
theorem mkL_ref {l : List Va} (h : l.length ≤ sizeLine) : mkL true l st = .ok (.ref st.length) (st ++ [some (.lst l)]) := by unfold mkL; rw [if_pos h]; rfl
theorem addV_lst {m : Bool} {x y : Va} {a b : List Va} (hx : lstOf x st = some a) (hy : lstOf y st = some b) : addV m x y st = mkL m (a ++ b) st := by
  have q : ∀ {z : Va} {l : List Va}, lstOf z st = some l → intOf z = none ∧ strOf z = none ∧ tupOf z = none := fun {z l} h => by
    cases z <;> simp [lstOf, intOf, strOf, tupOf] at h ⊢
  obtain ⟨q1, q2, q3⟩ := q hx
  unfold addV
  rw [q1, q2, q3, hx, hy]
theorem addV_tup {m : Bool} {a b : List Va} : addV m (.tup a) (.tup b) st = mkT (a ++ b) st := rfl
@[simp] theorem subV_int (i j : Int) : subV (.int i) (.int j) st = .ok (.int (i - j)) st := (rfl)
theorem fdivV_int {i j : Int} (h : j ≠ 0) (h2 : j.natAbs < 1073741824) : fdivV (.int i) (.int j) st = .ok (.int (i.fdiv j)) st := by simp [fdivV, intV, divOk, h, h2]
theorem modV_int {i j : Int} (h : j ≠ 0) : modV (.int i) (.int j) st = .ok (.int (i.fmod j)) st := by simp [modV, intV, h]
theorem mulV_int {m : Bool} {i j : Int} (h : (small64 i || small64 j) = true) : mulV m (.int i) (.int j) st = .ok (.int (i * j)) st := by simp only [mulV, intOf_int, h, if_true]
@[simp] theorem cmpV_int (g : Int → Int → Bool) (i j : Int) : cmpV g (.int i) (.int j) st = .ok (.bl (g i j)) st := (rfl)
theorem ixV_int {x : Va} {l : List Va} {w : Va} {i : Nat} (hs : seqOf x st = some l) (hw : l[i]? = some w) : ixV x (.int (i : Nat)) st = .ok w st := by
  have h1 : dicOf x st = none ∧ strOf x = none := by
    cases x <;> simp [seqOf, lstOf, dicOf, strOf] at hs ⊢
    split at hs <;> simp_all
  unfold ixV
  rw [h1.1]
  simp only [intOf_int, h1.2, hs, atI_nat hw]
theorem ixV_lit {x : Va} {l : List Va} {w : Va} {i : Nat} (hs : seqOf x st = some l) (hw : l[i]? = some w) {k : Int} (hk : k = (i : Nat)) : ixV x (.int k) st = .ok w st := by subst hk; exact ixV_int hs hw
theorem ixV_str {x : Tx} {c : Nat} {i : Nat} (hs : x.length ≤ sizeLine) (hw : x[i]? = some c) {k : Int} (hk : k = (i : Nat)) : ixV (.str x) (.int k) st = .ok (.str [c]) st := by
  subst hk
  unfold ixV
  simp only [dicOf_str, intOf_int, strOf_str, atI_nat hw, hs, if_true]
@[simp] theorem truV_non : truV .non st = some false := (rfl)
@[simp] theorem truV_bl (b : Bool) : truV (.bl b) st = some b := (rfl)
@[simp] theorem truV_int (i : Int) : truV (.int i) st = some (i != 0) := (rfl)
theorem truV_str {z : Tx} (h : z.length ≤ sizeLine) : truV (.str z) st = some (!z.isEmpty) := by simp [truV, h]
@[simp] theorem truV_tup (l : List Va) : truV (.tup l) st = some (!l.isEmpty) := (rfl)
@[simp] theorem truV_lst (l : List Va) : truV (.lst l) st = some (!l.isEmpty) := (rfl)
@[simp] theorem isNV_non (neg : Bool) (x : Va) : isNV neg x .non st = .ok (.bl (if neg then !isNon x else isNon x)) st := (rfl)
theorem lenV_str {z : Tx} (h : z.length ≤ sizeLine) : lenV [.str z] st = .ok (.int z.length) st := by simp [lenV, h]
theorem lenV_seq {x : Va} {l : List Va} (h : seqOf x st = some l) : lenV [x] st = .ok (.int l.length) st := by
  have h1 : strOf x = none := by cases x <;> simp [seqOf, lstOf, strOf] at h ⊢
  simp [lenV, h1, h]
@[simp] theorem lenV_lst (l : List Va) : lenV [.lst l] st = .ok (.int l.length) st := lenV_seq rfl
@[simp] theorem lenV_tup (l : List Va) : lenV [.tup l] st = .ok (.int l.length) st := lenV_seq rfl
@[simp] theorem lenV_scr (l : List Va) : lenV [.scr l] st = .ok (.int l.length) st := lenV_seq rfl
theorem listV_seq {m : Bool} {x : Va} {l : List Va} (h : seqOf x st = some l) : listV m [x] st = mkL m l st := by simp [listV, h]
theorem tupleV_lst {x : Va} {l : List Va} (h : lstOf x st = some l) : tupleV [x] st = mkT l st := by
  have h1 : tupOf x = none := by cases x <;> simp [lstOf, tupOf] at h ⊢
  simp [tupleV, h1, h]
@[simp] theorem tupleV_tup (l : List Va) : tupleV [.tup l] st = .ok (.tup l) st := (rfl)
theorem isi_of {c t : String} {x : Va} {b : Bool} (h : tyNm x st = some t) (hb : kitB t c = some b) : isiV c [x] st = .ok (.bl b) st := by simp [isiV, h, hb]
theorem append_ok {p : Nat} {l : List Va} {y : Va} (h : st[p]? = some (some (.lst l))) (hl : l.length < sizeLine) : appendV (.ref p) [y] st = .ok .non (st.set p (some (.lst (l ++ [y])))) := by simp [appendV, h, hl]
theorem extend_tup {p : Nat} {l zs : List Va} (h : st[p]? = some (some (.lst l))) (hl : l.length + zs.length ≤ sizeLine) : extendV (.ref p) [.tup zs] st = .ok .non (st.set p (some (.lst (l ++ zs)))) := by simp [extendV, h, hl]
theorem extend_lst {p : Nat} {l zs : List Va} {x : Va} (h : st[p]? = some (some (.lst l))) (hz : lstOf x st = some zs) (hl : l.length + zs.length ≤ sizeLine) : extendV (.ref p) [x] st = .ok .non (st.set p (some (.lst (l ++ zs)))) := by
  have h1 : tupOf x = none := by cases x <;> simp [lstOf, tupOf] at hz ⊢
  simp [extendV, h, h1, hz, hl]
theorem tyB_ref {p : Nat} {l : List Va} (h : st[p]? = some (some (.lst l))) : tyB "list" (.ref p) st = true := by simp [tyB, lstOf_ref h]
@[simp] theorem tyB_str (z : Tx) : tyB "str" (.str z) st = true := by simp [tyB]
@[simp] theorem itV_lst (l : List Va) : itV (.lst l) st = .ok (l, none) st := (rfl)
@[simp] theorem itV_tup (l : List Va) : itV (.tup l) st = .ok (l, none) st := (rfl)
@[simp] theorem itV_scr (l : List Va) : itV (.scr l) st = .ok (l, none) st := (rfl)
@[simp] theorem itV_str (l : Tx) : itV (.str l) st = .ok (signs l, none) st := (rfl)
@[simp] theorem gdB_none : gdB none st = true := (rfl)
theorem rng1 {j : Int} (h : i62 j = true) : rngV [.int j] st = .ok (rints 0 j.toNat, none) st := by simp [rngV, h]
theorem rng3 {i j : Int} (h : i62 i = true) (h2 : i62 j = true) : rngV [.int i, .int j, .int (-1)] st = .ok (rdown i (i - j).toNat, none) st := by simp [rngV, h, h2]
@[simp] theorem mmV_two (mx : Bool) (i j : Int) : mmV mx [.int i, .int j] st = .ok (.int (if mx then (if j > i then j else i) else (if j < i then j else i))) st := (rfl)
@[simp] theorem mmV_three (mx : Bool) (i j k : Int) : mmV mx [.int i, .int j, .int k] st = .ok (.int (if mx then (if k > (if j > i then j else i) then k else (if j > i then j else i)) else (if k < (if j < i then j else i) then k else (if j < i then j else i)))) st := (rfl)
theorem rng2 {i j : Int} (h : i62 i = true) (h2 : i62 j = true) : rngV [.int i, .int j] st = .ok (rints i (j - i).toNat, none) st := by simp [rngV, h, h2]
@[simp] theorem enumV_tup (l : List Va) : enumV [.tup l] st = .ok (numbered l, none) st := (rfl)
@[simp] theorem enumV_str (l : Tx) : enumV [.str l] st = .ok (numbered (signs l), none) st := (rfl)
@[simp] theorem enumV_lst (l : List Va) : enumV [.lst l] st = .ok (numbered l, none) st := (rfl)
theorem rints_get {lo : Int} {n i : Nat} {w : Va} (h : (rints lo n)[i]? = some w) : i < n ∧ w = .int (lo + i) := by
  unfold rints at h
  rw [List.getElem?_map] at h
  by_cases hi : i < n
  · rw [List.getElem?_range hi] at h
    cases h
    exact ⟨hi, rfl⟩
  · rw [List.getElem?_eq_none (by simpa using hi)] at h
    cases h
theorem rints_mem {lo : Int} {n : Nat} {w : Va} (h : w ∈ rints lo n) : ∃ i, i < n ∧ w = .int (lo + (i : Nat)) := by
  obtain ⟨i, e⟩ := List.mem_iff_getElem?.mp h
  exact ⟨i, rints_get e⟩
@[simp] theorem rints_length (lo : Int) (n : Nat) : (rints lo n).length = n := by simp [rints]
theorem numbered_at {l : List Va} {i : Nat} {w : Va} (h : (numbered l)[i]? = some w) : ∃ x, l[i]? = some x ∧ w = .tup [.int (i : Nat), x] := by
  unfold numbered at h
  rw [List.getElem?_map] at h
  cases e : l.zipIdx[i]? with
  | none => rw [e] at h; cases h
  | some p =>
    rw [e] at h
    cases h
    rw [List.getElem?_zipIdx] at e
    cases e2 : l[i]? with
    | none => rw [e2] at e; cases e
    | some x =>
      rw [e2] at e
      cases e
      exact ⟨x, rfl, by simp⟩
@[simp] theorem numbered_length (l : List Va) : (numbered l).length = l.length := by simp [numbered]
theorem fmod_at (i : Int) {n : Nat} (hn : 0 < n) : ∃ k : Nat, k < n ∧ i.fmod (n : Nat) = (k : Nat) := by
  have h1 := Int.emod_nonneg i (b := (n : Int)) (by omega)
  have h2 := Int.emod_lt_of_pos i (b := (n : Int)) (by omega)
  refine ⟨(i % (n : Int)).toNat, by omega, ?_⟩
  rw [Int.fmod_eq_emod_of_nonneg _ (by omega)]
  omega
/-- one of a list, by a rest -/
theorem ixV_pick {x : Va} {l : List Va} {i j : Int} {n : Nat} (hs : seqOf x st = some l) (hl : l.length = n) (hn : 0 < n) (hj : j = (n : Nat)) : ∃ w, w ∈ l ∧ ixV x (.int (i.fmod j)) st = .ok w st := by
  subst hj
  obtain ⟨k, hk, e⟩ := fmod_at i hn
  obtain ⟨w, hw⟩ : ∃ w, l[k]? = some w := ⟨_, List.getElem?_eq_getElem (by omega)⟩
  refine ⟨w, List.mem_of_getElem? hw, ?_⟩
  rw [e]
  exact ixV_int hs hw
@[simp] theorem ret_str (z : Tx) (s : Sto) : retV (.str z) s = .ok (.str z) [] := ret_free rfl
@[simp] theorem ret_int (z : Int) (s : Sto) : retV (.int z) s = .ok (.int z) [] := ret_free rfl
@[simp] theorem ret_bl (z : Bool) (s : Sto) : retV (.bl z) s = .ok (.bl z) [] := ret_free rfl
@[simp] theorem ret_non (s : Sto) : retV .non s = .ok .non [] := ret_free rfl
theorem powV_int {i j : Int} (h : powOk i j = true) : powV (.int i) (.int j) st = .ok (.int (i ^ j.toNat)) st := by simp only [powV, intV, intOf_int, h, if_true]
theorem runD_of {d : Df} {ws : List Va} {w : Va} {s : Sto} (P : Va → Sto → Prop) (e0 : Ev) (he : ws.map some ++ List.replicate (d.N.length - ws.length) none = e0) (hn : ws.length = d.np) (hp : ∀ v s', P v s' → retV v s' = .ok w s) (h : ∀ Q : Po, (∀ v s, P v s → Q.rt v s) → wp Q (ex L d.body e0 [])) : runD L d ws = .ok w s := by
  subst he
  have h := h { rt := P } fun _ _ h => h
  exact runD_ok hn (wp_mono h (fun _ _ h => h.elim) (fun _ _ h => h.elim) hp (fun _ _ _ h => h.elim))
theorem runD_ex {d : Df} {ws : List Va} {s : Sto} {R : Va → Prop} (e0 : Ev) (he : ws.map some ++ List.replicate (d.N.length - ws.length) none = e0) (hn : ws.length = d.np) (h : ∀ Q : Po, (∀ v s' w, R w → retV v s' = .ok w s → Q.rt v s') → wp Q (ex L d.body e0 [])) : ∃ w, R w ∧ runD L d ws = .ok w s := by
  subst he
  have h := h { rt := fun v s' => ∃ w, R w ∧ retV v s' = .ok w s } fun v s' w r e => ⟨w, r, e⟩
  rw [wp_eq] at h
  unfold runD runB
  rw [if_pos hn]
  cases e : ex L d.body (ws.map some ++ List.replicate (d.N.length - ws.length) none) [] with
  | nx env st => rw [e] at h; exact h.elim
  | ct env st => rw [e] at h; exact h.elim
  | rt v st => rw [e] at h; exact h
  | err x env st => rw [e] at h; exact h.elim
  | stuck => rw [e] at h; exact h.elim
theorem frees_map {α : Type} {f : α → Va} {l : List α} (h : ∀ x, free (f x) = true) : frees (l.map f) = true := frees_of fun x hx => by
  obtain ⟨y, _, rfl⟩ := List.mem_map.mp hx
  exact h y
theorem dats_map {α : Type} {f : α → Va} {n : Nat} {l : List α} (h : ∀ x, dat n (f x) = true) : dats n (l.map f) = true := dats_of fun x hx => by
  obtain ⟨y, _, rfl⟩ := List.mem_map.mp hx
  exact h y
theorem mLc_all {m : Bool} {vs : List Nat} {tg : Tg} {mi : Mx (List Va × Gd)} {mc : Mx Bool} {me : Mx Va} {env1 : Ev} {gd : Gd} (ws : List Va) (f : Va → Va) (hi : mi env st = .ok (ws, gd) st) (hg : gdB gd st = true) (he : wipeE env vs = env1)
    (h : ∀ w ∈ ws, ∃ env2, tgV tg w env1 st = some env2 ∧ mc env2 st = .ok true st ∧ me env2 st = .ok (f w) st) : mLc m vs tg mi mc me env st = mkL m (ws.map f) st := by
  subst he
  rw [mLc_eq, hi, R.bind_ok, lc_all f hg h, R.bind_ok, List.nil_append]
theorem mLc_rng {m : Bool} {vs : List Nat} {tg : Tg} {mi : Mx (List Va × Gd)} {mc : Mx Bool} {me : Mx Va} {env1 : Ev} (n : Nat) (g : Nat → Va) (hi : mi env st = .ok (rints 0 n, none) st) (he : wipeE env vs = env1)
    (h : ∀ i, i < n → ∃ env2, tgV tg (.int (i : Nat)) env1 st = some env2 ∧ mc env2 st = .ok true st ∧ me env2 st = .ok (g i) st) : mLc m vs tg mi mc me env st = mkL m ((List.range n).map g) st := by
  rw [mLc_all (gd := none) (rints 0 n) (fun w => match w with | .int j => g j.toNat | _ => .non) hi rfl he fun w hw => ?_]
  · unfold rints
    rw [List.map_map]
    congr 1
    apply List.map_congr_left
    intro i _
    show g ((0 : Int) + (i : Nat)).toNat = g i
    congr 1
    omega
  · obtain ⟨i, hi, rfl⟩ := rints_mem hw
    rw [Int.zero_add]
    exact h i hi
/-- a list of one thing for each of a list -/
theorem mLc_map {α : Type} {m : Bool} {vs : List Nat} {tg : Tg} {mi : Mx (List Va × Gd)} {mc : Mx Bool} {me : Mx Va} {env1 : Ev} {gd : Gd} (xs : List α) (e : α → Va) (g : α → Va) (hi : mi env st = .ok (xs.map e, gd) st) (hg : gdB gd st = true) (he : wipeE env vs = env1)
    (h : ∀ x ∈ xs, ∃ env2, tgV tg (e x) env1 st = some env2 ∧ mc env2 st = .ok true st ∧ me env2 st = .ok (g x) st) : mLc m vs tg mi mc me env st = mkL m (xs.map g) st := by
  subst he
  rw [mLc_eq, hi, R.bind_ok]
  have key : ∀ (xs : List α) (acc : List Va), (∀ x ∈ xs, ∃ env2, tgV tg (e x) (wipeE env vs) st = some env2 ∧ mc env2 st = .ok true st ∧ me env2 st = .ok (g x) st) → lcRun tg mc me gd (wipeE env vs) (xs.map e) acc st = .ok (acc ++ xs.map g) st := by
    intro xs
    induction xs with
    | nil =>
      intro acc _
      show (if gdB gd st = true then R.ok acc st else .stuck) = _
      rw [if_pos hg]
      simp
    | cons x xs ih =>
      intro acc h
      obtain ⟨env2, e1, e2, e3⟩ := h x List.mem_cons_self
      show (if gdB gd st = true then _ else _) = _
      rw [if_pos hg, e1]
      simp only [e2, e3, if_true]
      rw [ih (acc ++ [g x]) fun y hy => h y (List.mem_cons_of_mem _ hy)]
      simp
  show (lcRun tg mc me gd (wipeE env vs) (xs.map e) [] st).bind _ = _
  rw [key xs [] h, R.bind_ok, List.nil_append]
@[simp] theorem eqV_ints (neg : Bool) (a b : Int) : G.eqV neg (.int a) (.int b) st = .ok (.bl (if neg then !decide (a = b) else decide (a = b))) st := by rw [eqV_dat (by simp) (by simp), eqd_int]
@[simp] theorem eqV_strs (neg : Bool) (a b : Tx) : G.eqV neg (.str a) (.str b) st = .ok (.bl (if neg then !decide (a = b) else decide (a = b))) st := by rw [eqV_dat (by simp) (by simp), eqd_str]
@[simp] theorem eqV_bls (neg : Bool) (a b : Bool) : G.eqV neg (.bl a) (.bl b) st = .ok (.bl (if neg then !(a == b) else (a == b))) st := by rw [eqV_dat (by simp) (by simp), eqd_bl]
@[simp] theorem ix_tup0 (w : Va) (r : List Va) : ixV (.tup (w :: r)) (.int 0) st = .ok w st := ixV_lit (i := 0) rfl rfl rfl
@[simp] theorem ix_tup1 (w w1 : Va) (r : List Va) : ixV (.tup (w :: w1 :: r)) (.int 1) st = .ok w1 st := ixV_lit (i := 1) rfl rfl rfl
@[simp] theorem ix_tup2 (w w1 w2 : Va) (r : List Va) : ixV (.tup (w :: w1 :: w2 :: r)) (.int 2) st = .ok w2 st := ixV_lit (i := 2) rfl rfl rfl
@[simp] theorem ix_tup3 (w w1 w2 w3 : Va) (r : List Va) : ixV (.tup (w :: w1 :: w2 :: w3 :: r)) (.int 3) st = .ok w3 st := ixV_lit (i := 3) rfl rfl rfl
@[simp] theorem ix_lst0 (w : Va) (r : List Va) : ixV (.lst (w :: r)) (.int 0) st = .ok w st := ixV_lit (i := 0) rfl rfl rfl
@[simp] theorem ix_lst1 (w w1 : Va) (r : List Va) : ixV (.lst (w :: w1 :: r)) (.int 1) st = .ok w1 st := ixV_lit (i := 1) rfl rfl rfl
@[simp] theorem ix_lst2 (w w1 w2 : Va) (r : List Va) : ixV (.lst (w :: w1 :: w2 :: r)) (.int 2) st = .ok w2 st := ixV_lit (i := 2) rfl rfl rfl
theorem isi_list_lst (l : List Va) : isiV "list" [.lst l] st = .ok (.bl true) st := isi_of rfl (by decide +kernel)
theorem isi_bool_bl (b : Bool) : isiV "bool" [.bl b] st = .ok (.bl true) st := isi_of rfl (by decide +kernel)
theorem append0 {l : List Va} {y : Va} {s : Sto} (hl : l.length < sizeLine) : appendV (.ref 0) [y] (some (.lst l) :: s) = .ok .non (some (.lst (l ++ [y])) :: s) := by rw [append_ok rfl hl]; rfl
theorem addV_rl {m : Bool} {p : Nat} {a b : List Va} (h : st[p]? = some (some (.lst a))) : addV m (.ref p) (.lst b) st = mkL m (a ++ b) st := addV_lst (lstOf_ref h) rfl
@[simp] theorem addV_ll (m : Bool) (a b : List Va) : addV m (.lst a) (.lst b) st = mkL m (a ++ b) st := addV_lst rfl rfl
theorem mulV_lst {m : Bool} {l : List Va} {n : Nat} (hn : n < 1000000) (hl : l.length * n ≤ sizeLine) : mulV m (.lst l) (.int (n : Nat)) st = mkL m (List.replicate n l).flatten st := by
  have h : i63 (n : Nat) = true := by unfold i63; exact decide_eq_true ⟨by omega, by omega⟩
  unfold mulV
  simp only [intOf_lst, intOf_int, strOf_lst, lstOf_lst, h, Int.toNat_natCast, Bool.true_and]
  rw [if_pos (decide_eq_true hl)]
theorem cut_nat {α : Type} (l : List α) {i j : Nat} (hj : j ≤ l.length) (hi : i ≤ j) : cut l (some (i : Nat)) (some (j : Nat)) = (l.drop i).take (j - i) := by
  unfold cut
  rw [show HT.sIx l.length 0 (some (i : Int)) = min i l.length from HT.sIx_nat l.length 0 i, show HT.sIx l.length l.length (some (j : Int)) = min j l.length from HT.sIx_nat l.length l.length j, Nat.min_eq_left hj, Nat.min_eq_left (show i ≤ l.length by omega)]
theorem slice_nat {m : Bool} {l : List Va} {i j : Nat} (hl : l.length ≤ sizeLine) (hj : j ≤ l.length) (hi : i ≤ j) : sliceV m (.lst l) (some (i : Nat)) (some (j : Nat)) st = mkL m ((l.drop i).take (j - i)) st := by
  unfold sliceV
  simp only [strOf_lst, tupOf_lst, lstOf_lst, hl, if_true]
  rw [cut_nat l hj hi]
theorem set_here {s : Sto} {p : Nat} {o o' : Option Ob} (h : s[p]? = some o) : (s.set p o')[p]? = some o' := List.getElem?_set_self (List.getElem?_eq_some_iff.mp h).1
theorem set_there {s : Sto} {p q : Nat} {o' x : Option Ob} (n : p ≠ q) (h : s[q]? = some x) : (s.set p o')[q]? = some x := by rw [List.getElem?_set_ne n, h]
theorem app_old {s r : Sto} {p : Nat} {x : Option Ob} (h : s[p]? = some x) : (s ++ r)[p]? = some x := by rw [List.getElem?_append_left (List.getElem?_eq_some_iff.mp h).1, h]
theorem app_new {s : Sto} {x : Option Ob} : (s ++ [x])[s.length]? = some x := by simp
@[simp] theorem toIntV_int (i : Int) : toIntV [.int i] st = .ok (.int i) st := (rfl)
theorem toPds_map : ∀ l : List Va, toPds l = l.map toPd
  | [] => by simp [toPds]
  | x :: r => by simp [toPds, toPds_map r]
theorem inV_tup {neg : Bool} {x : Va} {l : List Va} (hx : dat 40 x = true) (hl : dats 39 l = true) : inV' neg x (.tup l) st = .ok (.bl (if neg then !(l.any fun y => eqd y x) else l.any fun y => eqd y x)) st := by
  have h2 : pd 40 st (.tup l) = some (.tuple (toPds l)) := pd_dat (x := .tup l) (by rw [dat_tup]; exact hl) st
  unfold inV'
  simp only [strOf_tup, dicOf_tup, pd_dat hx st, h2, toPds_map, List.any_map]
  rfl
theorem inV_lst {neg : Bool} {x : Va} {l : List Va} (hx : dat 40 x = true) (hl : dats 39 l = true) : inV' neg x (.lst l) st = .ok (.bl (if neg then !(l.any fun y => eqd y x) else l.any fun y => eqd y x)) st := by
  have h2 : pd 40 st (.lst l) = some (.list (toPds l)) := pd_dat (x := .lst l) (by rw [dat_lst]; exact hl) st
  unfold inV'
  simp only [strOf_lst, dicOf_lst, pd_dat hx st, h2, toPds_map, List.any_map]
  rfl
theorem pow_any : ∃ g : Int, ∀ st : Sto, powD (.int 10) (.int 18) st = .ok (.int g) st := by
  have h : powOk 10 18 = true := by decide +kernel
  refine Exists.intro ((10 : Int) ^ (18 : Int).toNat) fun st => ?_
  unfold powD
  exact powV_int h
end
end G

set_option Elab.async false
set_option linter.all false
set_option maxRecDepth 100000
set_option maxHeartbeats 4000000
/-! texts, edits; the defs that many laws share -/
namespace C
open PySem PySem.Spec PyProof.Rows L2 G
def S_edited : S :=
  (.seq (.set (.inl 2) (.lst true .nil))
  (.seq (.sfor (.inr [3, 4]) (.ienum (.cons (.var 0) .nil))
  (.seq (.set (.inr [5, 6, 7]) (.ix (.var 1) (.var 3)))
  (.seq (.expr (.mth .extend (.var 2) (.cons (.var 5) .nil)))
  (.seq (.sif (.cmp .eq (.ix (.var 6) (.int 0)) (.str [107, 101, 101, 112]))
  (.seq (.expr (.mth .append (.var 2) (.cons (.var 4) .nil)))
  .nil)
  (.seq (.sif (.cmp .eq (.ix (.var 6) (.int 0)) (.str [116, 101, 120, 116]))
  (.seq (.expr (.mth .append (.var 2) (.cons (.ix (.var 6) (.int 1)) .nil)))
  .nil)
  .nil)
  .nil))
  (.seq (.expr (.mth .extend (.var 2) (.cons (.var 7) .nil)))
  .nil)))))
  (.seq (.ret (.var 2))
  .nil)))
def D_edited : Df := ⟨["texts", "edits", "made", "at", "text", "ahead", "change", "behind"], 2, S_edited⟩
def S_untouched : S :=
  (.seq (.ret (.lc false [1] (.inl 1) (.irng (.cons (.var 0) .nil)) .nil (.tup (.cons (.tup .nil) (.cons (.glob "KEEP") (.cons (.tup .nil) .nil))))))
  .nil)
def D_untouched : Df := ⟨["count", "at"], 1, S_untouched⟩
def S_is_touched : S :=
  (.seq (.ret (.cmp .ne (.var 0) (.tup (.cons (.tup .nil) (.cons (.glob "KEEP") (.cons (.tup .nil) .nil))))))
  .nil)
def D_is_touched : Df := ⟨["edit"], 1, S_is_touched⟩
def S__law_cell : S :=
  (.seq (.sif (.cmp .lt (.var 1) (.bif .len false (.cons (.var 0) .nil)))
  (.seq (.ret (.ix (.var 0) (.var 1)))
  .nil)
  .nil)
  (.seq (.ret (.int 0))
  .nil))
def D__law_cell : Df := ⟨["_law_script", "_law_k"], 2, S__law_cell⟩
def S__law_edited : S :=
  (.seq (.set (.inl 2) (.lst true .nil))
  (.seq (.sfor (.inl 3) (.irng (.cons (.bif .len false (.cons (.var 0) .nil)) .nil))
  (.seq (.set (.inl 2) (.bin .add true (.var 2) (.bif .list false (.cons (.ix (.ix (.var 1) (.var 3)) (.int 0)) .nil))))
  (.seq (.sif (.cmp .eq (.ix (.ix (.ix (.var 1) (.var 3)) (.int 1)) (.int 0)) (.str [107, 101, 101, 112]))
  (.seq (.expr (.mth .append (.var 2) (.cons (.ix (.var 0) (.var 3)) .nil)))
  .nil)
  .nil)
  (.seq (.sif (.cmp .eq (.ix (.ix (.ix (.var 1) (.var 3)) (.int 1)) (.int 0)) (.str [116, 101, 120, 116]))
  (.seq (.expr (.mth .append (.var 2) (.cons (.ix (.ix (.ix (.var 1) (.var 3)) (.int 1)) (.int 1)) .nil)))
  .nil)
  .nil)
  (.seq (.set (.inl 2) (.bin .add true (.var 2) (.bif .list false (.cons (.ix (.ix (.var 1) (.var 3)) (.int 2)) .nil))))
  .nil)))))
  (.seq (.ret (.var 2))
  .nil)))
def D__law_edited : Df := ⟨["_law_texts", "_law_edits", "_law_made", "_law_at"], 2, S__law_edited⟩
/-- a cell of the script -/
def cell (ns : List Int) (k : Nat) : Int := ns.getD k 0
theorem cell_ok {L : Lm} (ns : List Int) (k : Nat) : runD L D__law_cell [.scr (ns.map .int), .int k] = .ok (.int (cell ns k)) [] := by
  refine runD_ok rfl ?_
  simp -implicitDefEqProofs [D__law_cell, S__law_cell, mVar]
  by_cases h : k < ns.length
  · rw [if_pos h]
    simp -implicitDefEqProofs [mVar]
    rw [ixV_int (w := .int (cell ns k)) rfl (by simp -implicitDefEqProofs [h, cell])]
    simp -implicitDefEqProofs
  · rw [if_neg h]
    simp -implicitDefEqProofs [cell, h]
theorem rep_lt {n : Nat} (h : n < 2000) : i62 (n : Nat) = true := by unfold i62; exact decide_eq_true ⟨by omega, by omega⟩
theorem small_mod {x : Int} : G.small64 (x.fmod 2147483647) = true := by
  have h1 := Int.emod_nonneg x (b := 2147483647) (by decide)
  have h2 := Int.emod_lt_of_pos x (b := 2147483647) (by decide)
  rw [Int.fmod_eq_emod_of_nonneg _ (by decide)]
  exact decide_eq_true ⟨by omega, by omega⟩
/-- texts, an edit -/
def vTs (l : List Tx) : Va := .tup (l.map .str)
structure Ed where
  a : List Tx
  c : List Tx
  b : List Tx
def vEd (e : Ed) : Va := .tup [vTs e.a, vTs e.c, vTs e.b]
def keepT : Tx := [107, 101, 101, 112]
def textT : Tx := [116, 101, 120, 116]
def dropT : Tx := [100, 114, 111, 112]
def Ch (c : List Tx) : Prop := c = [keepT] ∨ c = [dropT] ∨ ∃ t, c = [textT, t]
structure Ed.Ok (B : Nat) (e : Ed) : Prop where
  a : e.a.length ≤ B
  b : e.b.length ≤ B
  c : Ch e.c
theorem free_vTs (l : List Tx) : free (vTs l) = true := by
  rw [vTs, free_tup]
  exact frees_map fun _ => rfl
theorem free_vEd (e : Ed) : free (vEd e) = true := by simp [vEd, free_vTs]
theorem dat_vTs (l : List Tx) (n : Nat) : dat (n + 1) (vTs l) = true := by
  rw [vTs, dat_tup]
  exact dats_map fun _ => by simp
theorem dat_vEd (e : Ed) (n : Nat) : dat (n + 2) (vEd e) = true := by simp [vEd, dat_vTs]
theorem eqd_vTs (a b : List Tx) : eqd (vTs a) (vTs b) = decide (a = b) := by
  rw [vTs, vTs, eqd_tup]
  induction a generalizing b with
  | nil => cases b <;> simp
  | cons x a ih =>
    cases b with
    | nil => simp
    | cons y b =>
      simp only [List.map_cons, eqds_cons, eqd_str, ih]
      by_cases h : x = y <;> simp [h]
@[simp] theorem len_vTs (l : List Tx) (st : Sto) : lenV [vTs l] st = .ok (.int l.length) st := by simp [vTs]
theorem lenl_map {α : Type} (f : α → Va) (l : List α) (st : Sto) : lenV [.lst (l.map f)] st = .ok (.int l.length) st := by simp
theorem ext_vTs {p : Nat} {l : List Tx} {zs : List Tx} {st : Sto} (h : st[p]? = some (some (.lst (l.map .str)))) (hl : l.length + zs.length ≤ sizeLine) : extendV (.ref p) [vTs zs] st = .ok .non (st.set p (some (.lst ((l ++ zs).map .str)))) := by
  rw [vTs, extend_tup h (by simpa using hl), List.map_append]
theorem ext_ts {p : Nat} {l : List Tx} {zs : List Tx} {st : Sto} (h : st[p]? = some (some (.lst (l.map .str)))) (hl : l.length + zs.length ≤ sizeLine) : extendV (.ref p) [.lst (zs.map .str)] st = .ok .non (st.set p (some (.lst ((l ++ zs).map .str)))) := by
  rw [extend_lst h rfl (by simpa using hl), List.map_append]
theorem tup_ts {p : Nat} {l : List Tx} {st : Sto} (h : st[p]? = some (some (.lst (l.map .str)))) (hl : l.length ≤ sizeLine) : tupleV [.ref p] st = .ok (vTs l) st := by
  rw [tupleV_lst (lstOf_ref h), mkT_val (by simpa using hl), vTs]
/-! ### edited -/
def mid (t : Tx) (c : List Tx) : List Tx := if c = [keepT] then [t] else match c with
  | [_, u] => [u]
  | _ => []
def piece (p : Tx × Ed) : List Tx := p.2.a ++ mid p.1 p.2.c ++ p.2.b
def edL (ts : List Tx) (es : List Ed) : List Tx := (ts.zip es).flatMap piece
theorem mid_len (t : Tx) (c : List Tx) : (mid t c).length ≤ 1 := by
  unfold mid
  split
  · simp
  · split <;> simp
theorem take_flat {α β : Type} (f : α → List β) {l : List α} {k : Nat} {x : α} (h : l[k]? = some x) : (l.take (k + 1)).flatMap f = (l.take k).flatMap f ++ f x := by
  rw [List.take_succ, h]
  simp
theorem flat_len {α β : Type} (f : α → List β) (n : Nat) : ∀ {l : List α}, (∀ x ∈ l, (f x).length ≤ n) → (l.flatMap f).length ≤ n * l.length
  | [], _ => by simp
  | x :: r, h => by
    have h1 := h x List.mem_cons_self
    have h2 := flat_len f n (l := r) fun y hy => h y (List.mem_cons_of_mem _ hy)
    simp only [List.flatMap_cons, List.length_append, List.length_cons, Nat.mul_add]
    omega
theorem zip_at {α β : Type} {a : List α} {b : List β} {k : Nat} {x : α} {y : β} (h1 : a[k]? = some x) (h2 : b[k]? = some y) : (a.zip b)[k]? = some (x, y) := by
  rw [List.getElem?_zip_eq_some]
  exact ⟨h1, h2⟩
theorem edited_any {L : Lm} {x : Va} {ts : List Tx} {es : List Ed} (hx : ∀ st, enumV [x] st = .ok (numbered (ts.map .str), none) st) {B : Nat} (hl : ts.length = es.length) (hn : ts.length ≤ 1000) (hB : B ≤ 1000) (hok : ∀ e ∈ es, e.Ok B) : runD L D_edited [x, .lst (es.map vEd)] = .ok (.lst ((edL ts es).map .str)) fresh := by
  refine runD_of (fun v s => v = .ref 0 ∧ s = [some (.lst ((edL ts es).map .str))]) [some x, some (.lst (es.map vEd)), none, none, none, none, none, none] rfl rfl (fun v s ⟨h1, h2⟩ => ?_) fun Q hr => ?_
  · subst h1 h2
    exact ret_lst rfl (frees_map fun _ => rfl)
  simp -implicitDefEqProofs [D_edited, S_edited, mVar, mkL, sizeLine, hx]
  refine wp_for (fun k env st => ∃ x3 x4 x5 x6 x7, env = [some x, some (.lst (es.map vEd)), some (.ref 0), x3, x4, x5, x6, x7] ∧ st = [some (.lst ((((ts.zip es).take k).flatMap piece).map .str))]) ?_ ?_ ?_
  · exact ⟨_, _, _, _, _, rfl, rfl⟩
  · rintro k w env st Qb hw ⟨x3, x4, x5, x6, x7, rfl, rfl⟩ hnx _ _ _
    obtain ⟨y, hy, rfl⟩ := numbered_at hw
    rw [List.getElem?_map] at hy
    obtain ⟨t, ht, rfl⟩ := Option.map_eq_some_iff.mp hy
    have hk : k < ts.length := (List.getElem?_eq_some_iff.mp ht).1
    obtain ⟨e, he⟩ : ∃ e, es[k]? = some e := ⟨_, List.getElem?_eq_getElem (by omega)⟩
    have hm : e ∈ es := List.mem_of_getElem? he
    have hlen : (((ts.zip es).take k).flatMap piece).length ≤ 2001 * k := by
      refine Nat.le_trans (flat_len piece 2001 fun p hp => ?_) ?_
      · have : p.2 ∈ es := (List.of_mem_zip (List.mem_of_mem_take hp)).2
        have o := hok _ this
        have := mid_len p.1 p.2.c
        have := o.a
        have := o.b
        simp only [piece, List.length_append]
        omega
      · exact Nat.mul_le_mul_left _ (by simp; omega)
    have hq := take_flat piece (zip_at ht he)
    refine ⟨rfl, _, rfl, ?_⟩
    generalize ((ts.zip es).take k).flatMap piece = M at hlen hq
    obtain ⟨ha, hb, hc⟩ := hok e hm
    have hix : ∀ st, ixV (.lst (es.map vEd)) (.int (k : Nat)) st = .ok (vEd e) st := fun st => ixV_int rfl (by rw [List.getElem?_map, he]; rfl)
    simp -implicitDefEqProofs [mVar, hix]
    rw [show vEd e = .tup [vTs e.a, vTs e.c, vTs e.b] from rfl]
    simp -implicitDefEqProofs [mVar, tyB, lstOf, vTs]
    rw [extend_tup rfl (by simp [sizeLine]; omega)]
    simp -implicitDefEqProofs [mVar]
    refine wp_cut (fun ev s => s = [some (.lst ((M ++ e.a ++ mid t e.c).map .str))] ∧ ev = [some x, some (.lst (es.map vEd)), some (.ref 0), some (.int (k : Nat)), some (.str t), some (vTs e.a), some (vTs e.c), some (vTs e.b)]) (fun R h _ _ _ => ?_) ?_
    · rcases hc with hc | hc | ⟨u, hc⟩
      · rw [hc]
        simp -implicitDefEqProofs [keepT, mVar, tyB, lstOf]
        rw [append0 (by simp [sizeLine]; omega)]
        simp -implicitDefEqProofs
        exact h _ _ ⟨by simp [mid, keepT, hc], by simp [vTs, hc, keepT]⟩
      · rw [hc]
        simp -implicitDefEqProofs [dropT, mVar]
        exact h _ _ ⟨by simp [mid, keepT, hc, dropT], by simp [vTs, hc, dropT]⟩
      · rw [hc]
        simp -implicitDefEqProofs [textT, mVar, tyB, lstOf]
        rw [append0 (by simp [sizeLine]; omega)]
        simp -implicitDefEqProofs
        exact h _ _ ⟨by simp [mid, keepT, hc, textT], by simp [vTs, hc, textT]⟩
    · rintro ev s ⟨rfl, rfl⟩
      have := mid_len t e.c
      simp -implicitDefEqProofs [mVar, tyB, lstOf, vTs]
      rw [extend_tup rfl (by simp [sizeLine]; omega)]
      simp -implicitDefEqProofs
      refine hnx _ _ ⟨_, _, _, _, _, rfl, ?_⟩
      rw [hq]
      simp [piece]
  · rintro env st ⟨x3, x4, x5, x6, x7, rfl, rfl⟩
    refine ⟨rfl, ?_⟩
    simp -implicitDefEqProofs [mVar]
    refine hr _ _ ⟨rfl, ?_⟩
    rw [List.take_of_length_le (by simp; omega)]
    rfl
theorem edited_ok {L : Lm} {ts : List Tx} {es : List Ed} {B : Nat} (hl : ts.length = es.length) (hn : ts.length ≤ 1000) (hB : B ≤ 1000) (hok : ∀ e ∈ es, e.Ok B) : runD L D_edited [.lst (ts.map .str), .lst (es.map vEd)] = .ok (.lst ((edL ts es).map .str)) fresh := edited_any (fun _ => rfl) hl hn hB hok
theorem edited_tup {L : Lm} {ts : List Tx} {es : List Ed} {B : Nat} (hl : ts.length = es.length) (hn : ts.length ≤ 1000) (hB : B ≤ 1000) (hok : ∀ e ∈ es, e.Ok B) : runD L D_edited [vTs ts, .lst (es.map vEd)] = .ok (.lst ((edL ts es).map .str)) fresh := edited_any (fun _ => rfl) hl hn hB hok
theorem edited2_ok {L : Lm} {ts : List Tx} {es : List Ed} {B : Nat} (hl : ts.length = es.length) (hn : ts.length ≤ 1000) (hB : B ≤ 1000) (hok : ∀ e ∈ es, e.Ok B) : runD L D__law_edited [.lst (ts.map .str), .lst (es.map vEd)] = .ok (.lst ((edL ts es).map .str)) fresh := by
  refine runD_of (fun v s => ∃ p, v = .ref p ∧ s[p]? = some (some (.lst ((edL ts es).map .str)))) [some (.lst (ts.map .str)), some (.lst (es.map vEd)), none, none] rfl rfl (fun v s ⟨p, h1, h2⟩ => ?_) fun Q hr => ?_
  · subst h1
    exact ret_lst h2 (frees_map fun _ => rfl)
  simp -implicitDefEqProofs [D__law_edited, S__law_edited, mVar, mkL, sizeLine, rng1 (rep_lt (show ts.length < 2000 by omega))]
  refine wp_for (fun k env st => ∃ x3 p, env = [some (.lst (ts.map .str)), some (.lst (es.map vEd)), some (.ref p), x3] ∧ st[p]? = some (some (.lst ((((ts.zip es).take k).flatMap piece).map .str)))) ?_ ?_ ?_
  · exact ⟨_, _, rfl, rfl⟩
  · rintro k w env st Qb hw ⟨x3, p, rfl, hp⟩ hnx _ _ _
    obtain ⟨hk, rfl⟩ := rints_get hw
    obtain ⟨t, ht⟩ : ∃ t, ts[k]? = some t := ⟨_, List.getElem?_eq_getElem (by omega)⟩
    obtain ⟨e, he⟩ : ∃ e, es[k]? = some e := ⟨_, List.getElem?_eq_getElem (by omega)⟩
    have hm : e ∈ es := List.mem_of_getElem? he
    have hlen : (((ts.zip es).take k).flatMap piece).length ≤ 2001 * k := by
      refine Nat.le_trans (flat_len piece 2001 fun p hp => ?_) ?_
      · have : p.2 ∈ es := (List.of_mem_zip (List.mem_of_mem_take hp)).2
        have o := hok _ this
        have := mid_len p.1 p.2.c
        have := o.a
        have := o.b
        simp only [piece, List.length_append]
        omega
      · exact Nat.mul_le_mul_left _ (by simp; omega)
    have hq := take_flat piece (zip_at ht he)
    refine ⟨rfl, _, rfl, ?_⟩
    generalize ((ts.zip es).take k).flatMap piece = M at hlen hq hp
    obtain ⟨ha, hb, hc⟩ := hok e hm
    have hix : ∀ st, ixV (.lst (es.map vEd)) (.int (k : Nat)) st = .ok (.tup [vTs e.a, vTs e.c, vTs e.b]) st := fun st => ixV_int rfl (by rw [List.getElem?_map, he]; rfl)
    have hit : ∀ st, ixV (.lst (ts.map .str)) (.int (k : Nat)) st = .ok (.str t) st := fun st => ixV_int rfl (by rw [List.getElem?_map, ht]; rfl)
    have h1 : M.length + e.a.length ≤ 16777216 := by omega
    have h2 : e.a.length ≤ 16777216 := by omega
    have h3 : e.b.length ≤ 16777216 := by omega
    simp -implicitDefEqProofs [mVar, hix, vTs, listV, mkL, sizeLine, h2, addV_rl hp, h1]
    refine wp_cut (fun ev s => s[st.length]? = some (some (.lst ((M ++ e.a ++ (if e.c = [keepT] then [t] else [])).map .str))) ∧ ev = [some (.lst (ts.map .str)), some (.lst (es.map vEd)), some (.ref st.length), some (.int (k : Nat))]) (fun R h _ _ _ => ?_) ?_
    · have hpn : (st ++ [some (Ob.lst (M.map .str ++ e.a.map .str))])[st.length]? = some (some (.lst (M.map .str ++ e.a.map .str))) := by simp
      rcases hc with hc | hc | ⟨u, hc⟩
      · simp -implicitDefEqProofs [hix, vTs, hc, keepT, mVar, hit, tyB_ref hpn]
        rw [append_ok hpn (by simp [sizeLine]; omega)]
        simp -implicitDefEqProofs
        exact h _ _ ⟨by simp [hc], rfl⟩
      · simp -implicitDefEqProofs [hix, vTs, hc, dropT, mVar, hit]
        exact h _ _ ⟨by simp [hc, dropT, keepT], rfl⟩
      · simp -implicitDefEqProofs [hix, vTs, hc, textT, mVar, hit]
        exact h _ _ ⟨by simp [hc, textT, keepT], rfl⟩
    rintro ev s ⟨hs, rfl⟩
    simp -implicitDefEqProofs [mVar, hix]
    refine wp_cut (fun ev s => s[st.length]? = some (some (.lst ((M ++ e.a ++ mid t e.c).map .str))) ∧ ev = [some (.lst (ts.map .str)), some (.lst (es.map vEd)), some (.ref st.length), some (.int (k : Nat))]) (fun R h _ _ _ => ?_) ?_
    · rcases hc with hc | hc | ⟨u, hc⟩
      · simp -implicitDefEqProofs [vTs, hc, keepT]
        exact h _ _ ⟨by rw [hs]; simp [mid, hc], rfl⟩
      · simp -implicitDefEqProofs [vTs, hc, dropT]
        exact h _ _ ⟨by rw [hs]; simp [mid, hc, dropT, keepT], rfl⟩
      · have hs2 : s[st.length]? = some (some (.lst ((M ++ e.a).map .str))) := by rw [hs]; simp [hc, textT, keepT]
        simp -implicitDefEqProofs [hix, vTs, hc, textT, mVar, tyB_ref hs2]
        rw [append_ok hs2 (by simp [sizeLine]; omega)]
        simp -implicitDefEqProofs
        have hlt : st.length < s.length := (List.getElem?_eq_some_iff.mp hs2).1
        exact h _ _ ⟨by simp [hlt, mid, hc, textT, keepT], rfl⟩
    rintro ev s ⟨hs, rfl⟩
    have := mid_len t e.c
    have h5 : (M ++ e.a ++ mid t e.c).length + e.b.length ≤ 16777216 := by simp; omega
    simp -implicitDefEqProofs [mVar, hix, vTs, listV, mkL, sizeLine, h3]
    rw [addV_rl hs, mkL_ref (by simp [sizeLine]; omega)]
    simp -implicitDefEqProofs
    refine hnx _ _ ⟨_, _, rfl, ?_⟩
    rw [hq]
    simp [piece]
  · rintro env st ⟨x3, p, rfl, hp⟩
    refine ⟨rfl, ?_⟩
    simp -implicitDefEqProofs [mVar]
    refine hr _ _ ⟨p, rfl, ?_⟩
    rw [hp, List.take_of_length_le (by simp; omega)]
    rfl
def keepE : Ed := ⟨[], [keepT], []⟩
theorem keepE_ok {B : Nat} : keepE.Ok B := ⟨Nat.zero_le _, Nat.zero_le _, .inl rfl⟩
theorem untouched_ok {L : Lm} (hg : L.gl "KEEP" = some (vTs [keepT])) {n : Nat} (hn : n < 2000) : runD L D_untouched [.int n] = .ok (.lst ((List.replicate n keepE).map vEd)) [] := by
  refine runD_of (fun v s => v = .lst ((List.replicate n keepE).map vEd)) [some (.int n), none] rfl rfl (fun v s h1 => ?_) fun Q hr => ?_
  · subst h1
    exact ret_free (by rw [free_lst]; exact frees_map free_vEd)
  simp -implicitDefEqProofs [D_untouched, S_untouched, hg]
  rw [mLc_rng (env1 := [some (.int n), none]) n (fun _ => vEd keepE) ?_ rfl ?_]
  · rw [mkL_val (by simp [sizeLine]; omega)]
    simp -implicitDefEqProofs
    refine hr _ _ ?_
    rw [List.map_replicate]
    congr 1
    apply List.ext_getElem <;> simp
  · simp -implicitDefEqProofs [mVar, rng1 (rep_lt hn)]
  · intro i hi
    refine ⟨_, rfl, rfl, ?_⟩
    simp -implicitDefEqProofs [mkT, sizeLine, vEd, vTs, keepE]
theorem touched_ok {L : Lm} (hg : L.gl "KEEP" = some (vTs [keepT])) (e : Ed) : runD L D_is_touched [vEd e] = .ok (.bl (!eqd (vEd e) (vEd keepE))) [] := by
  refine runD_of (fun v s => v = .bl (!eqd (vEd e) (vEd keepE))) [some (vEd e)] rfl rfl (fun v s h1 => ?_) fun Q hr => ?_
  · subst h1
    exact ret_free rfl
  simp -implicitDefEqProofs [D_is_touched, S_is_touched, hg, mVar, mkT, sizeLine]
  rw [show Va.tup [.tup [], vTs [keepT], .tup []] = vEd keepE from rfl, eqV_dat (dat_vEd _ _) (dat_vEd _ _)]
  simp -implicitDefEqProofs
  exact hr _ _ rfl
end C

set_option Elab.async false
set_option linter.all false
set_option maxRecDepth 100000
set_option maxHeartbeats 4000000
/-! documents, sections; the defs over them that many laws share -/
namespace D
open PySem PySem.Spec PyProof.Rows L2 G C
def S_sections : S :=
  (.seq (.set (.inl 1) (.lst true .nil))
  (.seq (.sfor (.inr [2, 3]) (.ienum (.cons (.var 0) .nil))
  (.seq (.sif (.cmp .eq (.ix (.var 3) (.int 0)) (.str [104, 101, 97, 100]))
  (.seq (.expr (.mth .append (.var 1) (.cons (.tup (.cons (.ix (.var 3) (.int 1)) (.cons (.var 2) (.cons (.bin .add false (.var 2) (.int 1)) .nil)))) .nil)))
  .nil)
  (.seq (.sif (.cmp .ne (.ix (.var 3) (.int 0)) (.str [112, 114, 111, 115, 101]))
  (.seq (.set (.inr [4, 5, 6]) (.ix (.var 1) (.neg (.int 1))))
  (.seq (.setIx (.var 1) (.neg (.int 1)) (.tup (.cons (.var 4) (.cons (.var 5) (.cons (.bin .add false (.var 2) (.int 1)) .nil)))))
  .nil))
  .nil)
  .nil))
  .nil))
  (.seq (.ret (.var 1))
  .nil)))
def D_sections : Df := ⟨["document", "found", "at", "line", "name", "head", "end"], 1, S_sections⟩
def S_piece_names : S :=
  (.seq (.set (.inl 1) (.lst true .nil))
  (.seq (.sfor (.inr [2, 3, 4]) (.call "sections" false (.cons (.var 0) .nil))
  (.seq (.sif (.cmp .notIn (.var 2) (.var 1))
  (.seq (.expr (.mth .append (.var 1) (.cons (.var 2) .nil)))
  .nil)
  .nil)
  .nil))
  (.seq (.ret (.var 1))
  .nil)))
def D_piece_names : Df := ⟨["document", "names", "name", "head", "end"], 1, S_piece_names⟩
def S_piece_lines : S :=
  (.seq (.set (.inl 2) (.lst true .nil))
  (.seq (.sfor (.inr [3, 4, 5]) (.call "sections" false (.cons (.var 0) .nil))
  (.seq (.sif (.cmp .eq (.var 3) (.var 1))
  (.seq (.expr (.mth .extend (.var 2) (.cons (.lrng false (.bin .add false (.var 4) (.int 1)) (.var 5)) .nil)))
  .nil)
  .nil)
  .nil))
  (.seq (.ret (.var 2))
  .nil)))
def D_piece_lines : Df := ⟨["document", "name", "lines", "other", "head", "end"], 2, S_piece_lines⟩
def S_uses_of : S :=
  (.seq (.ret (.lc false [2] (.inl 2) (.call "piece_lines" false (.cons (.var 0) (.cons (.var 1) .nil))) (.cmp .eq (.ix (.ix (.var 0) (.var 2)) (.int 0)) (.str [117, 115, 101])) (.tup (.cons (.var 2) (.cons (.ix (.ix (.var 0) (.var 2)) (.int 2)) .nil)))))
  .nil)
def D_uses_of : Df := ⟨["document", "name", "at"], 2, S_uses_of⟩
def S_users_of : S :=
  (.seq (.ret (.lc false [2, 3] (.inr [2, 3]) (.ienum (.cons (.var 0) .nil)) (.and (.cons (.cmp .eq (.ix (.var 3) (.int 0)) (.str [117, 115, 101])) (.cons (.cmp .eq (.ix (.var 3) (.int 2)) (.var 1)) .nil))) (.var 2)))
  .nil)
def D_users_of : Df := ⟨["document", "name", "at", "line"], 2, S_users_of⟩
inductive Ln where
  | pr (t : Tx)
  | hd (n : Tx)
  | us (i : Int) (n : Tx)
  | co (t : Tx)
def proseT : Tx := [112, 114, 111, 115, 101]
def headT : Tx := [104, 101, 97, 100]
def useT : Tx := [117, 115, 101]
def codeT : Tx := [99, 111, 100, 101]
def vLn : Ln → Va
  | .pr t => .tup [.str proseT, .str t]
  | .hd n => .tup [.str headT, .str n]
  | .us i n => .tup [.str useT, .int i, .str n]
  | .co t => .tup [.str codeT, .str t]
def Ln.isH : Ln → Bool
  | .hd _ => true
  | _ => false
def Ln.isP : Ln → Bool
  | .pr _ => true
  | _ => false
/-- code or a reference -/
def Ln.isI : Ln → Bool
  | .us _ _ => true
  | .co _ => true
  | _ => false
theorem free_vLn (l : Ln) : free (vLn l) = true := by cases l <;> rfl
theorem dat_vLn (l : Ln) (n : Nat) : dat (n + 1) (vLn l) = true := by cases l <;> simp [vLn]
/-- a document: first a head, code behind code or heads -/
structure Doc (d : List Ln) : Prop where
  h0 : ∃ n, d[0]? = some (.hd n)
  hI : ∀ (k : Nat) (x y : Ln), d[k]? = some x → d[k + 1]? = some y → y.isI = true → x.isP = false
abbrev Sec := Tx × Nat × Nat
def vSec (s : Sec) : Va := .tup [.str s.1, .int (s.2.1 : Nat), .int (s.2.2 : Nat)]
theorem free_vSec (s : Sec) : free (vSec s) = true := rfl
theorem dat_vSec (s : Sec) (n : Nat) : dat (n + 1) (vSec s) = true := by simp [vSec]
def stepS (acc : List Sec) (k : Nat) : Ln → List Sec
  | .hd n => acc ++ [(n, k, k + 1)]
  | .pr _ => acc
  | _ => match acc.getLast? with
    | some s => acc.dropLast ++ [(s.1, s.2.1, k + 1)]
    | none => acc
def secsK (d : List Ln) : Nat → List Sec
  | 0 => []
  | k + 1 => match d[k]? with
    | some l => stepS (secsK d k) k l
    | none => secsK d k
def secs (d : List Ln) : List Sec := secsK d d.length
theorem stepS_ne {acc : List Sec} {k : Nat} {l : Ln} (h : acc ≠ [] ∨ l.isH = true) : stepS acc k l ≠ [] := by
  rcases h with h | h
  · cases l with
    | hd n => simp [stepS]
    | pr t => exact h
    | us i n =>
      obtain ⟨s, e⟩ : ∃ s, acc.getLast? = some s := by
        cases e : acc.getLast? with
        | none => exact absurd (List.getLast?_eq_none_iff.mp e) h
        | some s => exact ⟨s, rfl⟩
      simp [stepS, e]
    | co t =>
      obtain ⟨s, e⟩ : ∃ s, acc.getLast? = some s := by
        cases e : acc.getLast? with
        | none => exact absurd (List.getLast?_eq_none_iff.mp e) h
        | some s => exact ⟨s, rfl⟩
      simp [stepS, e]
  · cases l <;> simp [Ln.isH, stepS] at h ⊢
theorem secsK_ne {d : List Ln} (hd : Doc d) : ∀ k, 0 < k → secsK d k ≠ []
  | 0, h => by omega
  | 1, _ => by
    obtain ⟨n, e⟩ := hd.h0
    simp [secsK, e, stepS]
  | k + 2, _ => by
    have ih := secsK_ne hd (k + 1) (by omega)
    rw [secsK]
    cases e : d[k + 1]? with
    | none => exact ih
    | some l => exact stepS_ne (.inl ih)
theorem stepS_len {acc : List Sec} {k : Nat} {l : Ln} : (stepS acc k l).length ≤ acc.length + 1 := by
  cases l with
  | hd n => simp [stepS]
  | pr t => simp [stepS]
  | us i n =>
    cases e : acc.getLast? with
    | none => simp [stepS, e]
    | some s => simp [stepS, e]
  | co t =>
    cases e : acc.getLast? with
    | none => simp [stepS, e]
    | some s => simp [stepS, e]
theorem secsK_len {d : List Ln} : ∀ k, (secsK d k).length ≤ k
  | 0 => by simp [secsK]
  | k + 1 => by
    have ih := secsK_len (d := d) k
    rw [secsK]
    cases e : d[k]? with
    | none => simp only; omega
    | some l =>
      have := stepS_len (acc := secsK d k) (k := k) (l := l)
      simp only
      omega
theorem ix_last {x : Va} {l : List Va} {w : Va} {st : Sto} (hs : seqOf x st = some (l ++ [w])) : ixV x (.int (-1)) st = .ok w st := by
  have h1 : dicOf x st = none ∧ G.strOf x = none := by
    cases x <;> simp [seqOf, lstOf, dicOf, G.strOf] at hs ⊢
    split at hs <;> simp_all
  unfold ixV
  rw [h1.1]
  have h2 : atI (l ++ [w]) (-1) = some w := by
    unfold atI ixN
    rw [if_neg (by decide), if_pos (by simp; omega)]
    have : ((-1 : Int) + ((l ++ [w]).length : Nat)).toNat = l.length := by simp; omega
    rw [this]
    simp
  simp only [intOf_int, h1.2, hs, h2]
theorem set_last {p : Nat} {l : List Va} {w v : Va} {st : Sto} (h : st[p]? = some (some (.lst (l ++ [w])))) : setV (.ref p) (.int (-1)) v st = some (st.set p (some (.lst (l ++ [v])))) := by
  have h2 : ixN (l ++ [w]).length (-1) = some l.length := by
    unfold ixN
    rw [if_neg (by decide), if_pos (by simp; omega)]
    congr 1
    simp
    omega
  unfold setV
  simp only [h, intOf_int, h2]
  congr 4
  simp
theorem sections_ok {L : Lm} {d : List Ln} (hd : Doc d) (hl : d.length ≤ 1000) : runD L D_sections [.tup (d.map vLn)] = .ok (.lst ((secs d).map vSec)) fresh := by
  refine runD_of (fun v s => v = .ref 0 ∧ s = [some (.lst ((secs d).map vSec))]) [some (.tup (d.map vLn)), none, none, none, none, none, none] rfl rfl (fun v s ⟨h1, h2⟩ => ?_) fun Q hr => ?_
  · subst h1 h2
    exact ret_lst rfl (frees_map free_vSec)
  simp -implicitDefEqProofs [D_sections, S_sections, mVar, mkL, sizeLine]
  refine wp_for (fun k env st => ∃ x2 x3 x4 x5 x6, env = [some (.tup (d.map vLn)), some (.ref 0), x2, x3, x4, x5, x6] ∧ st = [some (.lst ((secsK d k).map vSec))]) ?_ ?_ ?_
  · exact ⟨_, _, _, _, _, rfl, rfl⟩
  · rintro k w env st Qb hw ⟨x2, x3, x4, x5, x6, rfl, rfl⟩ hnx _ _ _
    obtain ⟨y, hy, rfl⟩ := numbered_at hw
    rw [List.getElem?_map] at hy
    obtain ⟨t, ht, rfl⟩ := Option.map_eq_some_iff.mp hy
    have hk : k < d.length := (List.getElem?_eq_some_iff.mp ht).1
    have hlen := secsK_len (d := d) k
    have hq : secsK d (k + 1) = stepS (secsK d k) k t := by rw [secsK, ht]
    have hne := secsK_ne hd k
    refine ⟨rfl, _, rfl, ?_⟩
    rw [hq] at hnx
    have h0 : t.isI = true → 0 < k := fun hi => by
      rcases Nat.eq_zero_or_pos k with e | e
      · subst e
        obtain ⟨n, e⟩ := hd.h0
        rw [e] at ht
        cases ht
        simp [Ln.isI] at hi
      · exact e
    generalize secsK d k = M at hlen hnx hne
    have item : t.isI = true → ∃ M' s, M = M' ++ [s] ∧ stepS M k t = M' ++ [(s.1, s.2.1, k + 1)] := fun hi => by
      have hn := hne (h0 hi)
      obtain ⟨M', s, rfl⟩ : ∃ M' s, M = M' ++ [s] := ⟨_, _, (List.dropLast_concat_getLast hn).symm⟩
      refine ⟨M', s, rfl, ?_⟩
      cases t <;> simp [Ln.isI] at hi <;> simp [stepS]
    cases t with
    | hd n =>
      simp -implicitDefEqProofs [mVar, vLn, headT, mkT, sizeLine, tyB, lstOf]
      rw [append0 (by simp [sizeLine]; omega)]
      simp -implicitDefEqProofs
      exact hnx _ _ ⟨_, _, _, _, _, rfl, by simp [stepS, vSec]⟩
    | pr n =>
      simp -implicitDefEqProofs [mVar, vLn, proseT]
      exact hnx _ _ ⟨_, _, _, _, _, rfl, by simp [stepS]⟩
    | us i n =>
      obtain ⟨M', s, rfl, e⟩ := item rfl
      have hi : ∀ st : Sto, st[0]? = some (some (.lst (M'.map vSec ++ [vSec s]))) → ixV (.ref 0) (.int (-1)) st = .ok (vSec s) st := fun st h => ix_last (l := M'.map vSec) (seqOf_ref h)
      simp -implicitDefEqProofs [mVar, vLn, useT]
      rw [hi _ rfl]
      simp -implicitDefEqProofs [mVar, vSec, mkT, sizeLine, mSetIx]
      rw [set_last (l := M'.map vSec) (w := vSec s) rfl]
      simp -implicitDefEqProofs
      exact hnx _ _ ⟨_, _, _, _, _, rfl, by rw [e]; simp [vSec]⟩
    | co n =>
      obtain ⟨M', s, rfl, e⟩ := item rfl
      have hi : ∀ st : Sto, st[0]? = some (some (.lst (M'.map vSec ++ [vSec s]))) → ixV (.ref 0) (.int (-1)) st = .ok (vSec s) st := fun st h => ix_last (l := M'.map vSec) (seqOf_ref h)
      simp -implicitDefEqProofs [mVar, vLn, codeT]
      rw [hi _ rfl]
      simp -implicitDefEqProofs [mVar, vSec, mkT, sizeLine, mSetIx]
      rw [set_last (l := M'.map vSec) (w := vSec s) rfl]
      simp -implicitDefEqProofs
      exact hnx _ _ ⟨_, _, _, _, _, rfl, by rw [e]; simp [vSec]⟩
  · rintro env st ⟨x3, x4, x5, x6, x7, rfl, rfl⟩
    refine ⟨rfl, ?_⟩
    simp -implicitDefEqProofs [mVar]
    exact hr _ _ ⟨rfl, rfl⟩
end D

set_option Elab.async false
set_option linter.all false
set_option maxRecDepth 100000
set_option maxHeartbeats 4000000
/-! edits one after the other: the plain law -/
namespace C
open PySem PySem.Spec PyProof.Rows L2 G
/-- how many texts an edit leaves -/
def outL (e : Ed) : Nat := e.a.length + (if e.c = [dropT] then 0 else 1) + e.b.length
def outs (es : List Ed) : Nat := (es.map outL).sum
@[simp] theorem outs_nil : outs [] = 0 := rfl
@[simp] theorem outs_cons (e : Ed) (es : List Ed) : outs (e :: es) = outL e + outs es := by simp [outs]
@[simp] theorem outs_app (a b : List Ed) : outs (a ++ b) = outs a + outs b := by simp [outs]
@[simp] theorem edL_nil (es : List Ed) : edL [] es = [] := by simp [edL]
@[simp] theorem edL_cons (t : Tx) (ts : List Tx) (e : Ed) (es : List Ed) : edL (t :: ts) (e :: es) = piece (t, e) ++ edL ts es := by simp [edL]
theorem edL_app : ∀ {xs : List Tx} {es : List Ed} {ys : List Tx} {fs : List Ed}, xs.length = es.length → edL (xs ++ ys) (es ++ fs) = edL xs es ++ edL ys fs
  | [], [], _, _, _ => by simp
  | [], _ :: _, _, _, h => by simp at h
  | _ :: _, [], _, _, h => by simp at h
  | x :: xs, e :: es, ys, fs, h => by
    simp only [List.cons_append, edL_cons, List.append_assoc]
    rw [edL_app (by simpa using h)]
theorem kd : ([keepT] : List Tx) ≠ [dropT] := by decide
theorem td (t : Tx) : [textT, t] ≠ [dropT] := by simp
theorem tk (t : Tx) : [textT, t] ≠ [keepT] := by simp
theorem mid_keep (t : Tx) : mid t [keepT] = [t] := by simp [mid]
theorem mid_drop (t : Tx) : mid t [dropT] = [] := by simp [mid, kd.symm]
theorem mid_text (t u : Tx) : mid t [textT, u] = [u] := by simp [mid]
theorem mid_one {t : Tx} {c : List Tx} (h : Ch c) (hd : c ≠ [dropT]) : ∃ u, mid t c = [u] := by
  rcases h with rfl | rfl | ⟨u, rfl⟩
  · exact ⟨_, mid_keep t⟩
  · exact absurd rfl hd
  · exact ⟨_, mid_text t u⟩
theorem piece_len {t : Tx} {e : Ed} (h : Ch e.c) : (piece (t, e)).length = outL e := by
  unfold piece outL
  simp only [List.length_append]
  by_cases hd : e.c = [dropT]
  · rw [if_pos hd, hd, mid_drop]
    simp
  · obtain ⟨u, hu⟩ := mid_one (t := t) h hd
    rw [if_neg hd, hu]
    simp
theorem edL_len : ∀ {ts : List Tx} {es : List Ed}, ts.length = es.length → (∀ e ∈ es, Ch e.c) → (edL ts es).length = outs es
  | [], [], _, _ => by simp
  | [], _ :: _, h, _ => by simp at h
  | _ :: _, [], h, _ => by simp at h
  | t :: ts, e :: es, h, hc => by
    rw [edL_cons, List.length_append, piece_len (hc e List.mem_cons_self), edL_len (by simpa using h) fun x hx => hc x (List.mem_cons_of_mem _ hx), outs_cons]
/-- a change, then another -/
def ccL (c1 c2 : List Tx) : List Tx := if c2 = [keepT] then c1 else c2
theorem ccL_ch {c1 c2 : List Tx} (h1 : Ch c1) (h2 : Ch c2) : Ch (ccL c1 c2) := by
  unfold ccL
  split
  · exact h1
  · exact h2
theorem ccL_mid {t u : Tx} {c1 c2 : List Tx} (h2 : Ch c2) (hu : mid t c1 = [u]) : mid t (ccL c1 c2) = mid u c2 := by
  unfold ccL
  rcases h2 with rfl | rfl | ⟨v, rfl⟩
  · rw [if_pos rfl, hu, mid_keep]
  · rw [if_neg kd.symm, mid_drop, mid_drop]
  · rw [if_neg (tk v), mid_text, mid_text]
theorem ccL_assoc (c1 c2 c3 : List Tx) : ccL (ccL c1 c2) c3 = ccL c1 (ccL c2 c3) := by
  unfold ccL
  by_cases h : c3 = [keepT]
  · rw [if_pos h, if_pos h]
  · rw [if_neg h, if_neg h, if_neg h]
theorem ccL_drop {c1 c2 : List Tx} (h1 : c1 ≠ [dropT]) : ccL c1 c2 = [dropT] ↔ c2 = [dropT] := by
  unfold ccL
  split
  · rename_i h
    rw [h]
    exact ⟨fun z => absurd z h1, fun z => absurd z kd⟩
  · rfl
/-- an edit, and edits of what it leaves -/
def comp1 (e : Ed) (s : List Ed) : Ed := if e.c = [dropT] then ⟨edL e.a (s.take e.a.length), e.c, edL e.b (s.drop e.a.length)⟩ else
  match s.drop e.a.length with
  | o :: sb => ⟨edL e.a (s.take e.a.length) ++ o.a, ccL e.c o.c, o.b ++ edL e.b sb⟩
  | [] => e
def comp : List Ed → List Ed → List Ed
  | [], _ => []
  | e :: r, s => comp1 e (s.take (outL e)) :: comp r (s.drop (outL e))
@[simp] theorem comp_len : ∀ (es s : List Ed), (comp es s).length = es.length
  | [], _ => rfl
  | e :: r, s => by simp [comp, comp_len r]
/-- the parts of what an edit leaves -/
theorem parts {e : Ed} {s : List Ed} (h : s.length = outL e) : (e.c = [dropT] ∧ ∃ sa sb, s = sa ++ sb ∧ sa.length = e.a.length ∧ sb.length = e.b.length) ∨ (e.c ≠ [dropT] ∧ ∃ sa o sb, s = sa ++ o :: sb ∧ sa.length = e.a.length ∧ sb.length = e.b.length) := by
  unfold outL at h
  by_cases hd : e.c = [dropT]
  · rw [if_pos hd] at h
    exact .inl ⟨hd, s.take e.a.length, s.drop e.a.length, (List.take_append_drop _ _).symm, by simp; omega, by simp; omega⟩
  · rw [if_neg hd] at h
    refine .inr ⟨hd, ?_⟩
    cases q : s.drop e.a.length with
    | nil =>
      have := congrArg List.length q
      simp at this
      omega
    | cons o sb =>
      have hl := congrArg List.length q
      simp at hl
      exact ⟨s.take e.a.length, o, sb, by rw [← q, List.take_append_drop], by simp; omega, by omega⟩
theorem comp1_drop {e : Ed} {sa sb : List Ed} (hd : e.c = [dropT]) (ha : sa.length = e.a.length) : comp1 e (sa ++ sb) = ⟨edL e.a sa, e.c, edL e.b sb⟩ := by
  unfold comp1
  rw [if_pos hd, ← ha]
  simp
theorem comp1_keep {e o : Ed} {sa sb : List Ed} (hd : e.c ≠ [dropT]) (ha : sa.length = e.a.length) : comp1 e (sa ++ o :: sb) = ⟨edL e.a sa ++ o.a, ccL e.c o.c, o.b ++ edL e.b sb⟩ := by
  unfold comp1
  rw [if_neg hd, ← ha]
  simp
theorem comp1_piece {e : Ed} {s : List Ed} {t : Tx} (h : s.length = outL e) (hc : Ch e.c) (hs : ∀ x ∈ s, Ch x.c) : piece (t, comp1 e s) = edL (piece (t, e)) s := by
  rcases parts h with ⟨hd, sa, sb, rfl, h1, h2⟩ | ⟨hd, sa, o, sb, rfl, h1, h2⟩
  · rw [comp1_drop hd h1]
    simp only [piece, hd, mid_drop, List.append_nil]
    rw [edL_app h1.symm]
  · rw [comp1_keep hd h1]
    obtain ⟨u, hu⟩ := mid_one (t := t) hc hd
    simp only [piece, hu, ccL_mid (hs o (by simp)) hu, List.append_assoc]
    rw [edL_app h1.symm, List.singleton_append, edL_cons]
    simp [piece]
theorem comp_edL : ∀ {ts : List Tx} {es s : List Ed}, ts.length = es.length → s.length = outs es → (∀ x ∈ es, Ch x.c) → (∀ x ∈ s, Ch x.c) → edL ts (comp es s) = edL (edL ts es) s
  | [], [], s, _, _, _, _ => by simp [comp]
  | [], _ :: _, _, h, _, _, _ => by simp at h
  | _ :: _, [], _, h, _, _, _ => by simp at h
  | t :: ts, e :: es, s, h, hl, hc, hs => by
    rw [outs_cons] at hl
    have c1 := hc e List.mem_cons_self
    have hl1 : (s.take (outL e)).length = outL e := by simp; omega
    have hl2 : (s.drop (outL e)).length = outs es := by simp; omega
    rw [comp, edL_cons, edL_cons, comp1_piece hl1 c1 fun x hx => hs x (List.mem_of_mem_take hx), comp_edL (by simpa using h) hl2 (fun x hx => hc x (List.mem_cons_of_mem _ hx)) fun x hx => hs x (List.mem_of_mem_drop hx)]
    conv => rhs; rw [← List.take_append_drop (outL e) s]
    rw [edL_app (by rw [piece_len c1, hl1])]
theorem comp1_ch {e : Ed} {s : List Ed} (h : s.length = outL e) (hc : Ch e.c) (hs : ∀ x ∈ s, Ch x.c) : Ch (comp1 e s).c := by
  rcases parts h with ⟨hd, sa, sb, rfl, h1, h2⟩ | ⟨hd, sa, o, sb, rfl, h1, h2⟩
  · rw [comp1_drop hd h1]; exact hc
  · rw [comp1_keep hd h1]; exact ccL_ch hc (hs o (by simp))
theorem comp1_out {e : Ed} {s : List Ed} (h : s.length = outL e) (hc : Ch e.c) (hs : ∀ x ∈ s, Ch x.c) : outL (comp1 e s) = outs s := by
  rw [← piece_len (t := []) (comp1_ch h hc hs), comp1_piece h hc hs, edL_len (by rw [piece_len hc, h]) hs]
theorem comp_ch : ∀ {es s : List Ed}, s.length = outs es → (∀ x ∈ es, Ch x.c) → (∀ x ∈ s, Ch x.c) → ∀ x ∈ comp es s, Ch x.c
  | [], s, _, _, _, x, hx => by cases hx
  | e :: es, s, hl, hc, hs, x, hx => by
    rw [outs_cons] at hl
    rcases List.mem_cons.mp hx with rfl | hx
    · exact comp1_ch (by simp; omega) (hc e List.mem_cons_self) fun y hy => hs y (List.mem_of_mem_take hy)
    · exact comp_ch (by simp; omega) (fun y hy => hc y (List.mem_cons_of_mem _ hy)) (fun y hy => hs y (List.mem_of_mem_drop hy)) x hx
theorem comp_out : ∀ {es s : List Ed}, s.length = outs es → (∀ x ∈ es, Ch x.c) → (∀ x ∈ s, Ch x.c) → outs (comp es s) = outs s
  | [], s, hl, _, _ => by
    have : s = [] := List.eq_nil_of_length_eq_zero hl
    rw [this]; rfl
  | e :: es, s, hl, hc, hs => by
    rw [outs_cons] at hl
    rw [comp, outs_cons, comp1_out (by simp; omega) (hc e List.mem_cons_self) (fun y hy => hs y (List.mem_of_mem_take hy)), comp_out (by simp; omega) (fun y hy => hc y (List.mem_cons_of_mem _ hy)) (fun y hy => hs y (List.mem_of_mem_drop hy)), ← outs_app, List.take_append_drop]
theorem comp_app : ∀ {a b s : List Ed}, comp (a ++ b) s = comp a (s.take (outs a)) ++ comp b (s.drop (outs a))
  | [], b, s => by simp [comp]
  | e :: a, b, s => by
    simp only [List.cons_append, comp, outs_cons]
    rw [comp_app (a := a) (b := b), List.take_take, Nat.min_eq_left (by omega), List.drop_take, List.drop_drop]
    rw [show outL e + outs a - outL e = outs a by omega]
theorem split3 {t : List Ed} {n m : Nat} (h : t.length = n + m) : ∃ u v, t = u ++ v ∧ u.length = n ∧ v.length = m := ⟨t.take n, t.drop n, (List.take_append_drop _ _).symm, by simp; omega, by simp; omega⟩
theorem comp_two {a b u v : List Ed} (h : u.length = outs a) : comp (a ++ b) (u ++ v) = comp a u ++ comp b v := by
  rw [comp_app, ← h]
  simp
theorem comp1_assoc {e : Ed} {s t : List Ed} (h : s.length = outL e) (hl : t.length = outs s) (hc : Ch e.c) (hs : ∀ x ∈ s, Ch x.c) (ht : ∀ x ∈ t, Ch x.c) : comp1 (comp1 e s) t = comp1 e (comp s t) := by
  rcases parts h with ⟨hd, sa, sb, rfl, h1, h2⟩ | ⟨hd, sa, o, sb, rfl, h1, h2⟩
  · rw [outs_app] at hl
    obtain ⟨ta, tb, rfl, k1, k2⟩ := split3 hl
    have ca : ∀ x ∈ sa, Ch x.c := fun x hx => hs x (by simp [hx])
    have cb : ∀ x ∈ sb, Ch x.c := fun x hx => hs x (by simp [hx])
    have da : ∀ x ∈ ta, Ch x.c := fun x hx => ht x (by simp [hx])
    have db : ∀ x ∈ tb, Ch x.c := fun x hx => ht x (by simp [hx])
    rw [comp1_drop hd h1, comp_two k1, comp1_drop hd (by simp [h1]), comp1_drop (by simp [hd]) (by simp; rw [k1, edL_len h1.symm ca])]
    simp only
    rw [comp_edL h1.symm k1 ca da, comp_edL h2.symm k2 cb db]
  · rw [outs_app, outs_cons] at hl
    obtain ⟨ta, tr, rfl, k1, k2⟩ := split3 hl
    obtain ⟨to, tb, rfl, k3, k4⟩ := split3 k2
    have ca : ∀ x ∈ sa, Ch x.c := fun x hx => hs x (by simp [hx])
    have co : Ch o.c := hs o (by simp)
    have cb : ∀ x ∈ sb, Ch x.c := fun x hx => hs x (by simp [hx])
    have da : ∀ x ∈ ta, Ch x.c := fun x hx => ht x (by simp [hx])
    have db : ∀ x ∈ tb, Ch x.c := fun x hx => ht x (by simp [hx])
    have e1 : comp (sa ++ o :: sb) (ta ++ (to ++ tb)) = comp sa ta ++ comp1 o to :: comp sb tb := by
      rw [comp_two k1, comp, ← k3]
      simp
    rw [comp1_keep hd h1, e1, comp1_keep hd (by simp [h1])]
    rcases parts k3 with ⟨od, oa, ob, rfl, m1, m2⟩ | ⟨od, oa, p, ob, rfl, m1, m2⟩
    · have hdrop : ccL e.c o.c = [dropT] := (ccL_drop hd).mpr od
      rw [show ta ++ (oa ++ ob ++ tb) = (ta ++ oa) ++ (ob ++ tb) by simp, comp1_drop (by exact hdrop) (by simp; rw [k1, m1, edL_len h1.symm ca]), comp1_drop od m1]
      simp only
      rw [edL_app (by rw [edL_len h1.symm ca, k1]), edL_app m2.symm, comp_edL h1.symm k1 ca da, comp_edL h2.symm k4 cb db, hdrop]
    · have hnd : ccL e.c o.c ≠ [dropT] := fun z => od ((ccL_drop hd).mp z)
      rw [show ta ++ (oa ++ p :: ob ++ tb) = (ta ++ oa) ++ p :: (ob ++ tb) by simp, comp1_keep (by exact hnd) (by simp; rw [k1, m1, edL_len h1.symm ca]), comp1_keep od m1]
      simp only
      rw [edL_app (by rw [edL_len h1.symm ca, k1]), edL_app m2.symm, comp_edL h1.symm k1 ca da, comp_edL h2.symm k4 cb db, ccL_assoc]
      simp
theorem comp_assoc : ∀ {es s t : List Ed}, s.length = outs es → t.length = outs s → (∀ x ∈ es, Ch x.c) → (∀ x ∈ s, Ch x.c) → (∀ x ∈ t, Ch x.c) → comp (comp es s) t = comp es (comp s t)
  | [], _, _, _, _, _, _, _ => rfl
  | e :: es, s, t, hl, hm, hc, hs, ht => by
    rw [outs_cons] at hl
    obtain ⟨s1, s2, rfl, k1, k2⟩ := split3 hl
    rw [outs_app] at hm
    obtain ⟨t1, t2, rfl, m1, m2⟩ := split3 hm
    have c1 := hc e List.mem_cons_self
    have a1 : ∀ x ∈ s1, Ch x.c := fun x hx => hs x (by simp [hx])
    have a2 : ∀ x ∈ s2, Ch x.c := fun x hx => hs x (by simp [hx])
    have b1 : ∀ x ∈ t1, Ch x.c := fun x hx => ht x (by simp [hx])
    have b2 : ∀ x ∈ t2, Ch x.c := fun x hx => ht x (by simp [hx])
    rw [comp_two m1]
    have l1 : comp (e :: es) (s1 ++ s2) = comp1 e s1 :: comp es s2 := by rw [comp, ← k1]; simp
    have l2 : comp (e :: es) (comp s1 t1 ++ comp s2 t2) = comp1 e (comp s1 t1) :: comp es (comp s2 t2) := by
      have : (comp s1 t1).length = outL e := by simp [k1]
      rw [comp, ← this]; simp
    have l3 : comp (comp1 e s1 :: comp es s2) (t1 ++ t2) = comp1 (comp1 e s1) t1 :: comp (comp es s2) t2 := by
      have : t1.length = outL (comp1 e s1) := by rw [comp1_out k1 c1 a1, m1]
      rw [comp, ← this]; simp
    rw [l1, l2, l3, comp1_assoc k1 m1 c1 a1 b1, comp_assoc k2 m2 (fun x hx => hc x (List.mem_cons_of_mem _ hx)) a2 b2]
theorem edL_keep : ∀ (ts : List Tx) (n : Nat), ts.length = n → edL ts (List.replicate n keepE) = ts
  | [], n, _ => by simp
  | t :: ts, 0, h => by simp at h
  | t :: ts, n + 1, h => by
    rw [List.replicate_succ, edL_cons, edL_keep ts n (by simpa using h)]
    simp [piece, keepE, mid]
theorem comp1_id {e : Ed} (hc : Ch e.c) : comp1 e (List.replicate (outL e) keepE) = e := by
  have ho : outL e = e.a.length + (if e.c = [dropT] then 0 else 1) + e.b.length := rfl
  by_cases hd : e.c = [dropT]
  · rw [if_pos hd, Nat.add_zero] at ho
    rw [ho, ← List.replicate_append_replicate, comp1_drop hd (by simp), edL_keep _ _ rfl, edL_keep _ _ rfl]
  · rw [if_neg hd] at ho
    rw [ho, ← List.replicate_append_replicate, ← List.replicate_append_replicate, List.replicate_succ, List.replicate_zero, List.append_assoc, List.singleton_append, comp1_keep hd (by simp), edL_keep _ _ rfl, edL_keep _ _ rfl]
    simp [keepE, ccL]
theorem comp_id : ∀ {es : List Ed}, (∀ x ∈ es, Ch x.c) → comp es (List.replicate (outs es) keepE) = es
  | [], _ => rfl
  | e :: es, hc => by
    rw [outs_cons, ← List.replicate_append_replicate, comp, show (List.replicate (outL e) keepE ++ List.replicate (outs es) keepE).take (outL e) = List.replicate (outL e) keepE by simp, show (List.replicate (outL e) keepE ++ List.replicate (outs es) keepE).drop (outL e) = List.replicate (outs es) keepE by simp, comp1_id (hc e List.mem_cons_self),
      comp_id fun x hx => hc x (List.mem_cons_of_mem _ hx)]
theorem outs_keep (n : Nat) : outs (List.replicate n keepE) = n := by
  induction n with
  | zero => rfl
  | succ n ih => rw [List.replicate_succ, outs_cons, ih, show outL keepE = 1 by decide]; omega
theorem id_comp : ∀ {es : List Ed}, comp (List.replicate es.length keepE) es = es
  | [] => rfl
  | e :: es => by
    rw [List.length_cons, List.replicate_succ, comp, show outL keepE = 1 by decide]
    simp only [List.take_succ_cons, List.take_zero, List.drop_succ_cons, List.drop_zero]
    rw [id_comp]
    congr 1
    have := comp1_keep (e := keepE) (o := e) (sa := []) (sb := []) (by decide) rfl
    rw [List.nil_append] at this
    rw [this]
    obtain ⟨a, c, b⟩ := e
    simp only [keepE, edL_nil, List.nil_append, List.append_nil, ccL]
    congr 1
    split
    · rename_i h; exact h.symm
    · rfl
theorem outL_bd {B : Nat} {e : Ed} (h : e.Ok B) : outL e ≤ 2 * B + 1 := by
  have := h.a
  have := h.b
  unfold outL
  split <;> omega
theorem outs_bd {B : Nat} : ∀ {es : List Ed}, (∀ e ∈ es, e.Ok B) → outs es ≤ es.length * (2 * B + 1)
  | [], _ => by simp
  | e :: es, h => by
    have h1 := outL_bd (h e List.mem_cons_self)
    have h2 := outs_bd fun x hx => h x (List.mem_cons_of_mem _ hx)
    rw [outs_cons, List.length_cons, Nat.add_mul]
    omega
theorem edL_bd {B : Nat} {ts : List Tx} {es : List Ed} (hl : ts.length = es.length) (h : ∀ e ∈ es, e.Ok B) : (edL ts es).length ≤ ts.length * (2 * B + 1) := by
  rw [edL_len hl fun e he => (h e he).c, hl]
  exact outs_bd h
end C

set_option Elab.async false
set_option linter.all false
set_option maxRecDepth 100000
set_option maxHeartbeats 4000000
/-! compose -/
namespace C
open PySem PySem.Spec PyProof.Rows L2 G
def S_composed_change : S :=
  (.seq (.ret (.ife (.cmp .eq (.var 1) (.glob "KEEP")) (.var 0) (.var 1)))
  .nil)
def D_composed_change : Df := ⟨["first", "second"], 2, S_composed_change⟩
def S_compose : S :=
  (.seq (.set (.inl 2) (.lst true .nil))
  (.seq (.set (.inl 3) (.int 0))
  (.seq (.sfor (.inr [4, 5, 6]) (.var 0)
  (.seq (.set (.inl 7) (.call "edited" true (.cons (.var 4) (.cons (.sl false (.var 1) (.var 3) (.bin .add false (.var 3) (.bif .len false (.cons (.var 4) .nil)))) .nil))))
  (.seq (.set (.inl 3) (.bin .add false (.var 3) (.bif .len false (.cons (.var 4) .nil))))
  (.seq (.set (.inl 8) (.lst true .nil))
  (.seq (.sif (.cmp .ne (.var 5) (.glob "DROP"))
  (.seq (.set (.inr [9, 10, 11]) (.ix (.var 1) (.var 3)))
  (.seq (.expr (.mth .extend (.var 7) (.cons (.var 9) .nil)))
  (.seq (.expr (.mth .extend (.var 8) (.cons (.var 11) .nil)))
  (.seq (.set (.inl 5) (.call "composed_change" false (.cons (.var 5) (.cons (.var 10) .nil))))
  (.seq (.set (.inl 3) (.bin .add false (.var 3) (.int 1)))
  .nil)))))
  .nil)
  (.seq (.expr (.mth .extend (.var 8) (.cons (.call "edited" false (.cons (.var 6) (.cons (.sl false (.var 1) (.var 3) (.bin .add false (.var 3) (.bif .len false (.cons (.var 6) .nil)))) .nil))) .nil)))
  (.seq (.set (.inl 3) (.bin .add false (.var 3) (.bif .len false (.cons (.var 6) .nil))))
  (.seq (.expr (.mth .append (.var 2) (.cons (.tup (.cons (.bif .tuple false (.cons (.var 7) .nil)) (.cons (.var 5) (.cons (.bif .tuple false (.cons (.var 8) .nil)) .nil)))) .nil)))
  .nil))))))))
  (.seq (.ret (.var 2))
  .nil))))
def D_compose : Df := ⟨["first", "second", "composed", "at", "ahead", "change", "behind", "put_ahead", "put_behind", "other_ahead", "other_change", "other_behind"], 2, S_compose⟩
theorem cchange_ok {L : Lm} (hg : L.gl "KEEP" = some (vTs [keepT])) (c1 c2 : List Tx) : runD L D_composed_change [vTs c1, vTs c2] = .ok (vTs (ccL c1 c2)) [] := by
  refine runD_of (fun v s => v = vTs (ccL c1 c2)) [some (vTs c1), some (vTs c2)] rfl rfl (fun v s h => by rw [h]; exact ret_free (free_vTs _)) fun Q hr => ?_
  simp -implicitDefEqProofs [D_composed_change, S_composed_change, mVar, hg, eqV_dat (dat_vTs _ _) (dat_vTs _ _), eqd_vTs]
  by_cases h : c2 = [keepT]
  · simp -implicitDefEqProofs [h, ccL]
    exact hr _ _ (by simp [ccL, h])
  · simp -implicitDefEqProofs [h]
    exact hr _ _ (by simp [ccL, h])
/-- the bounds -/
theorem comp1_ok {B B2 : Nat} {e : Ed} {s : List Ed} (h : s.length = outL e) (he : e.Ok B) (hs : ∀ x ∈ s, x.Ok B2) : (comp1 e s).Ok (B * (2 * B2 + 1) + B2) := by
  have hc := comp1_ch h he.c fun x hx => (hs x hx).c
  rcases parts h with ⟨hd, sa, sb, rfl, h1, h2⟩ | ⟨hd, sa, o, sb, rfl, h1, h2⟩
  · rw [comp1_drop hd h1] at hc ⊢
    have l1 := edL_bd h1.symm fun x hx => hs x (by simp [hx])
    have l2 := edL_bd h2.symm fun x hx => hs x (by simp [hx])
    have m1 := Nat.mul_le_mul_right (2 * B2 + 1) he.a
    have m2 := Nat.mul_le_mul_right (2 * B2 + 1) he.b
    exact ⟨by show (edL e.a sa).length ≤ _; omega, by show (edL e.b sb).length ≤ _; omega, hc⟩
  · rw [comp1_keep hd h1] at hc ⊢
    have l1 := edL_bd h1.symm fun x hx => hs x (by simp [hx])
    have l2 := edL_bd h2.symm fun x hx => hs x (by simp [hx])
    have m1 := Nat.mul_le_mul_right (2 * B2 + 1) he.a
    have m2 := Nat.mul_le_mul_right (2 * B2 + 1) he.b
    have o1 := (hs o (by simp)).a
    have o2 := (hs o (by simp)).b
    exact ⟨by show (edL e.a sa ++ o.a).length ≤ _; rw [List.length_append]; omega, by show (o.b ++ edL e.b sb).length ≤ _; rw [List.length_append]; omega, hc⟩
theorem comp_oks {B B2 : Nat} : ∀ {es s : List Ed}, s.length = outs es → (∀ x ∈ es, x.Ok B) → (∀ x ∈ s, x.Ok B2) → ∀ x ∈ comp es s, x.Ok (B * (2 * B2 + 1) + B2)
  | [], s, _, _, _, x, hx => by cases hx
  | e :: es, s, hl, hc, hs, x, hx => by
    rw [outs_cons] at hl
    rcases List.mem_cons.mp hx with rfl | hx
    · exact comp1_ok (by simp; omega) (hc e List.mem_cons_self) fun y hy => hs y (List.mem_of_mem_take hy)
    · exact comp_oks (by simp; omega) (fun y hy => hc y (List.mem_cons_of_mem _ hy)) (fun y hy => hs y (List.mem_of_mem_drop hy)) x hx
theorem comp_take {a s : List Ed} : comp a (s.take (outs a)) = comp a s := by
  have h := comp_app (a := a) (b := []) (s := s)
  rw [List.append_nil] at h
  rw [h]
  simp [comp]
theorem take_mid {α β : Type} {f : α → β} {P X Y : List α} {n m : Nat} (h1 : P.length = n) (h2 : X.length = m) : (((P ++ (X ++ Y)).map f).drop n).take m = X.map f := by
  subst h1 h2
  simp
theorem compose_ok {L : Lm} {B B2 : Nat} {first second : List Ed} (hk : L.gl "KEEP" = some (vTs [keepT])) (hd : L.gl "DROP" = some (vTs [dropT]))
    (he : ∀ {ts : List Tx} {es : List Ed}, ts.length = es.length → ts.length ≤ 1000 → (∀ e ∈ es, e.Ok B2) → L.fn "edited" [vTs ts, .lst (es.map vEd)] = .ok (.lst ((edL ts es).map .str)) fresh)
    (hc : ∀ c1 c2 : List Tx, L.fn "composed_change" [vTs c1, vTs c2] = .ok (vTs (ccL c1 c2)) [])
    (hl : second.length = outs first) (hn : first.length ≤ 1000) (hm : second.length ≤ 1000) (hB : B ≤ 1000) (hB2 : B2 ≤ 1000) (o1 : ∀ e ∈ first, e.Ok B) (o2 : ∀ e ∈ second, e.Ok B2) : runD L D_compose [.lst (first.map vEd), .lst (second.map vEd)] = .ok (.lst ((comp first second).map vEd)) fresh := by
  refine runD_of (fun v s => ∃ p, v = .ref p ∧ s[p]? = some (some (.lst ((comp first second).map vEd)))) [some (.lst (first.map vEd)), some (.lst (second.map vEd)), none, none, none, none, none, none, none, none, none, none] rfl rfl (fun v s ⟨p, h1, h2⟩ => ?_) fun Q hr => ?_
  · subst h1
    exact ret_lst h2 (frees_map free_vEd)
  have he2 : ∀ {ts : List Tx} {es : List Ed} st, ts.length = es.length → ts.length ≤ 1000 → (∀ e ∈ es, e.Ok B2) → callP true (L.fn "edited") [vTs ts, .lst (es.map vEd)] st = .ok (.ref st.length) (st ++ [some (.lst ((edL ts es).map .str))]) := fun st h1 h2 h3 => callP_new (by simp [free_vTs, frees_map free_vEd]) (he h1 h2 h3)
  have he3 : ∀ {ts : List Tx} {es : List Ed} st, ts.length = es.length → ts.length ≤ 1000 → (∀ e ∈ es, e.Ok B2) → callP false (L.fn "edited") [vTs ts, .lst (es.map vEd)] st = .ok (.lst ((edL ts es).map .str)) st := fun st h1 h2 h3 => callP_free (by simp [free_vTs, frees_map free_vEd]) (he h1 h2 h3)
  have hc2 : ∀ c1 c2 st, callP false (L.fn "composed_change") [vTs c1, vTs c2] st = .ok (vTs (ccL c1 c2)) st := fun c1 c2 st => callP_free (by simp [free_vTs]) (hc c1 c2)
  simp -implicitDefEqProofs [D_compose, S_compose, mVar, mkL, sizeLine]
  refine wp_for (fun k env st => ∃ p x4 x5 x6 x7 x8 x9 x10 x11, env = [some (.lst (first.map vEd)), some (.lst (second.map vEd)), some (.ref p), some (.int (outs (first.take k) : Nat)), x4, x5, x6, x7, x8, x9, x10, x11] ∧ st[p]? = some (some (.lst ((comp (first.take k) second).map vEd)))) ?_ ?_ ?_
  · exact ⟨_, _, _, _, _, _, _, _, _, rfl, rfl⟩
  · rintro k w env st Qb hw ⟨p, x4, x5, x6, x7, x8, x9, x10, x11, rfl, hp⟩ hnx _ _ _
    rw [List.getElem?_map] at hw
    obtain ⟨e, he0, rfl⟩ := Option.map_eq_some_iff.mp hw
    have hem : e ∈ first := List.mem_of_getElem? he0
    obtain ⟨ea, eb, ec⟩ := o1 e hem
    have hfs : outs first = outs (first.take k) + (outL e + outs (first.drop (k + 1))) := by
      rw [← outs_cons, ← outs_app]
      congr 1
      have hk1 : k < first.length := (List.getElem?_eq_some_iff.mp he0).1
      rw [List.getElem?_eq_getElem hk1] at he0
      rw [← Option.some.inj he0, List.getElem_cons_drop, List.take_append_drop]
    obtain ⟨P, R0, hsec, hP, hR0⟩ := split3 (hl.trans hfs)
    obtain ⟨seg, R, rfl, hseg, hR⟩ := split3 hR0
    have hq1 : outs (first.take (k + 1)) = outs (first.take k) + outL e := by rw [List.take_succ, he0]; simp
    have hq2 : comp (first.take (k + 1)) second = comp (first.take k) second ++ [comp1 e seg] := by
      rw [List.take_succ, he0]
      show comp (first.take k ++ [e]) second = _
      rw [comp_app, comp_take, ← hP, hsec]
      simp [comp, ← hseg]
    rw [hq1, hq2] at hnx
    have hlenM : (comp (first.take k) second).length < sizeLine := by
      rw [comp_len, List.length_take]
      unfold sizeLine
      omega
    generalize outs (first.take k) = at_ at *
    generalize comp (first.take k) second = M at *
    have hsg : ∀ x ∈ seg, x.Ok B2 := fun x hx => o2 x (by rw [hsec]; simp [hx])
    have z1 : second.length ≤ sizeLine := by unfold sizeLine; omega
    have hsl : ∀ (X Y Z : List Ed) (i j : Nat) (st : Sto), second = X ++ (Y ++ Z) → X.length = i → Y.length = j → sliceV false (.lst (second.map vEd)) (some (i : Int)) (some ((i : Int) + (j : Nat))) st = .ok (.lst (Y.map vEd)) st := fun X Y Z i j st h1 h2 h3 => by
      have hl3 : second.length = i + (j + Z.length) := by rw [h1]; simp [h2, h3]
      have e := slice_nat (m := false) (l := second.map vEd) (i := i) (j := i + j) (st := st) (by simpa using z1) (by simp; omega) (by omega)
      rw [show ((i + j : Nat) : Int) = (i : Int) + (j : Nat) by omega] at e
      rw [e, h1, show i + j - i = j by omega, take_mid h2 h3, mkL_val (by simp; unfold sizeLine; omega)]
    obtain ⟨sa, so, sb, hs3, ha3, hb3, hso⟩ : ∃ sa so sb, seg = sa ++ (so ++ sb) ∧ sa.length = e.a.length ∧ sb.length = e.b.length ∧ ((e.c = [dropT] ∧ so = []) ∨ (e.c ≠ [dropT] ∧ ∃ o, so = [o])) := by
      rcases parts hseg with ⟨hd, sa, sb, rfl, h1, h2⟩ | ⟨hd, sa, o, sb, rfl, h1, h2⟩
      · exact ⟨sa, [], sb, rfl, h1, h2, .inl ⟨hd, rfl⟩⟩
      · exact ⟨sa, [o], sb, rfl, h1, h2, .inr ⟨hd, o, rfl⟩⟩
    have hsb : ∀ x ∈ sb, x.Ok B2 := fun x hx => hsg x (by rw [hs3]; simp [hx])
    have hol : outL e = e.a.length + (if e.c = [dropT] then 0 else 1) + e.b.length := rfl
    have hsa : ∀ x ∈ sa, x.Ok B2 := fun x hx => hsg x (by rw [hs3]; simp [hx])
    have hs1 := hsl P sa (so ++ sb ++ R) at_ e.a.length
    have hs1' : ∀ st, sliceV false (.lst (second.map vEd)) (some (at_ : Int)) (some ((at_ : Int) + (e.a.length : Nat))) st = .ok (.lst (sa.map vEd)) st := fun st => hs1 st (by rw [hsec, hs3]; simp) hP ha3
    have hea := fun st => he2 st ha3.symm (by omega) hsa
    have hdq : ∀ st, G.eqV true (vTs e.c) (vTs [dropT]) st = .ok (.bl (!decide (e.c = [dropT]))) st := fun st => by
      rw [eqV_dat (dat_vTs _ _) (dat_vTs _ _), eqd_vTs]; rfl
    refine ⟨rfl, [some (.lst (first.map vEd)), some (.lst (second.map vEd)), some (.ref p), some (.int at_), some (vTs e.a), some (vTs e.c), some (vTs e.b), x7, x8, x9, x10, x11], rfl, ?_⟩
    have l1 := edL_bd ha3.symm hsa
    have m1 := Nat.mul_le_mul ea (show 2 * B2 + 1 ≤ 2001 by omega)
    simp -implicitDefEqProofs [mVar, hs1', hea, mkL, sizeLine, hd, hdq]
    have hpl : p < st.length := (List.getElem?_eq_some_iff.mp hp).1
    have g1 : (st ++ [some (Ob.lst ((edL e.a sa).map .str)), some (.lst [])])[p]? = some (some (.lst (M.map vEd))) := app_old hp
    have g2 : (st ++ [some (Ob.lst ((edL e.a sa).map .str)), some (.lst [])])[st.length]? = some (some (.lst ((edL e.a sa).map .str))) := by simp
    have g3 : (st ++ [some (Ob.lst ((edL e.a sa).map .str)), some (.lst [])])[st.length + 1]? = some (some (.lst (([] : List Tx).map .str))) := by simp
    generalize st ++ [some (Ob.lst ((edL e.a sa).map .str)), some (.lst [])] = s0 at *
    generalize st.length = n0 at *
    refine wp_cut (fun ev s => ∃ (PA PB ch : List Tx) (tb : List Ed) (a2 : Nat) (y9 y10 y11 : Option Va), ev = [some (.lst (first.map vEd)), some (.lst (second.map vEd)), some (.ref p), some (.int a2), some (vTs e.a), some (vTs ch), some (vTs e.b), some (.ref n0), some (.ref (n0 + 1)), y9, y10, y11] ∧
      s[p]? = some (some (.lst (M.map vEd))) ∧ s[n0]? = some (some (.lst (PA.map .str))) ∧ s[n0 + 1]? = some (some (.lst (PB.map .str))) ∧ comp1 e seg = ⟨PA, ch, PB ++ edL e.b tb⟩ ∧ tb.length = e.b.length ∧ (∀ x ∈ tb, x.Ok B2) ∧ a2 + e.b.length = at_ + outL e ∧ PA.length ≤ 3000000 ∧ PB.length ≤ 1000 ∧
      ∀ st, sliceV false (.lst (second.map vEd)) (some (a2 : Int)) (some ((a2 : Int) + (e.b.length : Nat))) st = .ok (.lst (tb.map vEd)) st) (fun R0' h _ _ _ => ?_) ?_
    · have hfin : ∀ (so : List Ed) (j : Nat), seg = sa ++ (so ++ sb) → so.length = j → ∀ st, sliceV false (.lst (second.map vEd)) (some ((at_ + e.a.length + j : Nat) : Int)) (some (((at_ + e.a.length + j : Nat) : Int) + (e.b.length : Nat))) st = .ok (.lst (sb.map vEd)) st := fun so j q1 q2 st =>
        hsl (P ++ (sa ++ so)) sb R (at_ + e.a.length + j) e.b.length st (by rw [hsec, q1]; simp) (by simp; omega) hb3
      rcases hso with ⟨hdd, rfl⟩ | ⟨hdd, o, rfl⟩
      · rw [if_pos hdd, wp_nxs]
        rw [if_pos hdd] at hol
        exact h _ _ ⟨edL e.a sa, [], e.c, sb, at_ + e.a.length, _, _, _, rfl, g1, g2, g3, by rw [hs3, List.nil_append, comp1_drop hdd ha3]; rfl, hb3, hsb, by omega, by omega, by simp, hfin [] 0 hs3 rfl⟩
      · rw [if_neg hdd]
        rw [if_neg hdd] at hol
        have hoo : o.Ok B2 := hsg o (by rw [hs3]; simp)
        obtain ⟨oa, ob, oc⟩ := hoo
        have hix : ∀ st, ixV (.lst (second.map vEd)) (.int ((at_ : Int) + (e.a.length : Nat))) st = .ok (.tup [vTs o.a, vTs o.c, vTs o.b]) st := fun st => by
          refine ixV_lit (i := at_ + e.a.length) rfl ?_ (by omega)
          rw [hsec, hs3]
          simp [← hP, ← ha3]
          rfl
        simp -implicitDefEqProofs [mVar, hix, tyB_ref g2, ext_vTs g2 (show (edL e.a sa).length + o.a.length ≤ sizeLine by unfold sizeLine; omega)]
        rw [← List.map_append]
        have r1 := set_there (o' := some (.lst ((edL e.a sa ++ o.a).map .str))) (show n0 ≠ p by omega) g1
        have r2 := set_here (o' := some (.lst ((edL e.a sa ++ o.a).map .str))) g2
        have r3 := set_there (o' := some (.lst ((edL e.a sa ++ o.a).map .str))) (show n0 ≠ n0 + 1 by omega) g3
        generalize s0.set n0 (some (.lst ((edL e.a sa ++ o.a).map .str))) = s1 at *
        simp -implicitDefEqProofs [mVar, tyB_ref r3]
        rw [ext_vTs (l := []) r3 (by simp [sizeLine]; omega), List.nil_append]
        have q1 := set_there (o' := some (.lst (o.b.map .str))) (show n0 + 1 ≠ p by omega) r1
        have q2 := set_there (o' := some (.lst (o.b.map .str))) (show n0 + 1 ≠ n0 by omega) r2
        have q3 := set_here (o' := some (.lst (o.b.map .str))) r3
        generalize s1.set (n0 + 1) (some (.lst (o.b.map .str))) = s2 at *
        simp -implicitDefEqProofs [mVar, hc2]
        exact h _ _ ⟨edL e.a sa ++ o.a, o.b, ccL e.c o.c, sb, at_ + e.a.length + 1, _, _, _, rfl, q1, q2, q3, by rw [hs3]; exact comp1_keep hdd ha3, hb3, hsb, by omega, by rw [List.length_append]; omega, by omega, hfin [o] 1 hs3 rfl⟩
    · rintro ev s ⟨PA, PB, ch, tb, a2, y9, y10, y11, rfl, h1, h2, h3, h4, h5, h6, h7, h8, h9, h10⟩
      have hb := fun st => he3 st h5.symm (by omega) h6
      have l2 := edL_bd h5.symm h6
      have m2 := Nat.mul_le_mul eb (show 2 * B2 + 1 ≤ 2001 by omega)
      simp -implicitDefEqProofs [mVar, h10, hb, tyB_ref h3, ext_ts h3 (show PB.length + (edL e.b tb).length ≤ sizeLine by unfold sizeLine; omega)]
      rw [← List.map_append]
      have k1 := set_there (o' := some (.lst ((PB ++ edL e.b tb).map .str))) (show n0 + 1 ≠ p by omega) h1
      have k2 := set_there (o' := some (.lst ((PB ++ edL e.b tb).map .str))) (show n0 + 1 ≠ n0 by omega) h2
      have k3 := set_here (o' := some (.lst ((PB ++ edL e.b tb).map .str))) h3
      generalize s.set (n0 + 1) (some (.lst ((PB ++ edL e.b tb).map .str))) = s2 at *
      have v : Va.tup [vTs PA, vTs ch, vTs (PB ++ edL e.b tb)] = vEd (comp1 e seg) := by rw [h4]; rfl
      simp -implicitDefEqProofs [tyB_ref k1, tup_ts k2 (show PA.length ≤ sizeLine by unfold sizeLine; omega), tup_ts k3 (show (PB ++ edL e.b tb).length ≤ sizeLine by rw [List.length_append]; unfold sizeLine; omega), mkT, sizeLine, v, append_ok k1 (by simpa using hlenM)]
      rw [show ((a2 : Int) + (e.b.length : Nat)) = ((at_ + outL e : Nat) : Int) by omega]
      refine hnx _ _ ⟨p, _, _, _, _, _, _, _, _, rfl, ?_⟩
      rw [set_here k1]
      simp
  · rintro env st ⟨p, x4, x5, x6, x7, x8, x9, x10, x11, rfl, hp⟩
    refine ⟨rfl, ?_⟩
    simp -implicitDefEqProofs [mVar]
    refine hr _ _ ⟨p, rfl, ?_⟩
    rw [hp, List.take_of_length_le (by simp)]
end C

set_option Elab.async false
set_option linter.all false
set_option maxRecDepth 100000
set_option maxHeartbeats 4000000
/-! what the laws of edits draw -/
namespace C
open PySem PySem.Spec PyProof.Rows L2 G
def S__law_draws : S :=
  (.seq (.set (.inl 2) (.lst true .nil))
  (.seq (.set (.inl 3) (.cmp .ge (.var 0) (.bin .pow false (.int 10) (.int 18))))
  (.seq (.sfor (.inl 4) (.irng (.cons (.var 1) .nil))
  (.seq (.sif (.var 3)
  (.seq (.expr (.mth .append (.var 2) (.cons (.bin .mod false (.bif .int false (.cons (.var 0) .nil)) (.int 1009)) .nil)))
  (.seq (.set (.inl 0) (.bin .fdiv false (.var 0) (.int 1009)))
  .nil))
  (.seq (.set (.inl 5) (.bin .mod false (.bif .int false (.cons (.bin .add false (.bin .mul false (.var 0) (.int 48271)) (.bin .mul false (.var 4) (.int 69621))) .nil)) (.int 2147483647)))
  (.seq (.expr (.mth .append (.var 2) (.cons (.bin .mod false (.bif .int false (.cons (.bin .add false (.bin .add false (.bin .mul false (.var 5) (.var 5)) (.bin .mul false (.var 0) (.int 31))) (.var 4)) .nil)) (.int 1000003)) .nil)))
  .nil)))
  .nil))
  (.seq (.ret (.var 2))
  .nil))))
def D__law_draws : Df := ⟨["_law_cell_here", "_law_count", "_law_found", "_law_is_wide", "_law_k", "_law_mixed"], 2, S__law_draws⟩
def S__law_words : S :=
  (.seq (.ret (.ix (.lst false (.cons (.str [97]) (.cons (.str [98]) (.cons (.str []) (.cons (.str [99, 99]) (.cons (.str [32, 100]) (.cons (.str [64, 32, 49]) (.cons (.str [45]) (.cons (.str [43, 120]) (.cons (.str [94]) (.cons (.str [126, 121]) .nil))))))))))) (.bin .mod false (.var 0) (.int 10))))
  .nil)
def D__law_words : Df := ⟨["_law_draw"], 1, S__law_words⟩
def S__law_some_edit : S :=
  (.seq (.set (.inl 1) (.call "_law_draws" false (.cons (.var 0) (.cons (.int 8) .nil))))
  (.seq (.set (.inl 2) (.bin .mod false (.bif .int false (.cons (.ix (.var 1) (.int 0)) .nil)) (.int 9)))
  (.seq (.set (.inl 3) (.tup .nil))
  (.seq (.set (.inl 4) (.tup .nil))
  (.seq (.sif (.cmp .in_ (.var 2) (.tup (.cons (.int 3) (.cons (.int 6) .nil))))
  (.seq (.set (.inl 3) (.bif .tuple false (.cons (.lc false [6] (.inl 6) (.irng (.cons (.bin .add false (.int 1) (.bin .mod false (.bif .int false (.cons (.ix (.var 1) (.int 5)) .nil)) (.int 2))) .nil)) .nil (.call "_law_words" false (.cons (.bif .int false (.cons (.ix (.var 1) (.bin .add false (.var 6) (.int 1))) .nil)) .nil))) .nil)))
  .nil)
  .nil)
  (.seq (.sif (.cmp .in_ (.var 2) (.tup (.cons (.int 4) (.cons (.int 6) (.cons (.int 7) .nil)))))
  (.seq (.set (.inl 4) (.bif .tuple false (.cons (.lc false [6] (.inl 6) (.irng (.cons (.bin .add false (.int 1) (.bin .mod false (.bif .int false (.cons (.ix (.var 1) (.int 6)) .nil)) (.int 2))) .nil)) .nil (.call "_law_words" false (.cons (.bif .int false (.cons (.ix (.var 1) (.bin .add false (.var 6) (.int 3))) .nil)) .nil))) .nil)))
  .nil)
  .nil)
  (.seq (.set (.inl 5) (.ix (.lst false (.cons (.tup (.cons (.str [107, 101, 101, 112]) .nil)) (.cons (.tup (.cons (.str [100, 114, 111, 112]) .nil)) (.cons (.tup (.cons (.str [116, 101, 120, 116]) (.cons (.call "_law_words" false (.cons (.bif .int false (.cons (.ix (.var 1) (.int 7)) .nil)) .nil)) .nil))) (.cons (.tup (.cons (.str [107, 101, 101, 112]) .nil)) (.cons (.tup (.cons (.str [100, 114, 111, 112]) .nil)) .nil)))))) (.bin .mod false (.bin .fdiv false (.bif .int false (.cons (.ix (.var 1) (.int 7)) .nil)) (.int 10)) (.int 5))))
  (.seq (.ret (.tup (.cons (.var 3) (.cons (.ife (.cmp .in_ (.var 2) (.tup (.cons (.int 1) (.cons (.int 5) (.cons (.int 6) (.cons (.int 7) .nil)))))) (.var 5) (.tup (.cons (.str [107, 101, 101, 112]) .nil))) (.cons (.var 4) .nil)))))
  .nil))))))))
def D__law_some_edit : Df := ⟨["_law_cell_here", "_law_draws_here", "_law_kind", "_law_ahead", "_law_behind", "_law_change", "_law_k"], 1, S__law_some_edit⟩
def S__law_some_edits : S :=
  (.seq (.ret (.lc false [3] (.inl 3) (.irng (.cons (.var 2) .nil)) .nil (.call "_law_some_edit" false (.cons (.call "_law_cell" false (.cons (.var 0) (.cons (.bin .add false (.var 1) (.var 3)) .nil))) .nil))))
  .nil)
def D__law_some_edits : Df := ⟨["_law_script", "_law_start", "_law_many", "_law_k"], 3, S__law_some_edits⟩
def S__law_texts : S :=
  (.seq (.ret (.lc false [3] (.inl 3) (.irng (.cons (.var 2) .nil)) .nil (.call "_law_words" false (.cons (.bin .fdiv false (.call "_law_cell" false (.cons (.var 0) (.cons (.bin .add false (.var 1) (.var 3)) .nil))) (.int 7)) .nil))))
  .nil)
def D__law_texts : Df := ⟨["_law_script", "_law_start", "_law_many", "_law_k"], 3, S__law_texts⟩
def S__law_are_edits : S :=
  (.seq (.sif (.or (.cons (.not (.isi "list" (.var 0))) (.cons (.cmp .ne (.bif .len false (.cons (.var 0) .nil)) (.var 1)) .nil)))
  (.seq (.ret (.bl false))
  .nil)
  .nil)
  (.seq (.sfor (.inl 2) (.var 0)
  (.seq (.sif (.or (.cons (.not (.isi "tuple" (.var 2))) (.cons (.cmp .ne (.bif .len false (.cons (.var 2) .nil)) (.int 3)) .nil)))
  (.seq (.ret (.bl false))
  .nil)
  .nil)
  (.seq (.sif (.or (.cons (.not (.isi "tuple" (.ix (.var 2) (.int 0)))) (.cons (.not (.isi "tuple" (.ix (.var 2) (.int 1)))) (.cons (.not (.isi "tuple" (.ix (.var 2) (.int 2)))) .nil))))
  (.seq (.ret (.bl false))
  .nil)
  .nil)
  .nil)))
  (.seq (.ret (.bl true))
  .nil)))
def D__law_are_edits : Df := ⟨["_law_edits", "_law_count", "_law_edit"], 2, S__law_are_edits⟩
/-- what is drawn -/
theorem draws_ok {L : Lm} (c : Int) (n : Nat) (hn : n < 1000) : ∃ w : Va, (∃ ds : List Int, ds.length = n ∧ w = .lst (ds.map .int)) ∧ runD L D__law_draws [.int c, .int n] = .ok w fresh := by
  refine runD_ex [some (.int c), some (.int n), none, none, none, none] rfl rfl fun Q hr => ?_
  obtain ⟨g, hg⟩ := pow_any
  simp -implicitDefEqProofs [D__law_draws, S__law_draws, mVar, mkL_ref, hg, rng1 (rep_lt (show n < 2000 by omega))]
  refine wp_for (fun k env st => ∃ (x4 x5 : Option Va) (c : Int) (ds : List Int) (b : Bool), env = [some (.int c), some (.int n), some (.ref 0), some (.bl b), x4, x5] ∧ ds.length = k ∧ st = [some (.lst (ds.map .int))]) ?_ ?_ ?_
  · exact ⟨none, none, c, [], _, rfl, rfl, rfl⟩
  · rintro k w env st Qb hw ⟨x4, x5, c, ds, b, rfl, rfl, rfl⟩ hnx _ _ _
    obtain ⟨hk, rfl⟩ := rints_get hw
    refine ⟨rfl, _, rfl, ?_⟩
    have hs : ds.length < sizeLine := by unfold sizeLine; omega
    cases b with
    | false =>
      have hm : G.small64 ((c * 48271 + ds.length * 69621).fmod 2147483647) = true := small_mod
      simp -implicitDefEqProofs [mVar, mulV_int, hm, show G.small64 48271 = true by decide +kernel, show G.small64 69621 = true by decide +kernel, show G.small64 31 = true by decide +kernel, modV_int, tyB, lstOf, appendV, hs]
      exact hnx _ _ ⟨_, _, c, ds ++ [_], false, rfl, by simp, by rw [snoc_map]⟩
    | true =>
      simp -implicitDefEqProofs [mVar, modV_int, fdivV_int, tyB, lstOf, appendV, hs]
      exact hnx _ _ ⟨_, _, _, ds ++ [_], true, rfl, by simp, by rw [snoc_map]⟩
  · rintro env st ⟨x4, x5, c, ds, b, rfl, h, rfl⟩
    refine ⟨rfl, ?_⟩
    simp -implicitDefEqProofs [mVar]
    exact hr _ _ _ ⟨ds, by simpa using h, rfl⟩ (ret_lst rfl (frees_map fun _ => rfl))
def CHw : List Tx := [[97], [98], [], [99, 99], [32, 100], [64, 32, 49], [45], [43, 120], [94], [126, 121]]
theorem words_ok {L : Lm} (i : Int) : ∃ t : Tx, t ∈ CHw ∧ runD L D__law_words [.int i] = .ok (.str t) [] := by
  obtain ⟨w, hw, e⟩ := ixV_pick (st := []) (x := .lst (CHw.map .str)) (i := i) (j := 10) (n := 10) rfl rfl (by decide) rfl
  obtain ⟨t, ht, rfl⟩ := List.mem_map.mp hw
  refine ⟨t, ht, runD_ok rfl ?_⟩
  have e' : ixV (.lst [.str [97], .str [98], .str [], .str [99, 99], .str [32, 100], .str [64, 32, 49], .str [45], .str [43, 120], .str [94], .str [126, 121]]) (.int (i.fmod 10)) [] = .ok (.str t) [] := e
  simp -implicitDefEqProofs [D__law_words, S__law_words, mVar, mkL, modV_int, e', sizeLine]
structure Ed.In (W : List Tx) (e : Ed) : Prop where
  a : ∀ t ∈ e.a, t ∈ W
  b : ∀ t ∈ e.b, t ∈ W
  c : ∀ t, e.c = [textT, t] → t ∈ W
theorem some_edit_ok {L : Lm} (hd : ∀ (c : Int) (n : Nat), n < 1000 → ∃ w : Va, (∃ ds : List Int, ds.length = n ∧ w = .lst (ds.map .int)) ∧ L.fn "_law_draws" [.int c, .int n] = .ok w fresh) (ht : ∀ i : Int, ∃ t : Tx, t ∈ CHw ∧ L.fn "_law_words" [.int i] = .ok (.str t) [])
    (c : Int) : ∃ w, (∃ e : Ed, e.Ok 2 ∧ e.In CHw ∧ w = vEd e) ∧ runD L D__law_some_edit [.int c] = .ok w [] := by
  obtain ⟨text, ht⟩ := Classical.axiomOfChoice ht
  have ht2 : ∀ i st, callP false (L.fn "_law_words") [.int i] st = .ok (.str (text i)) st := fun i st => callP_free rfl (ht i).2
  have hW : ∀ i, text i ∈ CHw := fun i => (ht i).1
  obtain ⟨w, ⟨ds, hl, rfl⟩, e⟩ := hd c 8 (by decide)
  have hd2 : ∀ st, callP false (L.fn "_law_draws") [.int c, .int 8] st = .ok (.lst (ds.map .int)) st := fun st => callP_free rfl e
  obtain ⟨dv, at_⟩ : ∃ dv : Nat → Int, ∀ (k : Nat) (st : Sto), k < 8 → ixV (.lst (ds.map .int)) (.int (k : Nat)) st = .ok (.int (dv k)) st := ⟨fun k => ds.getD k 0, fun k st hk => ixV_int (l := ds.map .int) rfl (by rw [List.getElem?_map, List.getElem?_eq_getElem (by omega)]; simp [List.getD_eq_getElem?_getD, List.getElem?_eq_getElem (show k < ds.length by omega)])⟩
  have a0 : ∀ st, ixV (.lst (ds.map .int)) (.int 0) st = .ok (.int (dv 0)) st := fun st => at_ 0 st (by decide)
  have a5 : ∀ st, ixV (.lst (ds.map .int)) (.int 5) st = .ok (.int (dv 5)) st := fun st => at_ 5 st (by decide)
  have a6 : ∀ st, ixV (.lst (ds.map .int)) (.int 6) st = .ok (.int (dv 6)) st := fun st => at_ 6 st (by decide)
  have a7 : ∀ st, ixV (.lst (ds.map .int)) (.int 7) st = .ok (.int (dv 7)) st := fun st => at_ 7 st (by decide)
  refine runD_ex [some (.int c), none, none, none, none, none, none] rfl rfl fun Q hr => ?_
  simp -implicitDefEqProofs [D__law_some_edit, S__law_some_edit, mVar, hd2, mkT, sizeLine, a0, modV_int, inV_tup]
  refine wp_cut (fun e s => s = [] ∧ ∃ ah : List Tx, ah.length ≤ 2 ∧ (∀ t ∈ ah, t ∈ CHw) ∧ e = [some (.int c), some (.lst (ds.map .int)), some (.int ((dv 0).fmod 9)), some (vTs ah), some (.tup []), none, none]) (fun R h _ _ _ => ?_) ?_
  · split
    · obtain ⟨k, hk, ek⟩ := fmod_at (dv 5) (n := 2) (by decide)
      have ek' : (dv 5).fmod 2 = (k : Int) := ek
      have hk2 : i62 ((1 : Int) + (k : Nat)) = true := by
        have := rep_lt (n := 1 + k) (by omega)
        rw [show ((1 + k : Nat) : Int) = 1 + (k : Int) by omega] at this
        exact this
      simp -implicitDefEqProofs
      rw [mLc_rng (1 + k) (fun j => .str (text (dv (j + 1)))) (by simp -implicitDefEqProofs [mVar, a5, modV_int, ek', rng1 hk2, show ((1 : Int) + (k : Nat)).toNat = 1 + k by omega]) rfl (fun j hj => by
        refine ⟨_, rfl, rfl, ?_⟩
        have aj : ∀ st, ixV (.lst (ds.map .int)) (.int ((j : Int) + 1)) st = .ok (.int (dv (j + 1))) st := fun st => at_ (j + 1) st (by omega)
        simp -implicitDefEqProofs [mVar, wipeE, aj, ht2])]
      rw [mkL_val (by simp [sizeLine]; omega), G.R.bind_ok, G.R.bind_ok, tupleV_lst rfl, mkT_val (by simp [sizeLine]; omega)]
      simp -implicitDefEqProofs
      exact h _ _ ⟨rfl, (List.range (1 + k)).map fun j => text (dv (j + 1)), by simp; omega, fun t ht => by obtain ⟨j, _, rfl⟩ := List.mem_map.mp ht; exact hW _, by simp [vTs]⟩
    · rw [wp_nxs]
      exact h _ _ ⟨rfl, [], by simp, by simp, rfl⟩
  rintro e s ⟨rfl, ah, hah, hai, rfl⟩
  simp -implicitDefEqProofs [mVar, mkT, sizeLine, inV_tup]
  refine wp_cut (fun e s => s = [] ∧ ∃ bh : List Tx, bh.length ≤ 2 ∧ (∀ t ∈ bh, t ∈ CHw) ∧ e = [some (.int c), some (.lst (ds.map .int)), some (.int ((dv 0).fmod 9)), some (vTs ah), some (vTs bh), none, none]) (fun R h _ _ _ => ?_) ?_
  · split
    · obtain ⟨k, hk, ek⟩ := fmod_at (dv 6) (n := 2) (by decide)
      have ek' : (dv 6).fmod 2 = (k : Int) := ek
      have hk2 : i62 ((1 : Int) + (k : Nat)) = true := by
        have := rep_lt (n := 1 + k) (by omega)
        rw [show ((1 + k : Nat) : Int) = 1 + (k : Int) by omega] at this
        exact this
      simp -implicitDefEqProofs
      rw [mLc_rng (1 + k) (fun j => .str (text (dv (j + 3)))) (by simp -implicitDefEqProofs [mVar, a6, modV_int, ek', rng1 hk2, show ((1 : Int) + (k : Nat)).toNat = 1 + k by omega]) rfl (fun j hj => by
        refine ⟨_, rfl, rfl, ?_⟩
        have aj : ∀ st, ixV (.lst (ds.map .int)) (.int ((j : Int) + 3)) st = .ok (.int (dv (j + 3))) st := fun st => at_ (j + 3) st (by omega)
        simp -implicitDefEqProofs [mVar, wipeE, aj, ht2])]
      rw [mkL_val (by simp [sizeLine]; omega), G.R.bind_ok, G.R.bind_ok, tupleV_lst rfl, mkT_val (by simp [sizeLine]; omega)]
      simp -implicitDefEqProofs
      exact h _ _ ⟨rfl, (List.range (1 + k)).map fun j => text (dv (j + 3)), by simp; omega, fun t ht => by obtain ⟨j, _, rfl⟩ := List.mem_map.mp ht; exact hW _, by simp [vTs]⟩
    · rw [wp_nxs]
      exact h _ _ ⟨rfl, [], by simp, by simp, rfl⟩
  rintro e s ⟨rfl, bh, hbh, hbi, rfl⟩
  obtain ⟨w, hw, ew⟩ := ixV_pick (st := []) (x := .lst [vTs [keepT], vTs [dropT], vTs [textT, text (dv 7)], vTs [keepT], vTs [dropT]]) (i := (dv 7).fdiv 10) (j := 5) (n := 5) rfl rfl (by decide) rfl
  obtain ⟨ch, rfl, hch, hci⟩ : ∃ ch, w = vTs ch ∧ Ch ch ∧ ∀ t, ch = [textT, t] → t ∈ CHw := by
    simp only [List.mem_cons, List.not_mem_nil, or_false] at hw
    rcases hw with rfl | rfl | rfl | rfl | rfl
    · exact ⟨_, rfl, .inl rfl, fun t h => by simp at h⟩
    · exact ⟨_, rfl, .inr (.inl rfl), fun t h => by simp at h⟩
    · exact ⟨_, rfl, .inr (.inr ⟨_, rfl⟩), fun t h => by simp at h; rw [← h]; exact hW _⟩
    · exact ⟨_, rfl, .inl rfl, fun t h => by simp at h⟩
    · exact ⟨_, rfl, .inr (.inl rfl), fun t h => by simp at h⟩
  simp -implicitDefEqProofs [mVar, mkT, mkL, sizeLine, a7, ht2, fdivV_int, modV_int]
  have ew' : ixV (.lst [.tup [.str [107, 101, 101, 112]], .tup [.str [100, 114, 111, 112]], .tup [.str [116, 101, 120, 116], .str (text (dv 7))], .tup [.str [107, 101, 101, 112]], .tup [.str [100, 114, 111, 112]]]) (.int (((dv 7).fdiv 10).fmod 5)) [] = .ok (vTs ch) [] := ew
  rw [ew']
  simp -implicitDefEqProofs [mVar, mkT, sizeLine, inV_tup]
  split
  · simp -implicitDefEqProofs
    exact hr _ _ _ ⟨⟨ah, ch, bh⟩, ⟨hah, hbh, hch⟩, ⟨hai, hbi, hci⟩, rfl⟩ (ret_free (free_vEd ⟨ah, ch, bh⟩))
  · simp -implicitDefEqProofs
    exact hr _ _ _ ⟨⟨ah, [keepT], bh⟩, ⟨hah, hbh, .inl rfl⟩, ⟨hai, hbi, fun t h => by simp at h⟩, rfl⟩ (ret_free (free_vEd ⟨ah, [keepT], bh⟩))
theorem some_edits_ok {L : Lm} {ns : List Int} (hc : ∀ (k : Nat), L.fn "_law_cell" [.scr (ns.map .int), .int k] = .ok (.int (cell ns k)) []) (he : ∀ c : Int, ∃ w, (∃ e : Ed, e.Ok 2 ∧ e.In CHw ∧ w = vEd e) ∧ L.fn "_law_some_edit" [.int c] = .ok w [])
    (s n : Nat) (hn : n < 2000) : ∃ es : List Ed, (es.length = n ∧ ∀ e ∈ es, e.Ok 2 ∧ e.In CHw) ∧ runD L D__law_some_edits [.scr (ns.map .int), .int s, .int n] = .ok (.lst (es.map vEd)) [] := by
  have he' : ∀ c : Int, ∃ e : Ed, (e.Ok 2 ∧ e.In CHw) ∧ L.fn "_law_some_edit" [.int c] = .ok (vEd e) [] := fun c => by
    obtain ⟨w, ⟨e, h1, h2, rfl⟩, h3⟩ := he c
    exact ⟨e, ⟨h1, h2⟩, h3⟩
  obtain ⟨ed, hed⟩ := Classical.axiomOfChoice he'
  have he2 : ∀ c st, callP false (L.fn "_law_some_edit") [.int c] st = .ok (vEd (ed c)) st := fun c st => callP_free rfl (hed c).2
  have hc2 : ∀ (k : Nat) st, callP false (L.fn "_law_cell") [.scr (ns.map .int), .int ((s : Int) + (k : Nat))] st = .ok (.int (cell ns (s + k))) st := fun k st => by
    rw [show (s : Int) + (k : Nat) = ((s + k : Nat) : Int) by omega]
    exact callP_free (by simp [frees_map (f := Va.int) fun _ => rfl]) (hc _)
  refine ⟨(List.range n).map fun k => ed (cell ns (s + k)), ⟨by simp, fun e h => ?_⟩, runD_of (fun v s' => v = .lst (((List.range n).map fun k => ed (cell ns (s + k))).map vEd)) [some (.scr (ns.map .int)), some (.int s), some (.int n), none] rfl rfl (fun v s' h => by rw [h]; exact ret_free (by rw [free_lst]; exact frees_map free_vEd)) fun Q hr => ?_⟩
  · obtain ⟨k, _, rfl⟩ := List.mem_map.mp h
    exact (hed _).1
  simp -implicitDefEqProofs [D__law_some_edits, S__law_some_edits]
  rw [mLc_rng (env1 := [some (.scr (ns.map .int)), some (.int s), some (.int n), none]) n (fun k => vEd (ed (cell ns (s + k)))) (by simp -implicitDefEqProofs [mVar, rng1 (rep_lt hn)]) rfl (fun k hk => ⟨_, rfl, rfl, by simp -implicitDefEqProofs [mVar, hc2, he2]⟩), mkL_val (by simp [sizeLine]; omega)]
  simp -implicitDefEqProofs
  exact hr _ _ (by simp)
theorem texts_ok {L : Lm} {ns : List Int} (hc : ∀ (k : Nat), L.fn "_law_cell" [.scr (ns.map .int), .int k] = .ok (.int (cell ns k)) []) (ht : ∀ i : Int, ∃ t : Tx, t ∈ CHw ∧ L.fn "_law_words" [.int i] = .ok (.str t) [])
    (s n : Nat) (hn : n < 2000) : ∃ ts : List Tx, (ts.length = n ∧ ∀ t ∈ ts, t ∈ CHw) ∧ runD L D__law_texts [.scr (ns.map .int), .int s, .int n] = .ok (.lst (ts.map .str)) [] := by
  obtain ⟨text, ht⟩ := Classical.axiomOfChoice ht
  have ht2 : ∀ i st, callP false (L.fn "_law_words") [.int i] st = .ok (.str (text i)) st := fun i st => callP_free rfl (ht i).2
  have hc2 : ∀ (k : Nat) st, callP false (L.fn "_law_cell") [.scr (ns.map .int), .int ((s : Int) + (k : Nat))] st = .ok (.int (cell ns (s + k))) st := fun k st => by
    rw [show (s : Int) + (k : Nat) = ((s + k : Nat) : Int) by omega]
    exact callP_free (by simp [frees_map (f := Va.int) fun _ => rfl]) (hc _)
  refine ⟨(List.range n).map fun k => text ((cell ns (s + k)).fdiv 7), ⟨by simp, fun e h => ?_⟩, runD_of (fun v s' => v = .lst (((List.range n).map fun k => text ((cell ns (s + k)).fdiv 7)).map .str)) [some (.scr (ns.map .int)), some (.int s), some (.int n), none] rfl rfl (fun v s' h => by rw [h]; exact ret_free (by rw [free_lst]; exact frees_map fun _ => rfl)) fun Q hr => ?_⟩
  · obtain ⟨k, _, rfl⟩ := List.mem_map.mp h
    exact (ht _).1
  simp -implicitDefEqProofs [D__law_texts, S__law_texts]
  rw [mLc_rng (env1 := [some (.scr (ns.map .int)), some (.int s), some (.int n), none]) n (fun k => .str (text ((cell ns (s + k)).fdiv 7))) (by simp -implicitDefEqProofs [mVar, rng1 (rep_lt hn)]) rfl (fun k hk => ⟨_, rfl, rfl, by simp -implicitDefEqProofs [mVar, hc2, fdivV_int, ht2]⟩), mkL_val (by simp [sizeLine]; omega)]
  simp -implicitDefEqProofs
  exact hr _ _ (by simp)
theorem isi_tup_vTs (l : List Tx) (st : Sto) : isiV "tuple" [vTs l] st = .ok (.bl true) st := isi_of rfl (by decide +kernel)
theorem isi_tup_tup (l : List Va) (st : Sto) : isiV "tuple" [.tup l] st = .ok (.bl true) st := isi_of rfl (by decide +kernel)
theorem are_edits_ok {L : Lm} {es : List Ed} {n : Nat} (hn : es.length = n) : runD L D__law_are_edits [.lst (es.map vEd), .int n] = .ok (.bl true) [] := by
  refine runD_of (fun v s => v = .bl true) [some (.lst (es.map vEd)), some (.int n), none] rfl rfl (fun v s h => by rw [h]; exact ret_free rfl) fun Q hr => ?_
  simp -implicitDefEqProofs [D__law_are_edits, S__law_are_edits, mVar, isi_list_lst, hn]
  refine wp_for (fun k env st => ∃ x, env = [some (.lst (es.map vEd)), some (.int n), x]) ⟨_, rfl⟩ ?_ ?_
  · rintro k w env st Qb hw ⟨x, rfl⟩ hnx _ _ _
    rw [List.getElem?_map] at hw
    obtain ⟨e, he, rfl⟩ := Option.map_eq_some_iff.mp hw
    refine ⟨rfl, _, rfl, ?_⟩
    simp -implicitDefEqProofs [mVar, vEd, isi_tup_tup, isi_tup_vTs]
    exact hnx _ _ ⟨_, rfl⟩
  · rintro env st ⟨x, rfl⟩
    refine ⟨rfl, ?_⟩
    simp -implicitDefEqProofs
    exact hr _ _ rfl
end C

set_option Elab.async false
set_option linter.all false
set_option maxRecDepth 100000
set_option maxHeartbeats 4000000
/-! rows of tokens: edits that they give; edits turned back -/
namespace C
open PySem PySem.Spec PyProof.Rows L2 G
def S_eotM (m : Bool) : S :=
  (.seq (.set (.inl 1) (.lst true .nil))
  (.seq (.set (.inl 2) (.lst true .nil))
  (.seq (.sfor (.inr [3, 4]) (.var 0)
  (.seq (.sif (.cmp .eq (.var 3) (.str [108, 105, 110, 101]))
  (.seq (.expr (.mth .append (.var 1) (.cons (.tup (.cons (.lst true .nil) (.cons (.var 4) (.cons (.lst true .nil) .nil)))) .nil)))
  .nil)
  (.seq (.sif (.var 1)
  (.seq (.expr (.mth .append (.ix (.ix (.var 1) (.neg (.int 1))) (.int 2)) (.cons (.var 4) .nil)))
  .nil)
  (.seq (.expr (.mth .append (.var 2) (.cons (.var 4) .nil)))
  .nil))
  .nil))
  .nil))
  (.seq (.sif (.and (.cons (.var 2) (.cons (.not (.var 1)) .nil)))
  (.seq (.rais "BadPlace" [116, 104, 101, 114, 101, 32, 105, 115, 32, 110, 111, 32, 108, 105, 110, 101, 32, 116, 111, 32, 119, 104, 105, 99, 104, 32, 110, 101, 119, 32, 116, 101, 120, 116, 115, 32, 99, 111, 117, 108, 100, 32, 98, 101, 32, 112, 117, 116])
  .nil)
  .nil)
  (.seq (.sif (.var 2)
  (.seq (.expr (.mth .extend (.ix (.ix (.var 1) (.int 0)) (.int 0)) (.cons (.var 2) .nil)))
  .nil)
  .nil)
  (.seq (.ret (.lc m [5, 6, 7] (.inr [5, 6, 7]) (.var 1) .nil (.tup (.cons (.bif .tuple false (.cons (.var 5) .nil)) (.cons (.var 6) (.cons (.bif .tuple false (.cons (.var 7) .nil)) .nil))))))
  .nil))))))
def D_eotM (m : Bool) : Df := ⟨["tokens", "edits", "before", "kind", "worth", "ahead", "change", "behind"], 1, S_eotM m⟩
abbrev D_edits_of_tokens : Df := D_eotM false
def S_inverse : S :=
  (.seq (.set (.inl 2) (.lst true .nil))
  (.seq (.sfor (.inr [3, 4]) (.ienum (.cons (.var 0) .nil))
  (.seq (.set (.inr [5, 6, 7]) (.ix (.var 1) (.var 3)))
  (.seq (.expr (.mth .extend (.var 2) (.cons (.lc false [8] (.inl 8) (.var 5) .nil (.tup (.cons (.str [108, 105, 110, 101]) (.cons (.glob "DROP") .nil)))) .nil)))
  (.seq (.sif (.cmp .eq (.var 6) (.glob "DROP"))
  (.seq (.expr (.mth .append (.var 2) (.cons (.tup (.cons (.str [110, 101, 119]) (.cons (.var 4) .nil))) .nil)))
  .nil)
  (.seq (.sif (.or (.cons (.cmp .eq (.var 6) (.glob "KEEP")) (.cons (.cmp .eq (.ix (.var 6) (.int 1)) (.var 4)) .nil)))
  (.seq (.expr (.mth .append (.var 2) (.cons (.tup (.cons (.str [108, 105, 110, 101]) (.cons (.glob "KEEP") .nil))) .nil)))
  .nil)
  (.seq (.expr (.mth .append (.var 2) (.cons (.tup (.cons (.str [108, 105, 110, 101]) (.cons (.tup (.cons (.str [116, 101, 120, 116]) (.cons (.var 4) .nil))) .nil))) .nil)))
  .nil))
  .nil))
  (.seq (.expr (.mth .extend (.var 2) (.cons (.lc false [8] (.inl 8) (.var 7) .nil (.tup (.cons (.str [108, 105, 110, 101]) (.cons (.glob "DROP") .nil)))) .nil)))
  .nil)))))
  (.seq (.ret (.call "edits_of_tokens" false (.cons (.var 2) .nil)))
  .nil)))
def D_inverse : Df := ⟨["texts", "edits", "tokens", "at", "text", "ahead", "change", "behind", "put"], 2, S_inverse⟩
/-- a token -/
inductive Tk where
  | ln (c : List Tx)
  | nw (t : Tx)
def lineT : Tx := [108, 105, 110, 101]
def newT : Tx := [110, 101, 119]
def vTk : Tk → Va
  | .ln c => .tup [.str lineT, vTs c]
  | .nw t => .tup [.str newT, .str t]
theorem free_vTk (t : Tk) : free (vTk t) = true := by cases t <;> simp [vTk, free_vTs]
def Tk.isL : Tk → Bool
  | .ln _ => true
  | .nw _ => false
def nL (tk : List Tk) : Nat := tk.countP Tk.isL
def nN (tk : List Tk) : Nat := tk.countP fun t => !t.isL
theorem nL_ln (c : List Tx) (r : List Tk) : nL (.ln c :: r) = nL r + 1 := List.countP_cons_of_pos rfl
theorem nL_nw (t : Tx) (r : List Tk) : nL (.nw t :: r) = nL r := List.countP_cons_of_neg (by simp [Tk.isL])
theorem nN_ln (c : List Tx) (r : List Tk) : nN (.ln c :: r) = nN r := List.countP_cons_of_neg (by simp [Tk.isL])
theorem nN_nw (t : Tx) (r : List Tk) : nN (.nw t :: r) = nN r + 1 := List.countP_cons_of_pos rfl
theorem nN_app (a b : List Tk) : nN (a ++ b) = nN a + nN b := by simp [nN]
abbrev St2 := List Ed × List Tx
def putB (es : List Ed) (t : Tx) : List Ed := match es.getLast? with
  | some e => es.dropLast ++ [⟨e.a, e.c, e.b ++ [t]⟩]
  | none => es
def stepT (s : St2) : Tk → St2
  | .ln c => (s.1 ++ [⟨[], c, []⟩], s.2)
  | .nw t => if s.1 = [] then (s.1, s.2 ++ [t]) else (putB s.1 t, s.2)
def runT (tk : List Tk) (s : St2) : St2 := tk.foldl stepT s
/-- the first one with texts ahead -/
def ahd : List Ed → List Tx → List Ed
  | [], _ => []
  | e :: es, bf => ⟨e.a ++ bf, e.c, e.b⟩ :: es
def eot (tk : List Tk) : Option (List Ed) :=
  let s := runT tk ([], [])
  if s.2 ≠ [] ∧ s.1 = [] then none else some (ahd s.1 s.2)
theorem putB_app (es : List Ed) (e : Ed) (t : Tx) : putB (es ++ [e]) t = es ++ [⟨e.a, e.c, e.b ++ [t]⟩] := by simp [putB]
theorem snoc_of {α : Type} {l : List α} (h : l ≠ []) : ∃ a x, l = a ++ [x] := ⟨_, _, (List.dropLast_concat_getLast h).symm⟩
/-- what tokens make of lines -/
def outT : List Tk → List Tx → List Tx
  | [], _ => []
  | .nw t :: r, N => t :: outT r N
  | .ln c :: r, n :: N => mid n c ++ outT r N
  | .ln _ :: r, [] => outT r []
theorem edL_snoc {N : List Tx} {es : List Ed} {n : Tx} {e : Ed} (h : N.length = es.length) : edL (N ++ [n]) (es ++ [e]) = edL N es ++ piece (n, e) := by
  rw [edL_app h, edL_cons]
  simp [edL]
structure InvT (s : St2) : Prop where
  a : ∀ e ∈ s.1, e.a = []
theorem runT_ok : ∀ (tk : List Tk) (N1 N2 : List Tx) (s : St2), s.1.length = N1.length → nL tk = N2.length → (∀ e ∈ s.1, e.a = []) → (∀ t ∈ tk, ∀ c, t = .ln c → Ch c) → (∀ e ∈ s.1, Ch e.c) →
    (runT tk s).1.length = N1.length + N2.length ∧ (runT tk s).2 ++ edL (N1 ++ N2) (runT tk s).1 = s.2 ++ edL N1 s.1 ++ outT tk N2 ∧ (∀ e ∈ (runT tk s).1, e.a = [] ∧ Ch e.c) ∧ (runT tk s).2.length + ((runT tk s).1.map fun e => e.b.length).sum = s.2.length + (s.1.map fun e => e.b.length).sum + nN tk
  | [], N1, N2, s, h1, h2, h3, h4, h5 => by
    have : N2 = [] := List.eq_nil_of_length_eq_zero h2.symm
    subst this
    exact ⟨by simp [runT, h1], by simp [runT, outT], fun e he => ⟨h3 e he, h5 e he⟩, by simp [runT, nN]⟩
  | .ln c :: r, N1, [], s, h1, h2, h3, h4, h5 => by simp [nL_ln] at h2
  | .ln c :: r, N1, n :: N2, s, h1, h2, h3, h4, h5 => by
    have h2' : nL r = N2.length := by simp [nL_ln] at h2; omega
    have hc : Ch c := h4 _ List.mem_cons_self c rfl
    obtain ⟨k1, k2, k3, k4⟩ := runT_ok r (N1 ++ [n]) N2 (s.1 ++ [⟨[], c, []⟩], s.2) (by simp [h1]) h2' (fun e he => by
      rcases List.mem_append.mp he with he | he
      · exact h3 e he
      · rw [List.mem_singleton.mp he]) (fun t ht => h4 t (List.mem_cons_of_mem _ ht)) (fun e he => by
      rcases List.mem_append.mp he with he | he
      · exact h5 e he
      · rw [List.mem_singleton.mp he]; exact hc)
    have e : runT (.ln c :: r) s = runT r (s.1 ++ [⟨[], c, []⟩], s.2) := rfl
    rw [e]
    refine ⟨by rw [k1]; simp; omega, ?_, k3, ?_⟩
    · rw [show N1 ++ n :: N2 = (N1 ++ [n]) ++ N2 by simp, k2]
      simp only
      rw [edL_snoc h1.symm]
      simp [outT, piece]
    · rw [k4, nN_ln]
      simp
  | .nw t :: r, N1, N2, s, h1, h2, h3, h4, h5 => by
    have h2' : nL r = N2.length := by simpa [nL_nw] using h2
    have h4' : ∀ t ∈ r, ∀ c, t = .ln c → Ch c := fun t ht => h4 t (List.mem_cons_of_mem _ ht)
    by_cases hs : s.1 = []
    · have hN : N1 = [] := List.eq_nil_of_length_eq_zero (by rw [← h1, hs]; rfl)
      subst hN
      obtain ⟨k1, k2, k3, k4⟩ := runT_ok r [] N2 (s.1, s.2 ++ [t]) h1 h2' h3 h4' h5
      have e : runT (.nw t :: r) s = runT r (s.1, s.2 ++ [t]) := by
        show runT r (stepT s (.nw t)) = _
        simp [stepT, hs]
      rw [e]
      refine ⟨k1, ?_, k3, ?_⟩
      · rw [k2]
        simp [hs, edL, outT]
      · rw [k4, nN_nw]
        simp
        omega
    · obtain ⟨a, x, ha⟩ := snoc_of hs
      have e : runT (.nw t :: r) s = runT r (a ++ [⟨x.a, x.c, x.b ++ [t]⟩], s.2) := by
        show runT r (stepT s (.nw t)) = _
        rw [stepT, if_neg hs, ha, putB_app]
      have hN : N1 ≠ [] := fun z => by rw [z] at h1; exact hs (List.eq_nil_of_length_eq_zero h1)
      obtain ⟨M, m, rfl⟩ := snoc_of hN
      obtain ⟨k1, k2, k3, k4⟩ := runT_ok r (M ++ [m]) N2 (a ++ [⟨x.a, x.c, x.b ++ [t]⟩], s.2) (by rw [← h1, ha]; simp) h2' (fun e he => by
        rcases List.mem_append.mp he with he | he
        · exact h3 e (by rw [ha]; exact List.mem_append_left _ he)
        · rw [List.mem_singleton.mp he]; exact h3 x (by rw [ha]; simp)) h4' (fun e he => by
        rcases List.mem_append.mp he with he | he
        · exact h5 e (by rw [ha]; exact List.mem_append_left _ he)
        · rw [List.mem_singleton.mp he]; exact h5 x (by rw [ha]; simp))
      rw [e]
      have hl : M.length = a.length := by
        have := h1
        rw [ha] at this
        simp at this
        omega
      refine ⟨k1, ?_, k3, ?_⟩
      · rw [k2]
        simp only
        rw [ha, edL_snoc hl, edL_snoc hl]
        simp [piece, outT]
      · rw [k4, ha, nN_nw]
        simp
        omega
theorem nL_app (a b : List Tk) : nL (a ++ b) = nL a + nL b := by simp [nL]
theorem outT_app : ∀ {a b : List Tk} {N M : List Tx}, nL a = N.length → outT (a ++ b) (N ++ M) = outT a N ++ outT b M
  | [], b, N, M, h => by
    have : N = [] := List.eq_nil_of_length_eq_zero h.symm
    subst this
    rfl
  | .nw t :: a, b, N, M, h => by
    have h' : nL a = N.length := by simpa [nL_nw] using h
    show t :: outT (a ++ b) (N ++ M) = t :: outT a N ++ outT b M
    rw [outT_app h']
    rfl
  | .ln c :: a, b, [], M, h => by simp [nL_ln] at h
  | .ln c :: a, b, n :: N, M, h => by
    have h' : nL a = N.length := by simp [nL_ln] at h; omega
    show mid n c ++ outT (a ++ b) (N ++ M) = (mid n c ++ outT a N) ++ outT b M
    rw [outT_app h', List.append_assoc]
/-- the edits that tokens give -/
theorem eot_ok {tk : List Tk} {N : List Tx} (h : nL tk = N.length) (hc : ∀ t ∈ tk, ∀ c, t = .ln c → Ch c) (hn : N ≠ []) : ∃ es, eot tk = some es ∧ es.length = N.length ∧ edL N es = outT tk N ∧ ∀ e ∈ es, e.Ok (nN tk) := by
  obtain ⟨k1, k2, k3, k4⟩ := runT_ok tk [] N ([], []) rfl h (fun e he => by cases he) hc (fun e he => by cases he)
  unfold eot
  simp only
  generalize runT tk ([], []) = s at k1 k2 k3 k4
  obtain ⟨es, bf⟩ := s
  simp only [List.length_nil, Nat.zero_add, List.nil_append, List.map_nil, List.sum_nil] at k1 k2 k3 k4
  have k4 : bf.length + (es.map fun e => e.b.length).sum = nN tk := by simpa using k4
  cases es with
  | nil => exact absurd (List.eq_nil_of_length_eq_zero k1.symm) hn
  | cons e es =>
    cases N with
    | nil => exact absurd rfl hn
    | cons n N =>
      refine ⟨_, by rw [if_neg (by simp)], by simpa [ahd] using k1, ?_, fun x hx => ?_⟩
      · have e1 : edL [] ([] : List Ed) = [] := rfl
        rw [e1, List.nil_append] at k2
        rw [← k2]
        simp only [ahd, edL_cons, piece, (k3 e List.mem_cons_self).1]
        simp
      · have bd : ∀ (l : List Ed) (y : Ed), y ∈ l → y.b.length ≤ (l.map fun e => e.b.length).sum := by
          intro l
          induction l with
          | nil => intro y hy; cases hy
          | cons z l ih =>
            intro y hy
            rcases List.mem_cons.mp hy with rfl | hy
            · simp
            · have := ih y hy
              simp
              omega
        simp only [List.map_cons, List.sum_cons] at k4
        rcases List.mem_cons.mp hx with rfl | hx
        · exact ⟨by simp [(k3 e List.mem_cons_self).1]; omega, by simp; omega, (k3 e List.mem_cons_self).2⟩
        · have h1 := k3 x (List.mem_cons_of_mem _ hx)
          have h2 := bd es x hx
          exact ⟨by rw [h1.1]; simp, by omega, h1.2⟩
theorem eot_none {tk : List Tk} (h : nL tk = 0) (hn : tk ≠ []) : eot tk = none := by
  have key : ∀ (tk : List Tk) (bf : List Tx), nL tk = 0 → (runT tk ([], bf)).1 = [] ∧ (runT tk ([], bf)).2.length = bf.length + tk.length := by
    intro tk
    induction tk with
    | nil => intro bf _; exact ⟨rfl, rfl⟩
    | cons t r ih =>
      intro bf h
      cases t with
      | ln c => simp [nL_ln] at h
      | nw t =>
        obtain ⟨i1, i2⟩ := ih (bf ++ [t]) (by simpa [nL_nw] using h)
        exact ⟨i1, by
          show (runT r ([], bf ++ [t])).2.length = _
          rw [i2]
          simp
          omega⟩
  obtain ⟨k1, k2⟩ := key tk [] h
  unfold eot
  simp only
  rw [if_pos ⟨fun z => by
    rw [z] at k2
    simp at k2
    exact hn (List.eq_nil_of_length_eq_zero (by omega)), k1⟩]
/-! ### turned back -/
def tkL (p : Tx × Ed) : List Tk := p.2.a.map (fun _ => .ln [dropT]) ++ [if p.2.c = [dropT] then .nw p.1 else if p.2.c = [keepT] ∨ p.2.c = [textT, p.1] then .ln [keepT] else .ln [textT, p.1]] ++ p.2.b.map (fun _ => .ln [dropT])
def tokL (ts : List Tx) (es : List Ed) : List Tk := (ts.zip es).flatMap tkL
theorem nL_map (l : List Tx) : nL (l.map fun _ => .ln [dropT]) = l.length := by
  induction l with
  | nil => rfl
  | cons x l ih => rw [List.map_cons, nL_ln, ih]; rfl
theorem outT_drop (l : List Tx) : outT (l.map fun _ => .ln [dropT]) l = [] := by
  induction l with
  | nil => rfl
  | cons x l ih =>
    show mid x [dropT] ++ outT (l.map fun _ => .ln [dropT]) l = []
    rw [ih]
    simp [mid, keepT, dropT]
theorem tkL_nL {t : Tx} {e : Ed} (h : Ch e.c) : nL (tkL (t, e)) = (piece (t, e)).length := by
  simp only [tkL, piece, nL_app, nL_map, List.length_append]
  congr 2
  rcases h with h | h | ⟨u, h⟩
  · simp [h, keepT, dropT, nL, mid]; rfl
  · simp [h, keepT, dropT, nL, mid]; rfl
  · by_cases hu : u = t
    · subst hu; simp [h, keepT, dropT, textT, nL, mid]; rfl
    · simp [h, keepT, dropT, textT, nL, mid, hu]; rfl
theorem tkL_out {t : Tx} {e : Ed} (h : Ch e.c) : outT (tkL (t, e)) (piece (t, e)) = [t] := by
  have hl : nL [if e.c = [dropT] then Tk.nw t else if e.c = [keepT] ∨ e.c = [textT, t] then .ln [keepT] else .ln [textT, t]] = (mid t e.c).length := by
    have := tkL_nL (t := t) h
    simp only [tkL, piece, nL_app, nL_map, List.length_append] at this
    omega
  unfold tkL piece
  simp only
  rw [outT_app (by rw [nL_app, nL_map, hl]; simp), outT_app (nL_map _), outT_drop, outT_drop]
  rcases h with h | h | ⟨u, h⟩
  · simp [h, keepT, dropT, outT, mid]
  · simp [h, keepT, dropT, outT, mid]
  · by_cases hu : u = t
    · subst hu; simp [h, keepT, dropT, textT, outT, mid]
    · simp [h, keepT, dropT, textT, outT, mid, hu]
theorem tokL_ok : ∀ {ts : List Tx} {es : List Ed}, ts.length = es.length → (∀ e ∈ es, Ch e.c) → nL (tokL ts es) = (edL ts es).length ∧ outT (tokL ts es) (edL ts es) = ts ∧ nN (tokL ts es) ≤ ts.length
  | [], [], _, _ => ⟨rfl, rfl, Nat.le_refl _⟩
  | [], _ :: _, h, _ => by simp at h
  | _ :: _, [], h, _ => by simp at h
  | t :: ts, e :: es, h, hc => by
    have c1 := hc e List.mem_cons_self
    obtain ⟨k1, k2, k3⟩ := tokL_ok (ts := ts) (es := es) (by simpa using h) fun x hx => hc x (List.mem_cons_of_mem _ hx)
    have e1 : tokL (t :: ts) (e :: es) = tkL (t, e) ++ tokL ts es := rfl
    refine ⟨?_, ?_, ?_⟩
    · rw [e1, edL_cons, nL_app, tkL_nL c1, k1, List.length_append]
    · rw [e1, edL_cons, outT_app (tkL_nL c1), tkL_out c1, k2]
      rfl
    · rw [e1]
      have z : ∀ l : List Tx, nN (l.map fun _ => Tk.ln [dropT]) = 0 := fun l => by
        induction l with
        | nil => rfl
        | cons x l ih => rw [List.map_cons, nN_ln, ih]
      have : nN (tkL (t, e)) ≤ 1 := by
        show nN (e.a.map (fun _ => .ln [dropT]) ++ [if e.c = [dropT] then .nw t else if e.c = [keepT] ∨ e.c = [textT, t] then .ln [keepT] else .ln [textT, t]] ++ e.b.map (fun _ => .ln [dropT])) ≤ 1
        rw [nN_app, nN_app, z, z]
        have : ∀ k : Tk, nN [k] ≤ 1 := fun k => by
          cases k with
          | ln c => rw [nN_ln]; exact Nat.zero_le _
          | nw c => rw [nN_nw]; exact Nat.le_refl _
        have := this (if e.c = [dropT] then .nw t else if e.c = [keepT] ∨ e.c = [textT, t] then .ln [keepT] else .ln [textT, t])
        omega
      have h2 : nN (tkL (t, e) ++ tokL ts es) = nN (tkL (t, e)) + nN (tokL ts es) := nN_app _ _
      rw [h2]
      simp
      omega
theorem tokL_ch {ts : List Tx} {es : List Ed} : ∀ t ∈ tokL ts es, ∀ c, t = .ln c → Ch c := by
  intro t ht c hc
  subst hc
  obtain ⟨⟨x, e⟩, _, h⟩ := List.mem_flatMap.mp ht
  simp only [tkL, List.mem_append, List.mem_map, List.mem_singleton] at h
  rcases h with (⟨_, _, h⟩ | h) | ⟨_, _, h⟩
  · cases h; exact .inr (.inl rfl)
  · split at h
    · cases h
    · split at h
      · cases h; exact .inl rfl
      · cases h; exact .inr (.inr ⟨_, rfl⟩)
  · cases h; exact .inr (.inl rfl)
end C

set_option Elab.async false
set_option linter.all false
set_option maxRecDepth 100000
set_option maxHeartbeats 4000000
/-! the runs of edits_of_tokens, inverse -/
namespace G
open PySem PySem.Spec PyProof.Rows L2
theorem gdB_ref {p : Nat} {l : List Va} {st : Sto} (h : st[p]? = some (some (.lst l))) : gdB (some (p, l)) st = true := by
  unfold gdB
  simp only [h, vasEq_refl]
theorem itV_ref {p : Nat} {l : List Va} {st : Sto} (h : st[p]? = some (some (.lst l))) : itV (.ref p) st = .ok (l, some (p, l)) st := by
  unfold itV
  simp only [h]
theorem truV_ref {p : Nat} {l : List Va} {st : Sto} (h : st[p]? = some (some (.lst l))) : truV (.ref p) st = some (!l.isEmpty) := by
  unfold truV
  simp only [dicOf_ref h, seqOf_ref h]
theorem callP_ref {φ : Fn} {p : Nat} {l : List Va} {st : Sto} {w : Va} {s : Sto} (e : st[p]? = some (some (.lst l))) (hf : frees l = true) (h : φ [.lst l] = .ok w s) : ∃ st', callP false φ [.ref p] st = .ok w st' := by
  unfold callP
  rw [if_neg (by simp)]
  have : mapS (freezeN 20) [.ref p] st = some ([.lst l], st.set p none) := by
    unfold mapS
    rw [freeze_lst e hf]
    rfl
  rw [this]
  simp only [h]
  exact ⟨_, rfl⟩
theorem callP_refE {φ : Fn} {p : Nat} {l : List Va} {st : Sto} {x : Exc} {s : Sto} (e : st[p]? = some (some (.lst l))) (hf : frees l = true) (h : φ [.lst l] = .err x s) : ∃ st', callP false φ [.ref p] st = .err x st' := by
  unfold callP
  rw [if_neg (by simp)]
  have : mapS (freezeN 20) [.ref p] st = some ([.lst l], st.set p none) := by
    unfold mapS
    rw [freeze_lst e hf]
    rfl
  rw [this]
  simp only [h]
  split
  · exact ⟨_, rfl⟩
  · exact ⟨_, rfl⟩
theorem set_snoc {α : Type} (l : List α) (b x : α) {n : Nat} (h : n = l.length) : (l ++ [b]).set n x = l ++ [x] := by
  subst h
  simp
end G
namespace C
open PySem PySem.Spec PyProof.Rows L2 G
theorem ix_lastR {x : Va} {l : List Va} {w : Va} {st : Sto} (hs : seqOf x st = some (l ++ [w])) : ixV x (.int (-1)) st = .ok w st := by
  have h1 : dicOf x st = none ∧ G.strOf x = none := by
    cases x <;> simp [seqOf, lstOf, dicOf, G.strOf] at hs ⊢
    split at hs <;> simp_all
  unfold ixV
  rw [h1.1]
  have h2 : atI (l ++ [w]) (-1) = some w := by
    unfold atI ixN
    rw [if_neg (by decide), if_pos (by simp; omega)]
    have : ((-1 : Int) + ((l ++ [w]).length : Nat)).toNat = l.length := by simp; omega
    rw [this]
    simp
  simp only [intOf_int, h1.2, hs, h2]
def cells (es : List Ed) : Sto := es.flatMap fun e => [some (.lst (e.a.map .str)), some (.lst (e.b.map .str))]
def rowE (es : List Ed) : List Va := es.zipIdx.map fun p => .tup [.ref (2 + 2 * p.2), vTs p.1.c, .ref (3 + 2 * p.2)]
def S2 (es : List Ed) (bf : List Tx) : Sto := some (.lst (rowE es)) :: some (.lst (bf.map .str)) :: cells es
theorem cells_len (es : List Ed) : (cells es).length = 2 * es.length := by
  induction es with
  | nil => rfl
  | cons e es ih =>
    show (some _ :: some _ :: cells es).length = _
    simp [ih]
    omega
theorem rowE_snoc (es : List Ed) (e : Ed) : rowE (es ++ [e]) = rowE es ++ [.tup [.ref (2 + 2 * es.length), vTs e.c, .ref (3 + 2 * es.length)]] := by simp [rowE, List.zipIdx_append]
theorem rowE_len (es : List Ed) : (rowE es).length = es.length := by simp [rowE]
theorem cells_snoc (es : List Ed) (e : Ed) : cells (es ++ [e]) = cells es ++ [some (.lst (e.a.map .str)), some (.lst (e.b.map .str))] := by simp [cells]
theorem S2_len (es : List Ed) (bf : List Tx) : (S2 es bf).length = 2 + 2 * es.length := by simp [S2, cells_len]; omega
theorem cells_at : ∀ {es : List Ed} {i : Nat} {e : Ed}, es[i]? = some e → (cells es)[2 * i]? = some (some (.lst (e.a.map .str))) ∧ (cells es)[2 * i + 1]? = some (some (.lst (e.b.map .str)))
  | [], i, e, h => by simp at h
  | x :: es, 0, e, h => by
    cases h
    exact ⟨rfl, rfl⟩
  | x :: es, i + 1, e, h => by
    obtain ⟨k1, k2⟩ := cells_at (es := es) (i := i) h
    exact ⟨k1, k2⟩
theorem S2_at {es : List Ed} {bf : List Tx} {i : Nat} {e : Ed} (h : es[i]? = some e) : (S2 es bf)[2 + 2 * i]? = some (some (.lst (e.a.map .str))) ∧ (S2 es bf)[3 + 2 * i]? = some (some (.lst (e.b.map .str))) := by
  obtain ⟨k1, k2⟩ := cells_at h
  constructor
  · rw [show 2 + 2 * i = 2 * i + 1 + 1 by omega]
    exact k1
  · rw [show 3 + 2 * i = (2 * i + 1) + 1 + 1 by omega]
    exact k2
theorem S2_0 (es : List Ed) (bf : List Tx) : (S2 es bf)[0]? = some (some (.lst (rowE es))) := rfl
theorem S2_1 (es : List Ed) (bf : List Tx) : (S2 es bf)[1]? = some (some (.lst (bf.map .str))) := rfl
theorem lc_S2 {m : Bool} {x0 x3 x4 : Option Va} {es : List Ed} {bf : List Tx} (h1 : es.length ≤ 1000) (h2 : ∀ e ∈ es, e.a.length ≤ 1000 ∧ e.b.length ≤ 1000) : mLc m [5, 6, 7] (.inr [5, 6, 7]) (mIt (mVar 1)) mTyes (mTup (mCons (mFn tupleV (mCons (mVar 5) mNil)) (mCons (mVar 6) (mCons (mFn tupleV (mCons (mVar 7) mNil)) mNil)))) [x0, some (.ref 0), some (.ref 1), x3, x4, none, none, none] (S2 es bf) = mkL m (es.map vEd) (S2 es bf) := by
  have e0 := S2_0 es bf
  rw [mLc_map (gd := some (0, rowE es)) (env1 := [x0, some (.ref 0), some (.ref 1), x3, x4, none, none, none]) es.zipIdx (fun p => .tup [.ref (2 + 2 * p.2), vTs p.1.c, .ref (3 + 2 * p.2)]) (fun p => vEd p.1) (by
    show (mVar 1 _ _).bind itV = _
    rw [show mVar 1 [x0, some (.ref 0), some (.ref 1), x3, x4, none, none, none] (S2 es bf) = .ok (.ref 0) (S2 es bf) from rfl, R.bind_ok, itV_ref e0]
    rfl) (gdB_ref e0) rfl (fun p hp => by
    obtain ⟨e, i⟩ := p
    have hi : es[i]? = some e := by
      have := List.mem_zipIdx_iff_getElem?.mp hp
      simpa using this
    obtain ⟨k1, k2⟩ := S2_at (bf := bf) hi
    obtain ⟨l1, l2⟩ := h2 e (List.mem_of_getElem? hi)
    refine ⟨_, rfl, rfl, ?_⟩
    simp -implicitDefEqProofs [mVar]
    rw [tup_ts k1 (by unfold sizeLine; omega), R.bind_ok, tup_ts k2 (by unfold sizeLine; omega)]
    simp -implicitDefEqProofs [mkT, sizeLine, vEd])]
  rw [show (fun p : Ed × Nat => vEd p.1) = vEd ∘ Prod.fst from rfl, ← List.map_map, List.zipIdx_map_fst]
def badT : Tx := [66, 97, 100, 80, 108, 97, 99, 101]
/-- what a made list is returned as -/
def outS (m : Bool) : Sto := if m then fresh else []
theorem ret_mk {m : Bool} {l : List Va} {st : Sto} (hl : l.length ≤ sizeLine) (hf : frees l = true) : ∃ v s, mkL m l st = .ok v s ∧ retV v s = .ok (.lst l) (outS m) := by
  cases m with
  | false => exact ⟨_, _, mkL_val hl, ret_free (by rw [free_lst]; exact hf)⟩
  | true => exact ⟨_, _, mkL_ref hl, ret_lst (by simp) hf⟩
theorem eotM_run {m : Bool} {L : Lm} {tk : List Tk} (hpl : L.xs.pl "BadPlace" = some badT) (hn : tk.length ≤ 1000) : runD L (D_eotM m) [.lst (tk.map vTk)] = match eot tk with
    | some es => .ok (.lst (es.map vEd)) (outS m)
    | none => .err ⟨badT, []⟩ [] := by
  refine runD_any _ [some (.lst (tk.map vTk)), none, none, none, none, none, none, none] rfl rfl fun Q hr he => ?_
  simp -implicitDefEqProofs [D_eotM, S_eotM, mVar, mkL, sizeLine]
  refine wp_for (fun k env st => ∃ x3 x4, env = [some (.lst (tk.map vTk)), some (.ref 0), some (.ref 1), x3, x4, none, none, none] ∧ st = S2 (runT (tk.take k) ([], [])).1 (runT (tk.take k) ([], [])).2 ∧ (runT (tk.take k) ([], [])).1.length ≤ k ∧ (runT (tk.take k) ([], [])).2.length ≤ k ∧ ∀ e ∈ (runT (tk.take k) ([], [])).1, e.a = [] ∧ e.b.length ≤ k) ?_ ?_ ?_
  · exact ⟨_, _, rfl, rfl, by simp [runT], by simp [runT], fun e he => by simp [runT] at he⟩
  · rintro k w env st Qb hw ⟨x3, x4, rfl, rfl, b1, b2, b3⟩ hnx _ _ _
    rw [List.getElem?_map] at hw
    obtain ⟨t, ht, rfl⟩ := Option.map_eq_some_iff.mp hw
    have hk : k < tk.length := (List.getElem?_eq_some_iff.mp ht).1
    have hq : runT (tk.take (k + 1)) ([], []) = stepT (runT (tk.take k) ([], [])) t := by
      unfold runT
      rw [List.take_succ, ht, List.foldl_append]
      rfl
    rw [hq] at hnx
    generalize runT (tk.take k) ([], []) = s at b1 b2 b3 hnx
    obtain ⟨es, bf⟩ := s
    simp only at b1 b2 b3 hnx
    have e0 := S2_0 es bf
    have e1 := S2_1 es bf
    have el := S2_len es bf
    have rl := rowE_len es
    cases t with
    | ln c =>
      refine ⟨rfl, _, rfl, ?_⟩
      simp -implicitDefEqProofs [mVar, vTk, lineT, mkT, sizeLine, mkL]
      have e2 : (S2 es bf ++ [some (Ob.lst [])] ++ [some (Ob.lst [])])[0]? = some (some (.lst (rowE es))) := rfl
      have e2' : (S2 es bf ++ [some (Ob.lst []), some (Ob.lst [])])[0]? = some (some (.lst (rowE es))) := rfl
      simp -implicitDefEqProofs [tyB_ref e0, tyB_ref e2']
      rw [append_ok e2' (by rw [rl]; unfold sizeLine; omega)]
      simp -implicitDefEqProofs
      refine hnx _ _ ⟨_, _, rfl, ?_, by simp [stepT]; omega, by simp [stepT]; omega, fun e he => ?_⟩
      · rw [el, show 2 + 2 * es.length + 1 = 3 + 2 * es.length by omega]
        simp only [stepT, S2, rowE_snoc, cells_snoc]
        simp
      · simp only [stepT, List.mem_append, List.mem_singleton] at he
        rcases he with he | rfl
        · have := b3 e he
          exact ⟨this.1, by omega⟩
        · simp
    | nw t =>
      refine ⟨rfl, _, rfl, ?_⟩
      by_cases hs : es = []
      · subst hs
        have tr : truV (.ref 0) (S2 [] bf) = some false := truV_ref e0
        simp -implicitDefEqProofs [mVar, vTk, newT, tr, tyB_ref e1]
        rw [append_ok e1 (by simp [sizeLine]; omega)]
        simp -implicitDefEqProofs
        refine hnx _ _ ⟨_, _, rfl, ?_, by simp [stepT], by simp [stepT]; omega, fun e he => by simp [stepT] at he⟩
        simp [stepT, S2, cells]
      · obtain ⟨a, x, rfl⟩ := snoc_of hs
        have tr : truV (.ref 0) (S2 (a ++ [x]) bf) = some true := by
          rw [truV_ref e0, rowE_snoc]
          simp
        have ix := ix_lastR (seqOf_ref (by rw [e0, rowE_snoc] : (S2 (a ++ [x]) bf)[0]? = some (some (.lst (rowE a ++ [.tup [.ref (2 + 2 * a.length), vTs x.c, .ref (3 + 2 * a.length)]])))))
        obtain ⟨_, e4⟩ := S2_at (bf := bf) (i := a.length) (es := a ++ [x]) (e := x) (by simp)
        simp -implicitDefEqProofs [mVar, vTk, newT, tr, ix, tyB_ref e4]
        have hb := (b3 x (by simp)).2
        have ha := (b3 x (by simp)).1
        rw [append_ok e4 (by simp [sizeLine]; omega)]
        simp -implicitDefEqProofs
        have hst : stepT (a ++ [x], bf) (.nw t) = (a ++ [⟨x.a, x.c, x.b ++ [t]⟩], bf) := by
          simp only [stepT, if_neg hs, putB_app]
        rw [hst] at hnx
        refine hnx _ _ ⟨_, _, rfl, ?_, by simp at b1 ⊢; omega, by simp; omega, fun e he => ?_⟩
        · have q1 : ∀ y : Ed, S2 (a ++ [y]) bf = (some (Ob.lst (rowE (a ++ [y]))) :: some (.lst (bf.map .str)) :: (cells a ++ [some (.lst (y.a.map .str))])) ++ [some (.lst (y.b.map .str))] := fun y => by simp [S2, cells_snoc]
          rw [q1, q1, set_snoc _ _ _ (by simp [cells_len]; omega)]
          simp [rowE_snoc]
        · simp only [List.mem_append, List.mem_singleton] at he
          rcases he with he | rfl
          · have := b3 e (by simp [he])
            exact ⟨this.1, by omega⟩
          · exact ⟨ha, by simp; omega⟩
  · rintro env st ⟨x3, x4, rfl, rfl, b1, b2, b3⟩
    refine ⟨rfl, ?_⟩
    rw [List.length_map, List.take_length] at *
    have he0 : eot tk = (if (runT tk ([], [])).2 ≠ [] ∧ (runT tk ([], [])).1 = [] then none else some (ahd (runT tk ([], [])).1 (runT tk ([], [])).2)) := rfl
    rw [he0] at hr he
    generalize runT tk ([], []) = s at b1 b2 b3 hr he
    obtain ⟨es, bf⟩ := s
    simp only at b1 b2 b3 hr he
    have e0 := S2_0 es bf
    have e1 := S2_1 es bf
    have t0 := truV_ref e0
    have t1 := truV_ref e1
    cases es with
    | nil =>
      cases bf with
      | nil =>
        simp -implicitDefEqProofs [mVar, t0, t1, rowE]
        have := lc_S2 (m := m) (es := []) (bf := []) (x0 := some (.lst (tk.map vTk))) (x3 := x3) (x4 := x4) (by simp) (fun e he => by cases he)
        obtain ⟨v, s, q1, q2⟩ := ret_mk (m := m) (l := ([] : List Ed).map vEd) (st := S2 [] []) (by simp) rfl
        rw [this, q1]
        simp -implicitDefEqProofs
        exact hr _ _ q2
      | cons b bf =>
        simp -implicitDefEqProofs [mVar, t0, t1, hpl, rowE]
        exact he _ _ _ rfl rfl
    | cons e es =>
      cases bf with
      | nil =>
        simp -implicitDefEqProofs [mVar, t0, t1, hpl, rowE]
        have := lc_S2 (m := m) (es := e :: es) (bf := []) (x0 := some (.lst (tk.map vTk))) (x3 := x3) (x4 := x4) (by omega) (fun y hy => by
          have := b3 y hy
          exact ⟨by rw [this.1]; simp, by omega⟩)
        · obtain ⟨v, s, q1, q2⟩ := ret_mk (m := m) (l := (e :: es).map vEd) (st := S2 (e :: es) []) (by rw [List.length_map]; unfold sizeLine; omega) (frees_map free_vEd)
          rw [this, q1]
          simp -implicitDefEqProofs
          refine hr _ _ ?_
          rw [q2]
          simp [ahd]
      | cons b bf =>
        have hae := (b3 e List.mem_cons_self).1
        have e2 : (S2 (e :: es) (b :: bf))[2]? = some (some (.lst (e.a.map .str))) := rfl
        have ix : ∀ st : Sto, st = S2 (e :: es) (b :: bf) → ixV (.ref 0) (.int 0) st = .ok (.tup [.ref 2, vTs e.c, .ref 3]) st := fun st h => by
          subst h
          exact ixV_lit (i := 0) (seqOf_ref e0) (by simp [rowE]) rfl
        have hre : rowE (e :: es) ≠ [] := by simp [rowE]
        simp -implicitDefEqProofs [mVar, t0, t1, ix _ rfl, tyB_ref e2, hre]
        rw [extend_lst e2 (lstOf_ref e1) (by rw [hae]; simp [sizeLine] at b2 ⊢; omega)]
        have e3 : (S2 (e :: es) (b :: bf)).set 2 (some (.lst (e.a.map .str ++ (b :: bf).map .str))) = S2 (ahd (e :: es) (b :: bf)) (b :: bf) := by
          simp [S2, cells, rowE, ahd]
        rw [e3]
        simp -implicitDefEqProofs
        have := lc_S2 (m := m) (es := ahd (e :: es) (b :: bf)) (bf := b :: bf) (x0 := some (.lst (tk.map vTk))) (x3 := x3) (x4 := x4) (by simp [ahd] at b1 ⊢; omega) (fun y hy => by
          rcases List.mem_cons.mp hy with rfl | hy
          · have := b3 e List.mem_cons_self
            exact ⟨by rw [hae]; simp at b2 ⊢; omega, by simp only; omega⟩
          · have := b3 y (List.mem_cons_of_mem _ hy)
            exact ⟨by rw [this.1]; simp, by omega⟩)
        obtain ⟨v, s, q1, q2⟩ := ret_mk (m := m) (l := (ahd (e :: es) (b :: bf)).map vEd) (st := S2 (ahd (e :: es) (b :: bf)) (b :: bf)) (by rw [List.length_map]; simp [ahd, sizeLine] at b1 ⊢; omega) (frees_map free_vEd)
        rw [this, q1]
        simp -implicitDefEqProofs
        refine hr _ _ ?_
        rw [q2]
        simp
theorem eot_run {L : Lm} {tk : List Tk} (hpl : L.xs.pl "BadPlace" = some badT) (hn : tk.length ≤ 1000) : runD L D_edits_of_tokens [.lst (tk.map vTk)] = match eot tk with
    | some es => .ok (.lst (es.map vEd)) []
    | none => .err ⟨badT, []⟩ [] := eotM_run (m := false) hpl hn
@[simp] theorem kdn : (keepT = dropT) = False := by simp [keepT, dropT]
@[simp] theorem dkn : (dropT = keepT) = False := by simp [keepT, dropT]
theorem eqV_vTs {neg : Bool} (a b : List Tx) (st : Sto) : G.eqV neg (vTs a) (vTs b) st = .ok (.bl (if neg then !decide (a = b) else decide (a = b))) st := by rw [eqV_dat (dat_vTs _ _) (dat_vTs _ _), eqd_vTs]
theorem tkL_len {B : Nat} {p : Tx × Ed} (h : p.2.Ok B) : (tkL p).length ≤ 2 * B + 1 := by
  have := h.a
  have := h.b
  simp [tkL]
  omega
theorem inverse_run {L : Lm} {ts : List Tx} {es : List Ed} (hD : L.gl "DROP" = some (vTs [dropT])) (hK : L.gl "KEEP" = some (vTs [keepT]))
    (hf : ∀ {tk : List Tk}, tk.length ≤ 1000 → L.fn "edits_of_tokens" [.lst (tk.map vTk)] = match eot tk with
      | some es => .ok (.lst (es.map vEd)) []
      | none => .err ⟨badT, []⟩ []) (hl : ts.length = es.length) (hn : ts.length ≤ 100) (ho : ∀ e ∈ es, e.Ok 2) :
    runD L D_inverse [.lst (ts.map .str), .lst (es.map vEd)] = match eot (tokL ts es) with
      | some es => .ok (.lst (es.map vEd)) []
      | none => .err ⟨badT, []⟩ [] := by
  have hlen : ∀ k, (((ts.zip es).take k).flatMap tkL).length ≤ 5 * 100 := fun k => by
    refine Nat.le_trans (flat_len tkL 5 fun p hp => ?_) (Nat.mul_le_mul_left _ ?_)
    · have : p.2 ∈ es := (List.of_mem_zip (List.mem_of_mem_take hp)).2
      exact tkL_len (ho _ this)
    · simp
      omega
  refine runD_any _ [some (.lst (ts.map .str)), some (.lst (es.map vEd)), none, none, none, none, none, none, none] rfl rfl fun Q hr he => ?_
  simp -implicitDefEqProofs [D_inverse, S_inverse, mVar, mkL, sizeLine]
  refine wp_for (fun k env st => ∃ x3 x4 x5 x6 x7, env = [some (.lst (ts.map .str)), some (.lst (es.map vEd)), some (.ref 0), x3, x4, x5, x6, x7, none] ∧ st = [some (.lst ((((ts.zip es).take k).flatMap tkL).map vTk))]) ?_ ?_ ?_
  · exact ⟨_, _, _, _, _, rfl, rfl⟩
  · rintro k w env st Qb hw ⟨x3, x4, x5, x6, x7, rfl, rfl⟩ hnx _ _ _
    obtain ⟨y, hy, rfl⟩ := numbered_at hw
    rw [List.getElem?_map] at hy
    obtain ⟨t, ht, rfl⟩ := Option.map_eq_some_iff.mp hy
    have hk : k < ts.length := (List.getElem?_eq_some_iff.mp ht).1
    obtain ⟨e, hee⟩ : ∃ e, es[k]? = some e := ⟨_, List.getElem?_eq_getElem (by omega)⟩
    obtain ⟨oa, ob, oc⟩ := ho e (List.mem_of_getElem? hee)
    have hq := take_flat tkL (zip_at ht hee)
    have hM := hlen k
    rw [hq] at hnx
    generalize ((ts.zip es).take k).flatMap tkL = M at hM hnx
    refine ⟨rfl, _, rfl, ?_⟩
    have hix : ∀ st, ixV (.lst (es.map vEd)) (.int (k : Nat)) st = .ok (.tup [vTs e.a, vTs e.c, vTs e.b]) st := fun st => ixV_int rfl (by rw [List.getElem?_map, hee]; rfl)
    have lc : ∀ (v : Nat) (l : List Tx) (env : Ev) (st : Sto), env[v]? = some (some (vTs l)) → env.length = 9 → l.length ≤ 2 → mLc false [8] (.inl 8) (mIt (mVar v)) mTyes (mTup (mCons (mC (.str [108, 105, 110, 101])) (mCons (mC (vTs [dropT])) mNil))) env st = .ok (.lst ((l.map fun _ => Tk.ln [dropT]).map vTk)) st := fun v l env st h1 h3 h2 => by
      rw [mLc_map (gd := none) (env1 := wipeE env [8]) l Va.str (fun _ => vTk (.ln [dropT])) (by
        rw [mIt_eq, mVar_ok h1, R.bind_ok, vTs]
        rfl) rfl rfl (fun x hx => ⟨_, rfl, rfl, by simp -implicitDefEqProofs [mkT, sizeLine, vTk, lineT]⟩), mkL_val (by simp [sizeLine]; omega)]
      simp
    simp -implicitDefEqProofs [mVar, hix, hD, hK]
    rw [lc 5 e.a _ _ rfl rfl oa]
    simp -implicitDefEqProofs [mVar, tyB, lstOf]
    rw [extend_lst rfl rfl (by simp [sizeLine]; omega)]
    simp -implicitDefEqProofs [mVar]
    refine wp_cut (fun ev s => s = [some (.lst ((M ++ e.a.map (fun _ => Tk.ln [dropT]) ++ [if e.c = [dropT] then Tk.nw t else if e.c = [keepT] ∨ e.c = [textT, t] then .ln [keepT] else .ln [textT, t]]).map vTk))] ∧ ev = [some (.lst (ts.map .str)), some (.lst (es.map vEd)), some (.ref 0), some (.int (k : Nat)), some (.str t), some (vTs e.a), some (vTs e.c), some (vTs e.b), none]) (fun R h _ _ _ => ?_) ?_
    · have qE := @eqV_vTs false
      rcases oc with oc | oc | ⟨u, oc⟩
      · have h1 : (e.c = [dropT]) = False := by simp [oc]
        have h2 : (e.c = [keepT]) = True := by simp [oc]
        simp only [h1, h2, if_false, true_or, if_true] at h
        simp -implicitDefEqProofs [mVar, qE, h1, h2, mkT, sizeLine, tyB, lstOf]
        rw [append0 (by simp [sizeLine]; omega)]
        simp -implicitDefEqProofs
        exact h _ _ ⟨by simp [vTk, lineT], rfl⟩
      · have h1 : (e.c = [dropT]) = True := by simp [oc]
        simp only [h1, if_true] at h
        simp -implicitDefEqProofs [mVar, qE, h1, mkT, sizeLine, tyB, lstOf]
        rw [append0 (by simp [sizeLine]; omega)]
        simp -implicitDefEqProofs
        exact h _ _ ⟨by simp [vTk, newT], rfl⟩
      · have ixu : ∀ st, ixV (vTs e.c) (.int 1) st = .ok (.str u) st := fun st => by rw [oc]; exact ix_tup1 _ _ _
        have h1 : (e.c = [dropT]) = False := by simp [oc]
        have h2 : (e.c = [keepT]) = False := by simp [oc]
        by_cases hu : u = t
        · have h3 : (e.c = [textT, t]) = True := by simp [oc, hu]
          simp only [h1, h2, h3, if_false, or_true, if_true] at h
          simp -implicitDefEqProofs [mVar, qE, h1, h2, ixu, hu, mkT, sizeLine, tyB, lstOf]
          rw [append0 (by simp [sizeLine]; omega)]
          simp -implicitDefEqProofs
          exact h _ _ ⟨by simp [vTk, lineT], rfl⟩
        · have h3 : (e.c = [textT, t]) = False := by simp [oc, hu]
          simp only [h1, h2, h3, if_false, or_false] at h
          simp -implicitDefEqProofs [mVar, qE, h1, h2, ixu, hu, mkT, sizeLine, tyB, lstOf]
          rw [append0 (by simp [sizeLine]; omega)]
          simp -implicitDefEqProofs
          exact h _ _ ⟨by simp [vTk, lineT, vTs, textT], rfl⟩
    · rintro ev s ⟨rfl, rfl⟩
      simp -implicitDefEqProofs [mVar, hD]
      rw [lc 7 e.b _ _ rfl rfl ob]
      simp -implicitDefEqProofs [mVar, tyB, lstOf]
      rw [extend_lst rfl rfl (by simp [sizeLine]; omega)]
      simp -implicitDefEqProofs
      refine hnx _ _ ⟨_, _, _, _, _, rfl, ?_⟩
      simp [tkL]
  · rintro env st ⟨x3, x4, x5, x6, x7, rfl, rfl⟩
    refine ⟨rfl, ?_⟩
    have hM := hlen ts.length
    have ef : ((ts.zip es).take ts.length).flatMap tkL = tokL ts es := by rw [List.take_of_length_le (by simp; omega)]; rfl
    simp -implicitDefEqProofs [-List.map_take, mVar]
    rw [ef] at hM ⊢
    have hc := hf (tk := tokL ts es) (by omega)
    have hfr : frees ((tokL ts es).map vTk) = true := frees_map free_vTk
    cases ee : eot (tokL ts es) with
    | some es' =>
      rw [ee] at hc hr
      obtain ⟨st', e'⟩ := callP_ref (p := 0) (st := [some (.lst ((tokL ts es).map vTk))]) rfl hfr hc
      rw [e']
      simp -implicitDefEqProofs
      exact hr _ _ (ret_free (by rw [free_lst]; exact frees_map free_vEd))
    | none =>
      rw [ee] at hc he
      obtain ⟨st', e'⟩ := callP_refE (p := 0) (st := [some (.lst ((tokL ts es).map vTk))]) rfl hfr hc
      rw [e']
      simp -implicitDefEqProofs
      exact he _ _ _ rfl rfl
end C

set_option Elab.async false
set_option linter.all false
set_option maxRecDepth 100000
set_option maxHeartbeats 4000000
/-! sections: what follows from them -/
namespace D
open PySem PySem.Spec PyProof.Rows L2 G C
theorem pd_ref {p n : Nat} {l : List Va} {st : Sto} (h : st[p]? = some (some (.lst l))) (hl : dats n l = true) : pd (n + 1) st (.ref p) = some (.list (toPds l)) := by
  simp [pd, h, pd_dats hl st]
theorem inV_ref {neg : Bool} {x : Va} {p : Nat} {l : List Va} {st : Sto} (h : st[p]? = some (some (.lst l))) (hx : dat 40 x = true) (hl : dats 39 l = true) : inV' neg x (.ref p) st = .ok (.bl (if neg then !(l.any fun y => eqd y x) else l.any fun y => eqd y x)) st := by
  unfold inV'
  simp only [strOf_ref, dicOf_ref h, pd_dat hx st, pd_ref h hl, toPds_map, List.any_map]
  rfl
theorem any_str (l : List Tx) (n : Tx) : ((l.map Va.str).any fun y => eqd y (.str n)) = decide (n ∈ l) := by
  induction l with
  | nil => rfl
  | cons x l ih =>
    rw [List.map_cons, List.any_cons, ih, eqd_str]
    by_cases h : x = n
    · simp [h]
    · have : ¬ n = x := fun e => h e.symm
      simp [h, this]
theorem dats_str (n : Nat) (l : List Tx) : dats n (l.map Va.str) = true := dats_map fun _ => by simp
/-- one after the other, each once -/
def dedup (acc : List Tx) (l : List Tx) : List Tx := l.foldl (fun acc x => if x ∈ acc then acc else acc ++ [x]) acc
def namesOf (S : List Sec) : List Tx := dedup [] (S.map (·.1))
theorem dedup_len : ∀ (l acc : List Tx), (dedup acc l).length ≤ acc.length + l.length
  | [], acc => by simp [dedup]
  | x :: l, acc => by
    show (dedup (if x ∈ acc then acc else acc ++ [x]) l).length ≤ _
    have := dedup_len l (if x ∈ acc then acc else acc ++ [x])
    split at this <;> split <;> simp_all <;> omega
theorem secs_len (d : List Ln) : (secs d).length ≤ d.length := secsK_len _
theorem stepS_end {acc : List Sec} {k : Nat} {l : Ln} (h : ∀ s ∈ acc, s.2.2 ≤ k) : ∀ s ∈ stepS acc k l, s.2.2 ≤ k + 1 := by
  intro s hs
  have old : s ∈ acc → s.2.2 ≤ k + 1 := fun q => Nat.le_succ_of_le (h s q)
  cases l with
  | hd n =>
    rcases List.mem_append.mp hs with hs | hs
    · exact old hs
    · rw [List.mem_singleton.mp hs]; exact Nat.le_refl _
  | pr t => exact old hs
  | us i n =>
    cases e : acc.getLast? with
    | none => simp only [stepS, e] at hs; exact old hs
    | some x =>
      simp only [stepS, e] at hs
      rcases List.mem_append.mp hs with hs | hs
      · exact old (List.dropLast_subset _ hs)
      · rw [List.mem_singleton.mp hs]; exact Nat.le_refl _
  | co t =>
    cases e : acc.getLast? with
    | none => simp only [stepS, e] at hs; exact old hs
    | some x =>
      simp only [stepS, e] at hs
      rcases List.mem_append.mp hs with hs | hs
      · exact old (List.dropLast_subset _ hs)
      · rw [List.mem_singleton.mp hs]; exact Nat.le_refl _
theorem secsK_end {d : List Ln} : ∀ k, ∀ s ∈ secsK d k, s.2.2 ≤ k
  | 0, s, hs => by cases hs
  | k + 1, s, hs => by
    rw [secsK] at hs
    cases e : d[k]? with
    | none => rw [e] at hs; exact Nat.le_succ_of_le (secsK_end k s hs)
    | some l => rw [e] at hs; exact stepS_end (secsK_end k) s hs
theorem secs_end {d : List Ln} {s : Sec} (h : s ∈ secs d) : s.2.2 ≤ d.length := secsK_end _ s h
theorem names_step {S : List Sec} {k : Nat} {s : Sec} (h : S[k]? = some s) : namesOf (S.take (k + 1)) = if s.1 ∈ namesOf (S.take k) then namesOf (S.take k) else namesOf (S.take k) ++ [s.1] := by
  unfold namesOf dedup
  rw [List.take_succ, h]
  simp [List.map_append, List.foldl_append]
theorem names_bd (S : List Sec) (k : Nat) : (namesOf (S.take k)).length ≤ k := by
  have := dedup_len ((S.take k).map (·.1)) []
  have h2 := List.length_take_le k S
  unfold namesOf
  rw [List.length_map] at this
  simp only [List.length_nil] at this
  omega
theorem names_ok {L : Lm} {d : List Ln} (hl : d.length ≤ 1000) (hs : L.fn "sections" [.tup (d.map vLn)] = .ok (.lst ((secs d).map vSec)) fresh) : runD L D_piece_names [.tup (d.map vLn)] = .ok (.lst ((namesOf (secs d)).map .str)) fresh := by
  have hc : ∀ st, callP false (L.fn "sections") [.tup (d.map vLn)] st = .ok (.lst ((secs d).map vSec)) st := fun st => callP_free (by simp [frees_map free_vLn]) hs
  have hsl := secs_len d
  refine runD_of (fun v s => v = .ref 0 ∧ s = [some (.lst ((namesOf (secs d)).map .str))]) [some (.tup (d.map vLn)), none, none, none, none] rfl rfl (fun v s ⟨h1, h2⟩ => ?_) fun Q hr => ?_
  · subst h1 h2
    exact ret_lst rfl (frees_map fun _ => rfl)
  simp -implicitDefEqProofs [D_piece_names, S_piece_names, mVar, mkL, sizeLine, hc]
  refine wp_for (fun k env st => ∃ x2 x3 x4, env = [some (.tup (d.map vLn)), some (.ref 0), x2, x3, x4] ∧ st = [some (.lst ((namesOf ((secs d).take k)).map .str))]) ⟨_, _, _, rfl, rfl⟩ ?_ ?_
  · rintro k w env st Qb hw ⟨x2, x3, x4, rfl, rfl⟩ hnx _ _ _
    rw [List.getElem?_map] at hw
    obtain ⟨s, hs, rfl⟩ := Option.map_eq_some_iff.mp hw
    have hk : k < (secs d).length := (List.getElem?_eq_some_iff.mp hs).1
    have hq := names_step hs
    have hb := names_bd (secs d) k
    rw [hq] at hnx
    generalize namesOf ((secs d).take k) = M at hnx hb
    refine ⟨rfl, _, rfl, ?_⟩
    have hin : inV' true (.str s.1) (.ref 0) [some (.lst (M.map .str))] = .ok (.bl (!decide (s.1 ∈ M))) [some (.lst (M.map .str))] := by
      rw [inV_ref rfl (by simp) (dats_str _ _), any_str]
      rfl
    simp -implicitDefEqProofs [mVar, vSec, hin]
    by_cases hm : s.1 ∈ M
    · rw [if_pos hm] at hnx
      simp -implicitDefEqProofs [hm]
      exact hnx _ _ ⟨_, _, _, rfl, rfl⟩
    · rw [if_neg hm] at hnx
      simp -implicitDefEqProofs [hm, mVar, tyB, lstOf]
      rw [append0 (by simp [sizeLine]; omega)]
      simp -implicitDefEqProofs
      exact hnx _ _ ⟨_, _, _, rfl, by simp⟩
  · rintro env st ⟨x2, x3, x4, rfl, rfl⟩
    refine ⟨rfl, ?_⟩
    simp -implicitDefEqProofs [-List.map_take, mVar]
    exact hr _ _ ⟨rfl, rfl⟩
def lnsS (s : Sec) : List Nat := (List.range (s.2.2 - (s.2.1 + 1))).map fun i => s.2.1 + 1 + i
def lnsOf (S : List Sec) (n : Tx) : List Nat := S.flatMap fun s => if s.1 = n then lnsS s else []
def vN (k : Nat) : Va := .int (k : Nat)
theorem rints_S (s : Sec) : rints ((s.2.1 : Int) + 1) ((s.2.2 : Int) - ((s.2.1 : Int) + 1)).toNat = (lnsS s).map vN := by
  unfold rints lnsS
  rw [List.map_map, show ((s.2.2 : Int) - ((s.2.1 : Int) + 1)).toNat = s.2.2 - (s.2.1 + 1) by omega]
  apply List.map_congr_left
  intro i _
  show Va.int ((s.2.1 : Int) + 1 + (i : Nat)) = Va.int ((s.2.1 + 1 + i : Nat) : Int)
  congr 1
theorem lns_step {S : List Sec} {n : Tx} {k : Nat} {s : Sec} (h : S[k]? = some s) : lnsOf (S.take (k + 1)) n = lnsOf (S.take k) n ++ if s.1 = n then lnsS s else [] := take_flat _ h
theorem lns_bd {d : List Ln} (n : Tx) (k : Nat) (hl : d.length ≤ 1000) : (lnsOf ((secs d).take k) n).length ≤ 1000 * 1000 := by
  refine Nat.le_trans (flat_len _ 1000 fun s hs => ?_) (Nat.mul_le_mul_left _ ?_)
  · have := secs_end (List.mem_of_mem_take hs)
    split
    · simp [lnsS]
      omega
    · simp
  · have := secs_len d
    simp
    omega
theorem lns_mem {d : List Ln} {n : Tx} {k : Nat} (h : k ∈ lnsOf (secs d) n) : k < d.length := by
  obtain ⟨s, hs, hk⟩ := List.mem_flatMap.mp h
  have := secs_end hs
  split at hk
  · obtain ⟨i, hi, rfl⟩ := List.mem_map.mp hk
    have := List.mem_range.mp hi
    omega
  · cases hk
theorem i62_nat {n : Nat} (h : n ≤ 100000) : i62 (n : Nat) = true := by unfold i62; exact decide_eq_true ⟨by omega, by omega⟩
theorem i62_nat1 {n : Nat} (h : n ≤ 100000) : i62 ((n : Int) + 1) = true := by unfold i62; exact decide_eq_true ⟨by omega, by omega⟩
/-- of a section, its head is ahead of its end -/
theorem stepS_head {acc : List Sec} {k : Nat} {l : Ln} (h : ∀ s ∈ acc, s.2.1 < k) : ∀ s ∈ stepS acc k l, s.2.1 < k + 1 := by
  intro s hs
  have old : s ∈ acc → s.2.1 < k + 1 := fun q => Nat.lt_succ_of_lt (h s q)
  have lst : ∀ x, acc.getLast? = some x → x.2.1 < k := fun x e => h x (List.mem_of_getLast? e)
  cases l with
  | hd n =>
    rcases List.mem_append.mp hs with hs | hs
    · exact old hs
    · rw [List.mem_singleton.mp hs]; exact Nat.lt_succ_self _
  | pr t => exact old hs
  | us i n =>
    cases e : acc.getLast? with
    | none => simp only [stepS, e] at hs; exact old hs
    | some x =>
      simp only [stepS, e] at hs
      rcases List.mem_append.mp hs with hs | hs
      · exact old (List.dropLast_subset _ hs)
      · rw [List.mem_singleton.mp hs]; exact Nat.lt_succ_of_lt (lst x e)
  | co t =>
    cases e : acc.getLast? with
    | none => simp only [stepS, e] at hs; exact old hs
    | some x =>
      simp only [stepS, e] at hs
      rcases List.mem_append.mp hs with hs | hs
      · exact old (List.dropLast_subset _ hs)
      · rw [List.mem_singleton.mp hs]; exact Nat.lt_succ_of_lt (lst x e)
theorem secsK_head {d : List Ln} : ∀ k, ∀ s ∈ secsK d k, s.2.1 < k
  | 0, s, hs => by cases hs
  | k + 1, s, hs => by
    rw [secsK] at hs
    cases e : d[k]? with
    | none => rw [e] at hs; exact Nat.lt_succ_of_lt (secsK_head k s hs)
    | some l => rw [e] at hs; exact stepS_head (secsK_head k) s hs
theorem secs_head {d : List Ln} {s : Sec} (h : s ∈ secs d) : s.2.1 < d.length := secsK_head _ s h
theorem lines_ok {L : Lm} {d : List Ln} {n : Tx} (hl : d.length ≤ 1000) (hs : L.fn "sections" [.tup (d.map vLn)] = .ok (.lst ((secs d).map vSec)) fresh) : runD L D_piece_lines [.tup (d.map vLn), .str n] = .ok (.lst ((lnsOf (secs d) n).map vN)) fresh := by
  have hc : ∀ st, callP false (L.fn "sections") [.tup (d.map vLn)] st = .ok (.lst ((secs d).map vSec)) st := fun st => callP_free (by simp [frees_map free_vLn]) hs
  refine runD_of (fun v s => v = .ref 0 ∧ s = [some (.lst ((lnsOf (secs d) n).map vN))]) [some (.tup (d.map vLn)), some (.str n), none, none, none, none] rfl rfl (fun v s ⟨h1, h2⟩ => ?_) fun Q hr => ?_
  · subst h1 h2
    exact ret_lst rfl (frees_map fun _ => rfl)
  simp -implicitDefEqProofs [D_piece_lines, S_piece_lines, mVar, mkL, sizeLine, hc]
  refine wp_for (fun k env st => ∃ x3 x4 x5, env = [some (.tup (d.map vLn)), some (.str n), some (.ref 0), x3, x4, x5] ∧ st = [some (.lst ((lnsOf ((secs d).take k) n).map vN))]) ⟨_, _, _, rfl, rfl⟩ ?_ ?_
  · rintro k w env st Qb hw ⟨x3, x4, x5, rfl, rfl⟩ hnx _ _ _
    rw [List.getElem?_map] at hw
    obtain ⟨s, hs, rfl⟩ := Option.map_eq_some_iff.mp hw
    have hm := List.mem_of_getElem? hs
    have h1 := secs_end hm
    have h2 := secs_head hm
    have hq := lns_step (n := n) hs
    have hb := lns_bd (d := d) n k hl
    rw [hq] at hnx
    generalize lnsOf ((secs d).take k) n = M at hnx hb
    refine ⟨rfl, _, rfl, ?_⟩
    simp -implicitDefEqProofs [mVar, vSec]
    by_cases hn : s.1 = n
    · rw [if_pos hn] at hnx
      have ll : (lnsS s).length ≤ 1000 := by simp [lnsS]; omega
      have rg : rgB ((s.2.1 : Int) + 1) (s.2.2 : Int) = true := by
        unfold rgB
        rw [i62_nat1 (by omega), i62_nat (by omega)]
        simp
        omega
      simp -implicitDefEqProofs [hn, mVar, mLrg, rg, rints_S, tyB, lstOf]
      rw [mkL_val (by simp [sizeLine]; omega), R.bind_ok, R.bind_ok, extend_lst rfl rfl (by simp [sizeLine]; omega)]
      simp -implicitDefEqProofs
      exact hnx _ _ ⟨_, _, _, rfl, by simp⟩
    · rw [if_neg hn, List.append_nil] at hnx
      simp -implicitDefEqProofs [hn]
      exact hnx _ _ ⟨_, _, _, rfl, rfl⟩
  · rintro env st ⟨x3, x4, x5, rfl, rfl⟩
    refine ⟨rfl, ?_⟩
    simp -implicitDefEqProofs [-List.map_take, mVar]
    exact hr _ _ ⟨rfl, rfl⟩
/-- a list of one thing for some of a list -/
theorem mLc_filter {α : Type} {env : Ev} {st : Sto} {m : Bool} {vs : List Nat} {tg : Tg} {mi : Mx (List Va × Gd)} {mc : Mx Bool} {me : Mx Va} {env1 : Ev} {gd : Gd} (xs : List α) (e : α → Va) (p : α → Bool) (g : α → Va) (hi : mi env st = .ok (xs.map e, gd) st) (hg : gdB gd st = true) (he : wipeE env vs = env1)
    (h : ∀ x ∈ xs, ∃ env2, tgV tg (e x) env1 st = some env2 ∧ mc env2 st = .ok (p x) st ∧ (p x = true → me env2 st = .ok (g x) st)) : mLc m vs tg mi mc me env st = mkL m ((xs.filter p).map g) st := by
  subst he
  rw [mLc_eq, hi, R.bind_ok]
  have key : ∀ (xs : List α) (acc : List Va), (∀ x ∈ xs, ∃ env2, tgV tg (e x) (wipeE env vs) st = some env2 ∧ mc env2 st = .ok (p x) st ∧ (p x = true → me env2 st = .ok (g x) st)) → lcRun tg mc me gd (wipeE env vs) (xs.map e) acc st = .ok (acc ++ (xs.filter p).map g) st := by
    intro xs
    induction xs with
    | nil =>
      intro acc _
      show (if gdB gd st = true then R.ok acc st else .stuck) = _
      rw [if_pos hg]
      simp
    | cons x xs ih =>
      intro acc h
      obtain ⟨env2, e1, e2, e3⟩ := h x List.mem_cons_self
      show (if gdB gd st = true then _ else _) = _
      rw [if_pos hg, e1]
      simp only [e2]
      cases hp : p x with
      | false =>
        simp only [Bool.false_eq_true, if_false]
        rw [ih acc fun y hy => h y (List.mem_cons_of_mem _ hy)]
        simp [hp]
      | true =>
        simp only [if_true, e3 hp]
        rw [ih (acc ++ [g x]) fun y hy => h y (List.mem_cons_of_mem _ hy)]
        simp [hp]
  show (lcRun tg mc me gd (wipeE env vs) (xs.map e) [] st).bind _ = _
  rw [key xs [] h, R.bind_ok, List.nil_append]
def isU (d : List Ln) (k : Nat) : Bool := match d[k]? with
  | some (.us _ _) => true
  | _ => false
def nmU (d : List Ln) (k : Nat) : Tx := match d[k]? with
  | some (.us _ n) => n
  | _ => []
def vU (d : List Ln) (k : Nat) : Va := .tup [vN k, .str (nmU d k)]
/-- the block of both comprehensions -/
theorem uses_in {d : List Ln} {k : Nat} (h : k < d.length) (st : Sto) : ∃ l, d[k]? = some l ∧ ixV (.tup (d.map vLn)) (.int (k : Nat)) st = .ok (vLn l) st := by
  obtain ⟨l, hl⟩ : ∃ l, d[k]? = some l := ⟨_, List.getElem?_eq_getElem h⟩
  exact ⟨l, hl, ixV_int rfl (by rw [List.getElem?_map, hl]; rfl)⟩
theorem uses_ok {L : Lm} {d : List Ln} {n : Tx} (hl : d.length ≤ 1000) (hs : L.fn "piece_lines" [.tup (d.map vLn), .str n] = .ok (.lst ((lnsOf (secs d) n).map vN)) fresh) : runD L D_uses_of [.tup (d.map vLn), .str n] = .ok (.lst (((lnsOf (secs d) n).filter (isU d)).map (vU d))) [] := by
  have hc : ∀ st, callP false (L.fn "piece_lines") [.tup (d.map vLn), .str n] st = .ok (.lst ((lnsOf (secs d) n).map vN)) st := fun st => callP_free (by simp [frees_map free_vLn]) hs
  refine runD_of (fun v s => v = .lst (((lnsOf (secs d) n).filter (isU d)).map (vU d))) [some (.tup (d.map vLn)), some (.str n), none] rfl rfl (fun v s h => by rw [h]; exact ret_free (by rw [free_lst]; exact frees_map fun _ => rfl)) fun Q hr => ?_
  simp -implicitDefEqProofs [D_uses_of, S_uses_of]
  rw [mLc_filter (gd := none) (env1 := [some (.tup (d.map vLn)), some (.str n), none]) (lnsOf (secs d) n) vN (isU d) (vU d) (by simp -implicitDefEqProofs [mVar, hc]) rfl rfl (fun k hk => ?_)]
  · have := lns_bd (d := d) n (secs d).length hl
    rw [List.take_of_length_le (Nat.le_refl _)] at this
    have h2 := List.length_filter_le (isU d) (lnsOf (secs d) n)
    rw [mkL_val (by simp [sizeLine]; omega)]
    simp -implicitDefEqProofs
    exact hr _ _ rfl
  · refine ⟨_, rfl, ?_, fun hu => ?_⟩
    · obtain ⟨l, e1, e2⟩ := uses_in (lns_mem hk) []
      simp -implicitDefEqProofs [mVar, vN, e2, isU, e1]
      cases l <;> simp -implicitDefEqProofs [vLn, useT, proseT, headT, codeT]
    · obtain ⟨l, e1, e2⟩ := uses_in (lns_mem hk) []
      simp -implicitDefEqProofs [mVar, vN, e2, mkT, sizeLine]
      unfold isU at hu
      rw [e1] at hu
      cases l <;> simp at hu
      simp -implicitDefEqProofs [vLn, vU, nmU, e1, mkT, sizeLine, vN]
def usersOf (d : List Ln) (n : Tx) : List Nat := (List.range d.length).filter fun k => isU d k && decide (nmU d k = n)
theorem users_ok {L : Lm} {d : List Ln} {n : Tx} (hl : d.length ≤ 1000) : runD L D_users_of [.tup (d.map vLn), .str n] = .ok (.lst ((usersOf d n).map vN)) [] := by
  refine runD_of (fun v s => v = .lst ((usersOf d n).map vN)) [some (.tup (d.map vLn)), some (.str n), none, none] rfl rfl (fun v s h => by rw [h]; exact ret_free (by rw [free_lst]; exact frees_map fun _ => rfl)) fun Q hr => ?_
  simp -implicitDefEqProofs [D_users_of, S_users_of]
  have hnum : G.numbered (d.map vLn) = (List.range d.length).map fun k => .tup [vN k, match d[k]? with | some l => vLn l | none => .non] := by
    apply List.ext_getElem?
    intro i
    rw [List.getElem?_map]
    by_cases hi : i < d.length
    · rw [List.getElem?_range hi]
      simp [G.numbered, List.getElem?_map, List.getElem?_zipIdx, List.getElem?_eq_getElem hi, vN]
    · rw [List.getElem?_eq_none (by simpa using hi), List.getElem?_eq_none (by simpa using hi)]
      rfl
  rw [mLc_filter (gd := none) (env1 := [some (.tup (d.map vLn)), some (.str n), none, none]) (List.range d.length) (fun k => .tup [vN k, match d[k]? with | some l => vLn l | none => .non]) (fun k => isU d k && decide (nmU d k = n)) vN (by simp -implicitDefEqProofs [mVar, hnum]) rfl rfl (fun k hk => ?_)]
  · have h2 := List.length_filter_le (fun k => isU d k && decide (nmU d k = n)) (List.range d.length)
    rw [mkL_val (by simp [sizeLine] at h2 ⊢; omega)]
    simp -implicitDefEqProofs
    exact hr _ _ rfl
  · refine ⟨_, rfl, ?_, fun hu => by simp -implicitDefEqProofs [mVar]⟩
    obtain ⟨l, e1⟩ : ∃ l, d[k]? = some l := ⟨_, List.getElem?_eq_getElem (List.mem_range.mp hk)⟩
    simp -implicitDefEqProofs [mVar, e1, isU, nmU]
    cases l <;> simp -implicitDefEqProofs [vLn, useT, proseT, headT, codeT, mVar]
end D

set_option Elab.async false
set_option linter.all false
set_option maxRecDepth 100000
set_option maxHeartbeats 4000000
/-! programs, by what their pieces hold: no index in sight -/
namespace TG
open G C D
def useN : Ln → Option Tx
  | .us _ n => some n
  | _ => none
def uses (l : List Ln) : List Tx := l.filterMap useN
theorem uses_nil : uses [] = [] := rfl
theorem uses_none {x : Ln} {l : List Ln} (h : useN x = none) : uses (x :: l) = uses l := by simp [uses, h]
theorem uses_some {x : Ln} {l : List Ln} {n : Tx} (h : useN x = some n) : uses (x :: l) = n :: uses l := by simp [uses, h]
theorem uses_app (a b : List Ln) : uses (a ++ b) = uses a ++ uses b := by simp [uses]
theorem uses_len (l : List Ln) : (uses l).length ≤ l.length := List.length_filterMap_le _ _
inductive Rs where
  | ok (o : List Tx) | miss | ring
section
variable (hs : Tx → Prop) (own : Tx → List Ln)
/-- the walk by references: pieces seen, the path (its end first), what is left of each piece of the path -/
inductive Cl : Nat → List Tx → List Tx → List (List Ln) → Rs → Prop
  | done {o : List Tx} : Cl 0 o [] [] (.ok o)
  | pop {k : Nat} {o p : List Tx} {n : Tx} {l : List (List Ln)} {r : Rs} : Cl k o p l r → Cl (k + 1) o (n :: p) ([] :: l) r
  | code {k : Nat} {o p : List Tx} {q : Tx} {x : Ln} {s : List Ln} {l : List (List Ln)} {r : Rs} : useN x = none → Cl k o (q :: p) (s :: l) r → Cl (k + 1) o (q :: p) ((x :: s) :: l) r
  | miss {k : Nat} {o p : List Tx} {q n : Tx} {i : Int} {s : List Ln} {l : List (List Ln)} : ¬ hs n → Cl k o (q :: p) ((.us i n :: s) :: l) .miss
  | ring {k : Nat} {o p : List Tx} {q n : Tx} {i : Int} {s : List Ln} {l : List (List Ln)} : hs n → n ∈ q :: p → Cl k o (q :: p) ((.us i n :: s) :: l) .ring
  | old {k : Nat} {o p : List Tx} {q n : Tx} {i : Int} {s : List Ln} {l : List (List Ln)} {r : Rs} : hs n → n ∉ q :: p → n ∈ o → Cl k o (q :: p) (s :: l) r → Cl (k + 1) o (q :: p) ((.us i n :: s) :: l) r
  | new {k : Nat} {o p : List Tx} {q n : Tx} {i : Int} {s : List Ln} {l : List (List Ln)} {r : Rs} : hs n → n ∉ q :: p → n ∉ o → Cl k (o ++ [n]) (n :: q :: p) (own n :: s :: l) r → Cl (k + 1) o (q :: p) ((.us i n :: s) :: l) r
/-- what is not seen yet -/
def capO (names o : List Tx) : Nat := (names.map fun n => if n ∈ o then 0 else (own n).length + 1).sum
def lefts (l : List (List Ln)) : Nat := (l.map List.length).sum
theorem cap_le (names o : List Tx) (x : Tx) : capO own names (o ++ [x]) ≤ capO own names o := by
  unfold capO
  induction names with
  | nil => simp
  | cons a r ih =>
    simp only [List.map_cons, List.sum_cons]
    have : (if a ∈ o ++ [x] then 0 else (own a).length + 1) ≤ if a ∈ o then 0 else (own a).length + 1 := by
      by_cases h : a ∈ o
      · simp [h]
      · by_cases h2 : a ∈ o ++ [x]
        · simp [h2]
        · simp [h, h2]
    omega
theorem cap_new {names o : List Tx} {x : Tx} (hx : x ∈ names) (ho : x ∉ o) : capO own names (o ++ [x]) + (own x).length + 1 ≤ capO own names o := by
  induction names with
  | nil => cases hx
  | cons a r ih =>
    have hle := cap_le own r o x
    unfold capO at ih hle ⊢
    simp only [List.map_cons, List.sum_cons]
    by_cases e : a = x
    · subst e
      rw [if_pos (by simp), if_neg ho]
      omega
    · rcases List.mem_cons.mp hx with z | hx
      · exact absurd z.symm e
      · have := ih hx
        have h2 : (if a ∈ o ++ [x] then 0 else (own a).length + 1) ≤ if a ∈ o then 0 else (own a).length + 1 := by
          by_cases h : a ∈ o
          · simp [h]
          · simp [h, e]
        omega
theorem cl_ex {names : List Tx} (hn : ∀ n, hs n → n ∈ names) : ∀ (m : Nat) (o p : List Tx) (l : List (List Ln)), p.length = l.length → capO own names o + lefts l + p.length ≤ m → ∃ k r, k ≤ m ∧ Cl hs own k o p l r := by
  intro m
  induction m with
  | zero =>
    intro o p l hl hm
    cases p with
    | nil =>
      cases l with
      | nil => exact ⟨0, _, Nat.le_refl _, .done⟩
      | cons a l => simp at hl
    | cons q p => simp at hm
  | succ m ih =>
    intro o p l hl hm
    cases p with
    | nil =>
      cases l with
      | nil => exact ⟨0, _, Nat.zero_le _, .done⟩
      | cons a l => simp at hl
    | cons q p =>
      cases l with
      | nil => simp at hl
      | cons a l =>
        simp only [List.length_cons, lefts, List.map_cons, List.sum_cons] at hl hm
        cases a with
        | nil =>
          obtain ⟨k, r, h1, h2⟩ := ih o p l (by omega) (by unfold lefts; simp at hm; omega)
          exact ⟨k + 1, r, by omega, .pop h2⟩
        | cons x s =>
          simp only [List.length_cons] at hm
          have hsame : ∃ k r, k ≤ m ∧ Cl hs own k o (q :: p) (s :: l) r := ih o (q :: p) (s :: l) (by simp; omega) (by simp only [lefts, List.map_cons, List.sum_cons, List.length_cons]; omega)
          cases x with
          | us i n =>
            by_cases h1 : hs n
            · by_cases h2 : n ∈ q :: p
              · exact ⟨0, _, Nat.zero_le _, .ring h1 h2⟩
              · by_cases h3 : n ∈ o
                · obtain ⟨k, r, g1, g2⟩ := hsame
                  exact ⟨k + 1, r, by omega, .old h1 h2 h3 g2⟩
                · have hc := cap_new own (hn n h1) h3
                  obtain ⟨k, r, g1, g2⟩ := ih (o ++ [n]) (n :: q :: p) (own n :: s :: l) (by simp; omega) (by simp only [lefts, List.map_cons, List.sum_cons, List.length_cons]; omega)
                  exact ⟨k + 1, r, by omega, .new h1 h2 h3 g2⟩
            · exact ⟨0, _, Nat.zero_le _, .miss h1⟩
          | pr t =>
            obtain ⟨k, r, g1, g2⟩ := hsame
            exact ⟨k + 1, r, by omega, .code rfl g2⟩
          | hd t =>
            obtain ⟨k, r, g1, g2⟩ := hsame
            exact ⟨k + 1, r, by omega, .code rfl g2⟩
          | co t =>
            obtain ⟨k, r, g1, g2⟩ := hsame
            exact ⟨k + 1, r, by omega, .code rfl g2⟩
/-- pieces, each one ahead of all that it needs -/
inductive Topo : List Tx → Prop
  | nil : Topo []
  | cons {n : Tx} {f : List Tx} : hs n → n ∉ f → (∀ u ∈ uses (own n), u ∈ f) → Topo f → Topo (n :: f)
def Stk (fin : List Tx) : Option Tx → List Tx → List (List Ln) → Prop
  | _, [], [] => True
  | c, n :: p, s :: l => (∃ dn, own n = dn ++ s ∧ ∀ u ∈ uses dn, u ∈ fin ∨ c = some u) ∧ Stk fin (some n) p l
  | _, _, _ => False
theorem Stk.mono {fin fin' : List Tx} (h : ∀ x ∈ fin, x ∈ fin') : ∀ {c : Option Tx} {p : List Tx} {l : List (List Ln)}, Stk own fin c p l → Stk own fin' c p l
  | _, [], [], _ => trivial
  | _, [], _ :: _, h => h.elim
  | _, _ :: _, [], h => h.elim
  | c, n :: p, s :: l, ⟨⟨dn, h1, h2⟩, h3⟩ => ⟨⟨dn, h1, fun u hu => (h2 u hu).imp (h u) id⟩, Stk.mono h h3⟩
theorem cl_topo {k : Nat} {o p : List Tx} {l : List (List Ln)} {r : Rs} (h : Cl hs own k o p l r) : ∀ {o' fin : List Tx}, r = .ok o' → Topo hs own fin → (∀ x ∈ o, x ∈ fin ∨ x ∈ p) → (∀ x ∈ fin, x ∈ o) → (∀ x ∈ p, x ∈ o ∧ hs x ∧ x ∉ fin) → p.Nodup → Stk own fin none p l →
    ∃ fin', Topo hs own fin' ∧ (∀ x ∈ o', x ∈ fin') ∧ (∀ x ∈ o, x ∈ o') ∧ fin'.length + o.length = fin.length + p.length + o'.length ∧ o'.length ≤ o.length + k := by
  induction h with
  | done =>
    intro o' fin e t h1 h2 h3 h4 h5
    cases e
    exact ⟨fin, t, fun x hx => (h1 x hx).elim id fun z => (nomatch z), fun x hx => hx, by simp, by omega⟩
  | @pop k o p n l r c ih =>
    intro o' fin e t h1 h2 h3 h4 h5
    obtain ⟨⟨dn, e1, e2⟩, e3⟩ := h5
    rw [List.append_nil] at e1
    have hn := h3 n List.mem_cons_self
    have t' : Topo hs own (n :: fin) := .cons hn.2.1 hn.2.2 (fun u hu => by
      rw [e1] at hu
      rcases e2 u hu with z | z
      · exact z
      · cases z) t
    have nd := List.nodup_cons.mp h4
    obtain ⟨fin', g1, g2, g3, g4, g5⟩ := ih (fin := n :: fin) e t' (fun x hx => by
      rcases h1 x hx with z | z
      · exact .inl (List.mem_cons_of_mem _ z)
      · rcases List.mem_cons.mp z with rfl | z
        · exact .inl List.mem_cons_self
        · exact .inr z) (fun x hx => by
      rcases List.mem_cons.mp hx with rfl | hx
      · exact hn.1
      · exact h2 x hx) (fun x hx => by
      have q := h3 x (List.mem_cons_of_mem _ hx)
      refine ⟨q.1, q.2.1, fun z => ?_⟩
      rcases List.mem_cons.mp z with rfl | z
      · exact nd.1 hx
      · exact q.2.2 z) nd.2 (by
      cases p with
      | nil =>
        cases l with
        | nil => trivial
        | cons a l => exact e3.elim
      | cons q p =>
        cases l with
        | nil => exact e3.elim
        | cons a l =>
          obtain ⟨⟨dm, f1, f2⟩, f3⟩ := e3
          refine ⟨⟨dm, f1, fun u hu => .inl ?_⟩, Stk.mono own (fun x hx => List.mem_cons_of_mem _ hx) f3⟩
          rcases f2 u hu with z | z
          · exact List.mem_cons_of_mem _ z
          · cases z; exact List.mem_cons_self)
    refine ⟨fin', g1, g2, g3, ?_, by omega⟩
    simp only [List.length_cons] at g4 ⊢
    omega
  | @code k o p q x s l r hx c ih =>
    intro o' fin e t h1 h2 h3 h4 h5
    obtain ⟨⟨dn, e1, e2⟩, e3⟩ := h5
    obtain ⟨fin', g1, g2, g3, g4, g5⟩ := ih e t h1 h2 h3 h4 ⟨⟨dn ++ [x], by rw [e1]; simp, fun u hu => by
      rw [uses_app, uses_none hx, uses_nil, List.append_nil] at hu
      exact e2 u hu⟩, e3⟩
    exact ⟨fin', g1, g2, g3, g4, by omega⟩
  | miss => intro o' fin e; cases e
  | ring => intro o' fin e; cases e
  | @old k o p q n i s l r hn hp ho c ih =>
    intro o' fin e t h1 h2 h3 h4 h5
    obtain ⟨⟨dn, e1, e2⟩, e3⟩ := h5
    obtain ⟨fin', g1, g2, g3, g4, g5⟩ := ih e t h1 h2 h3 h4 ⟨⟨dn ++ [.us i n], by rw [e1]; simp, fun u hu => by
      rw [uses_app] at hu
      rcases List.mem_append.mp hu with hu | hu
      · exact e2 u hu
      · have : u = n := by simpa [uses, useN] using hu
        subst this
        exact .inl ((h1 _ ho).elim id fun z => absurd z hp)⟩, e3⟩
    exact ⟨fin', g1, g2, g3, g4, by omega⟩
  | @new k o p q n i s l r hn hp ho c ih =>
    intro o' fin e t h1 h2 h3 h4 h5
    obtain ⟨⟨dn, e1, e2⟩, e3⟩ := h5
    obtain ⟨fin', g1, g2, g3, g4, g5⟩ := ih (fin := fin) e t (fun x hx => by
      rcases List.mem_append.mp hx with hx | hx
      · exact (h1 x hx).imp id (List.mem_cons_of_mem _)
      · rw [List.mem_singleton.mp hx]; exact .inr List.mem_cons_self) (fun x hx => List.mem_append_left _ (h2 x hx)) (fun x hx => by
      rcases List.mem_cons.mp hx with rfl | hx
      · exact ⟨by simp, hn, fun z => ho (h2 _ z)⟩
      · have q := h3 x hx
        exact ⟨List.mem_append_left _ q.1, q.2⟩) (List.nodup_cons.mpr ⟨hp, h4⟩) ⟨⟨[], rfl, fun u hu => nomatch hu⟩, ⟨dn ++ [.us i n], by rw [e1]; simp, fun u hu => by
      rw [uses_app] at hu
      rcases List.mem_append.mp hu with hu | hu
      · rcases e2 u hu with z | z
        · exact .inl z
        · cases z
      · have : u = n := by simpa [uses, useN] using hu
        subst this
        exact .inr rfl⟩, e3⟩
    refine ⟨fin', g1, g2, fun x hx => g3 x (List.mem_append_left _ hx), ?_, ?_⟩
    · simp only [List.length_append, List.length_cons, List.length_nil] at g4 ⊢
      omega
    · simp only [List.length_append, List.length_cons, List.length_nil] at g5
      omega
end
end TG

set_option Elab.async false
set_option linter.all false
set_option maxRecDepth 100000
set_option maxHeartbeats 4000000
namespace TG
open G C D
abbrev Kn := List (Tx × Nat)
def keysK (K : Kn) : List Tx := K.map (·.1)
def getK (K : Kn) (n : Tx) : Nat := (K.lookup n).getD 0
def sumK (K : Kn) (us : List Tx) : Nat := (us.map (getK K)).sum
theorem look_mem {K : Kn} {n : Tx} : n ∈ keysK K ↔ ∃ a, K.lookup n = some a := by
  unfold keysK
  induction K with
  | nil => simp
  | cons p K ih =>
    rw [List.lookup_cons]
    by_cases h : n = p.1
    · simp [h]
    · have : (n == p.1) = false := by simpa using h
      rw [this]
      simp [h, ih]
theorem look_app {K : Kn} {n m : Tx} {v : Nat} (h : n ∈ keysK K) : (K ++ [(m, v)]).lookup n = K.lookup n := by
  induction K with
  | nil => simp [keysK] at h
  | cons p K ih =>
    rw [List.cons_append, List.lookup_cons, List.lookup_cons]
    by_cases e : n = p.1
    · simp [e]
    · have e2 : (n == p.1) = false := by simpa using e
      rw [e2]
      exact ih (by simpa [keysK, e] using h)
theorem look_new {K : Kn} {n : Tx} {v : Nat} (h : n ∉ keysK K) : (K ++ [(n, v)]).lookup n = some v := by
  induction K with
  | nil => simp [List.lookup_cons]
  | cons p K ih =>
    rw [List.cons_append, List.lookup_cons]
    by_cases e : n = p.1
    · simp [keysK, e] at h
    · have e2 : (n == p.1) = false := by simpa using e
      rw [e2]
      exact ih (by simpa [keysK, e] using h)
theorem keys_app (K : Kn) (m : Tx) (v : Nat) : keysK (K ++ [(m, v)]) = keysK K ++ [m] := by simp [keysK]
section
variable (hs : Tx → Prop) (own : Tx → List Ln)
def newU (K : Kn) (n : Tx) : List Tx := (uses (own n)).filter fun u => !decide (u ∈ keysK K)
def valOf (K : Kn) (n : Tx) : Nat := (own n).length - (uses (own n)).length + sumK K (uses (own n))
/-- what is known is right -/
structure GoodK (K : Kn) : Prop where
  vl : ∀ n a, K.lookup n = some a → a = valOf own K n ∧ ∀ u ∈ uses (own n), u ∈ keysK K
  nd : (keysK K).Nodup
theorem sumK_app {K : Kn} {m : Tx} {v : Nat} {us : List Tx} (h : ∀ u ∈ us, u ∈ keysK K) : sumK (K ++ [(m, v)]) us = sumK K us := by
  unfold sumK
  congr 1
  refine List.map_congr_left fun u hu => ?_
  unfold getK
  rw [look_app (h u hu)]
theorem good_calc {K : Kn} {n : Tx} (g : GoodK own K) (hn : n ∉ keysK K) (hu : ∀ u ∈ uses (own n), u ∈ keysK K) : GoodK own (K ++ [(n, valOf own K n)]) := by
  refine ⟨fun m a h => ?_, ?_⟩
  · by_cases hm : m ∈ keysK K
    · rw [look_app hm] at h
      obtain ⟨h1, h2⟩ := g.vl m a h
      refine ⟨?_, fun u hu' => by rw [keys_app]; exact List.mem_append_left _ (h2 u hu')⟩
      unfold valOf at h1 ⊢
      rw [sumK_app h2]
      exact h1
    · have hmn : m = n := by
        have : m ∈ keysK (K ++ [(n, valOf own K n)]) := look_mem.mpr ⟨a, h⟩
        rw [keys_app] at this
        rcases List.mem_append.mp this with z | z
        · exact absurd z hm
        · exact List.mem_singleton.mp z
      subst hmn
      rw [look_new hm] at h
      refine ⟨?_, fun u hu' => by rw [keys_app]; exact List.mem_append_left _ (hu u hu')⟩
      rw [← Option.some.inj h]
      unfold valOf
      rw [sumK_app hu]
  · rw [keys_app, List.nodup_append]
    exact ⟨g.nd, by simp, fun a ha b hb => by rw [List.mem_singleton.mp hb]; exact fun z => hn (z ▸ ha)⟩
/-- the lengths: names that wait (the next one first), what is known, what is known at the end -/
inductive Ls : Nat → List Tx → Kn → Kn → Prop
  | done {K : Kn} : Ls 0 [] K K
  | known {k : Nat} {n : Tx} {W : List Tx} {K K' : Kn} : n ∈ keysK K → Ls k W K K' → Ls (k + 1) (n :: W) K K'
  | push {k : Nat} {n u : Tx} {us W : List Tx} {K K' : Kn} : n ∉ keysK K → newU own K n = u :: us → Ls k (u :: n :: W) K K' → Ls (k + 1) (n :: W) K K'
  | comp {k : Nat} {n : Tx} {W : List Tx} {K K' : Kn} : n ∉ keysK K → newU own K n = [] → Ls k W (K ++ [(n, valOf own K n)]) K' → Ls (k + 1) (n :: W) K K'
structure More (f : List Tx) (K K' : Kn) : Prop where
  good : GoodK own K'
  old : ∀ n a, K.lookup n = some a → K'.lookup n = some a
  new : ∀ n ∈ keysK K', n ∈ keysK K ∨ n ∈ f
  len : K.length ≤ K'.length
theorem More.keys {f : List Tx} {K K' : Kn} (m : More own f K K') {n : Tx} (h : n ∈ keysK K) : n ∈ keysK K' := by
  obtain ⟨a, e⟩ := look_mem.mp h
  exact look_mem.mpr ⟨a, m.old n a e⟩
theorem More.trans {f : List Tx} {K K1 K2 : Kn} (a : More own f K K1) (b : More own f K1 K2) : More own f K K2 :=
  ⟨b.good, fun n v h => b.old n v (a.old n v h), fun n h => (b.new n h).elim (a.new n) .inr, Nat.le_trans a.len b.len⟩
theorem new_none {K : Kn} {n : Tx} (h : newU own K n = []) : ∀ u ∈ uses (own n), u ∈ keysK K := fun u hu => by
  have := List.filter_eq_nil_iff.mp h u hu
  simpa using this
theorem filter_lt {α : Type} {l : List α} {p q : α → Bool} (h : ∀ x ∈ l, q x = true → p x = true) {u : α} (hu : u ∈ l) (hp : p u = true) (hq : q u = false) : (l.filter q).length < (l.filter p).length := by
  induction l with
  | nil => cases hu
  | cons x l ih =>
    have hle : (l.filter q).length ≤ (l.filter p).length := by
      clear ih hu
      have h' : ∀ x ∈ l, q x = true → p x = true := fun y hy => h y (List.mem_cons_of_mem _ hy)
      clear h
      induction l with
      | nil => exact Nat.le_refl _
      | cons y l ih2 =>
        have := ih2 fun z hz => h' z (List.mem_cons_of_mem _ hz)
        have hy := h' y List.mem_cons_self
        rw [List.filter_cons, List.filter_cons]
        cases hqy : q y <;> cases hpy : p y <;> simp [hqy, hpy] at hy ⊢ <;> omega
    rw [List.filter_cons, List.filter_cons]
    rcases List.mem_cons.mp hu with rfl | hu
    · rw [hp, hq]
      simp
      omega
    · have := ih (fun y hy => h y (List.mem_cons_of_mem _ hy)) hu
      have hx := h x List.mem_cons_self
      cases hqx : q x <;> cases hpx : p x <;> simp [hqx, hpx] at hx ⊢ <;> omega
/-- one name that waits -/
theorem ls_one {f : List Tx} (t : Topo hs own f) : ∀ n ∈ f, ∀ K, GoodK own K → ∃ K' c, More own f K K' ∧ n ∈ keysK K' ∧ c + (if n ∈ keysK K then 0 else 2) ≤ 1 + 2 * (K'.length - K.length) ∧ ∀ W Kf k, Ls own k W K' Kf → Ls own (k + c) (n :: W) K Kf := by
  induction t with
  | nil => intro n hn; cases hn
  | @cons m f hm hf hu t ih =>
    intro n hn K g
    have wide : ∀ {K K' : Kn}, More own f K K' → More own (m :: f) K K' := fun a => ⟨a.good, a.old, fun n h => (a.new n h).imp id (List.mem_cons_of_mem _), a.len⟩
    rcases List.mem_cons.mp hn with rfl | hn
    · -- the new one
      have key : ∀ (c : Nat) (K : Kn), GoodK own K → (newU own K n).length ≤ c → n ∉ keysK K → ∃ K' c, More own (n :: f) K K' ∧ n ∈ keysK K' ∧ c + 2 ≤ 1 + 2 * (K'.length - K.length) ∧ ∀ W Kf k, Ls own k W K' Kf → Ls own (k + c) (n :: W) K Kf := by
        intro c
        induction c with
        | zero =>
          intro K g hc hk
          have e : newU own K n = [] := List.length_eq_zero_iff.mp (by omega)
          refine ⟨K ++ [(n, valOf own K n)], 1, ⟨good_calc own g hk (new_none own e), fun x a h => by rw [look_app (look_mem.mpr ⟨a, h⟩)]; exact h, fun x hx => ?_, by simp⟩, by rw [keys_app]; simp, by simp, fun W Kf k h => .comp hk e h⟩
          rw [keys_app] at hx
          rcases List.mem_append.mp hx with z | z
          · exact .inl z
          · rw [List.mem_singleton.mp z]; exact .inr List.mem_cons_self
        | succ c ihc =>
          intro K g hc hk
          cases e : newU own K n with
          | nil =>
            refine ⟨K ++ [(n, valOf own K n)], 1, ⟨good_calc own g hk (new_none own e), fun x a h => by rw [look_app (look_mem.mpr ⟨a, h⟩)]; exact h, fun x hx => ?_, by simp⟩, by rw [keys_app]; simp, by simp, fun W Kf k h => .comp hk e h⟩
            rw [keys_app] at hx
            rcases List.mem_append.mp hx with z | z
            · exact .inl z
            · rw [List.mem_singleton.mp z]; exact .inr List.mem_cons_self
          | cons u us =>
            have hum : u ∈ uses (own n) ∧ u ∉ keysK K := by
              have : u ∈ newU own K n := by rw [e]; exact List.mem_cons_self
              have := List.mem_filter.mp this
              exact ⟨this.1, by simpa using this.2⟩
            obtain ⟨K1, c1, m1, k1, b1, s1⟩ := ih u (hu u hum.1) K g
            rw [if_neg hum.2] at b1
            have hk1 : n ∉ keysK K1 := fun z => (m1.new n z).elim hk hf
            have hlt : (newU own K1 n).length < (newU own K n).length := filter_lt (fun x _ hx => by
              simp only [Bool.not_eq_true', decide_eq_false_iff_not] at hx ⊢
              exact fun z => hx (More.keys own m1 z)) hum.1 (by simpa using hum.2) (by simpa using k1)
            obtain ⟨K2, c2, m2, k2, b2, s2⟩ := ihc K1 m1.good (by omega) hk1
            refine ⟨K2, c2 + c1 + 1, More.trans own (wide m1) m2, k2, ?_, fun W Kf k h => ?_⟩
            · have l1 := m1.len
              have l2 := m2.len
              omega
            · have h2 := s2 W Kf k h
              have h1 := s1 (n :: W) Kf (k + c2) h2
              have : Ls own (k + c2 + c1 + 1) (n :: W) K Kf := .push hk e h1
              rw [show k + (c2 + c1 + 1) = k + c2 + c1 + 1 by omega]
              exact this
      by_cases hk : n ∈ keysK K
      · exact ⟨K, 1, ⟨g, fun _ _ h => h, fun _ h => .inl h, Nat.le_refl _⟩, hk, by rw [if_pos hk]; omega, fun W Kf k h => .known hk h⟩
      · rw [if_neg hk]
        exact key _ K g (Nat.le_refl _) hk
    · obtain ⟨K', c, a, b, d, e⟩ := ih n hn K g
      exact ⟨K', c, wide a, b, d, e⟩
theorem ls_all {f : List Tx} (t : Topo hs own f) : ∀ (W : List Tx) (K : Kn), (∀ n ∈ W, n ∈ f) → GoodK own K → ∃ K' k, More own f K K' ∧ (∀ n ∈ W, n ∈ keysK K') ∧ k ≤ W.length + 2 * (K'.length - K.length) ∧ Ls own k W K K'
  | [], K, _, g => ⟨K, 0, ⟨g, fun _ _ h => h, fun _ h => .inl h, Nat.le_refl _⟩, (fun n h => nomatch h), Nat.zero_le _, .done⟩
  | n :: W, K, h, g => by
    obtain ⟨K1, c1, m1, k1, b1, s1⟩ := ls_one hs own t n (h n List.mem_cons_self) K g
    obtain ⟨K2, k2, m2, a2, b2, s2⟩ := ls_all t W K1 (fun x hx => h x (List.mem_cons_of_mem _ hx)) m1.good
    refine ⟨K2, k2 + c1, More.trans own m1 m2, fun x hx => ?_, ?_, s1 W K2 k2 s2⟩
    · rcases List.mem_cons.mp hx with rfl | hx
      · exact More.keys own m2 k1
      · exact a2 x hx
    · have l1 := m1.len
      have l2 := m2.len
      simp only [List.length_cons]
      split at b1 <;> omega
/-- no more unlike names than there are names -/
theorem nodup_le : ∀ {a b : List Tx}, a.Nodup → (∀ x ∈ a, x ∈ b) → a.length ≤ b.length
  | [], _, _, _ => Nat.zero_le _
  | x :: a, b, nd, h => by
    have nd := List.nodup_cons.mp nd
    have hx := h x List.mem_cons_self
    have ih := nodup_le (a := a) (b := b.erase x) nd.2 fun y hy => by
      have hne : y ≠ x := fun z => nd.1 (z ▸ hy)
      exact (List.mem_erase_of_ne hne).mpr (h y (List.mem_cons_of_mem _ hy))
    have := List.length_erase_of_mem hx
    have hp : 0 < b.length := List.length_pos_of_mem hx
    simp only [List.length_cons]
    omega
def shownT (i : Nat) (t : Tx) : Tx := if t = [] then [] else List.replicate i 32 ++ t
/-- the program's texts: lines that wait with their indents, texts -/
inductive Tr (K : Kn) : Nat → List (Ln × Nat) → List Tx → Prop
  | done : Tr K 0 [] []
  | code {k i : Nat} {t : Tx} {S : List (Ln × Nat)} {out : List Tx} : Tr K k S out → Tr K (k + 1) ((.co t, i) :: S) (shownT i t :: out)
  | skip {k i j : Nat} {n : Tx} {S : List (Ln × Nat)} {out : List Tx} : K.lookup n = some 0 → Tr K k S out → Tr K (k + 1) ((.us (j : Nat) n, i) :: S) out
  | exp {k i j v : Nat} {n : Tx} {S : List (Ln × Nat)} {out : List Tx} : K.lookup n = some (v + 1) → Tr K k ((own n).map (fun l => (l, i + j)) ++ S) out → Tr K (k + 1) ((.us (j : Nat) n, i) :: S) out
/-- code and references alone, no indent below zero -/
def LnI : Ln → Prop
  | .co _ => True
  | .us i _ => 0 ≤ i
  | _ => False
theorem tr_list {K : Kn} {c0 : Nat} (ls : List Ln) (hl : ∀ l ∈ ls, LnI l) (hK : ∀ u ∈ uses ls, u ∈ keysK K)
    (P : ∀ u ∈ uses ls, ∀ v, K.lookup u = some (v + 1) → ∀ i, ∃ c xs, c ≤ c0 * (v + 1) ∧ ∀ S k out, Tr own K k S out → Tr own K (k + c) ((own u).map (fun l => (l, i)) ++ S) (xs ++ out)) :
    ∀ i, ∃ c xs, c ≤ ls.length + c0 * sumK K (uses ls) ∧ ∀ S k out, Tr own K k S out → Tr own K (k + c) (ls.map (fun l => (l, i)) ++ S) (xs ++ out) := by
  induction ls with
  | nil => intro i; exact ⟨0, [], Nat.zero_le _, fun S k out h => h⟩
  | cons l ls ih =>
    intro i
    have hl' : ∀ x ∈ ls, LnI x := fun x hx => hl x (List.mem_cons_of_mem _ hx)
    cases l with
    | pr t => exact (hl _ List.mem_cons_self).elim
    | hd t => exact (hl _ List.mem_cons_self).elim
    | co t =>
      have eu : uses (.co t :: ls) = uses ls := uses_none rfl
      rw [eu] at hK P
      obtain ⟨c, xs, h1, h2⟩ := ih hl' hK P i
      refine ⟨c + 1, shownT i t :: xs, by rw [eu]; simp only [List.length_cons]; omega, fun S k out h => ?_⟩
      exact .code (h2 S k out h)
    | us j n =>
      have hj : 0 ≤ j := hl _ List.mem_cons_self
      obtain ⟨j, rfl⟩ : ∃ q : Nat, j = q := ⟨j.toNat, by omega⟩
      have eu : uses (.us (j : Int) n :: ls) = n :: uses ls := uses_some rfl
      rw [eu] at hK P
      obtain ⟨c, xs, h1, h2⟩ := ih hl' (fun u hu => hK u (List.mem_cons_of_mem _ hu)) (fun u hu => P u (List.mem_cons_of_mem _ hu)) i
      obtain ⟨a, ea⟩ := look_mem.mp (hK n List.mem_cons_self)
      have es : sumK K (n :: uses ls) = a + sumK K (uses ls) := by
        unfold sumK
        rw [List.map_cons, List.sum_cons]
        unfold getK
        rw [ea]
        rfl
      rw [eu, es]
      cases a with
      | zero =>
        refine ⟨c + 1, xs, by simp only [List.length_cons]; rw [Nat.zero_add]; omega, fun S k out h => ?_⟩
        exact .skip ea (h2 S k out h)
      | succ v =>
        obtain ⟨c1, ys, g1, g2⟩ := P n List.mem_cons_self v ea (i + j)
        refine ⟨c + c1 + 1, ys ++ xs, ?_, fun S k out h => ?_⟩
        · simp only [List.length_cons]
          rw [Nat.mul_add]
          omega
        · have := g2 _ _ _ (h2 S k out h)
          rw [List.append_assoc, show k + (c + c1 + 1) = k + c + c1 + 1 by omega]
          exact .exp ea this
theorem tr_name {K : Kn} {M : Nat} {f : List Tx} (t : Topo hs own f) (g : GoodK own K) (hM : ∀ n, (own n).length ≤ M) (hI : ∀ n, ∀ l ∈ own n, LnI l) :
    ∀ n ∈ f, ∀ v, K.lookup n = some (v + 1) → ∀ i, ∃ c xs, c ≤ M * f.length * (v + 1) ∧ ∀ S k out, Tr own K k S out → Tr own K (k + c) ((own n).map (fun l => (l, i)) ++ S) (xs ++ out) := by
  induction t with
  | nil => intro n hn; cases hn
  | @cons m f hm hf hu t ih =>
    intro n hn v hv i
    rcases List.mem_cons.mp hn with rfl | hn
    · obtain ⟨h1, h2⟩ := g.vl n _ hv
      obtain ⟨c, xs, b1, b2⟩ := tr_list own (c0 := M * f.length) (own n) (hI n) h2 (fun u hu' => ih u (hu u hu')) i
      refine ⟨c, xs, ?_, b2⟩
      have h3 : sumK K (uses (own n)) ≤ v + 1 := by unfold valOf at h1; omega
      have h4 := Nat.mul_le_mul_left (M * f.length) h3
      have h5 := hM n
      have h6 : M * (n :: f).length * (v + 1) = M * f.length * (v + 1) + M * (v + 1) := by
        rw [List.length_cons, Nat.mul_add M, Nat.add_mul, Nat.mul_one]
      have h7 : M ≤ M * (v + 1) := Nat.le_mul_of_pos_right _ (by omega)
      omega
    · obtain ⟨c, xs, b1, b2⟩ := ih n hn v hv i
      refine ⟨c, xs, Nat.le_trans b1 (Nat.mul_le_mul_right _ (Nat.mul_le_mul_left _ (by simp))), b2⟩
end
end TG

set_option Elab.async false
set_option linter.all false
set_option maxRecDepth 100000
set_option maxHeartbeats 8000000
namespace TG
open PySem PySem.Spec PyProof.Rows L2 G C D
def S_table_of : S :=
  (.seq (.set (.inl 1) (.dnew true))
  (.seq (.sfor (.inr [2, 3, 4]) (.call "sections" false (.cons (.var 0) .nil))
  (.seq (.expr (.mth .extend (.mth .setdefault (.var 1) (.cons (.var 2) (.cons (.lst true .nil) .nil))) (.cons (.lrng false (.bin .add false (.var 3) (.int 1)) (.var 4)) .nil)))
  .nil))
  (.seq (.ret (.var 1))
  .nil)))
def D_table_of : Df := ⟨["document", "table", "name", "head", "end"], 1, S_table_of⟩
def S_ring_from : S :=
  (.seq (.ret (.bif .tuple false (.cons (.sl false (.var 0) (.mth .index (.var 0) (.cons (.var 1) .nil)) .nil) .nil)))
  .nil)
def D_ring_from : Df := ⟨["path", "name"], 2, S_ring_from⟩
def S_closure : S :=
  (.seq (.set (.inl 2) (.call "table_of" false (.cons (.var 0) .nil)))
  (.seq (.sif (.cmp .notIn (.var 1) (.var 2))
  (.seq (.raisI "NoPiece" (.cons (.var 1) .nil))
  .nil)
  .nil)
  (.seq (.set (.inl 3) (.lst true (.cons (.var 1) .nil)))
  (.seq (.set (.inl 4) (.lst true (.cons (.var 1) .nil)))
  (.seq (.set (.inl 5) (.lst true (.cons (.bif .list true (.cons (.ix (.var 2) (.var 1)) .nil)) .nil)))
  (.seq (.swh (.var 4)
  (.seq (.sif (.not (.ix (.var 5) (.neg (.int 1))))
  (.seq (.expr (.mth .pop (.var 4) .nil))
  (.seq (.expr (.mth .pop (.var 5) .nil))
  (.seq .cont
  .nil)))
  .nil)
  (.seq (.set (.inl 6) (.mth .pop (.ix (.var 5) (.neg (.int 1))) (.cons (.int 0) .nil)))
  (.seq (.sif (.cmp .ne (.ix (.ix (.var 0) (.var 6)) (.int 0)) (.str [117, 115, 101]))
  (.seq .cont
  .nil)
  .nil)
  (.seq (.set (.inl 7) (.ix (.ix (.var 0) (.var 6)) (.int 2)))
  (.seq (.sif (.cmp .notIn (.var 7) (.var 2))
  (.seq (.raisI "Missing" (.cons (.var 6) (.cons (.var 7) .nil)))
  .nil)
  .nil)
  (.seq (.sif (.cmp .in_ (.var 7) (.var 4))
  (.seq (.raisI "Ring" (.cons (.call "ring_from" false (.cons (.var 4) (.cons (.var 7) .nil))) .nil))
  .nil)
  .nil)
  (.seq (.sif (.cmp .notIn (.var 7) (.var 3))
  (.seq (.expr (.mth .append (.var 3) (.cons (.var 7) .nil)))
  (.seq (.expr (.mth .append (.var 4) (.cons (.var 7) .nil)))
  (.seq (.expr (.mth .append (.var 5) (.cons (.bif .list true (.cons (.ix (.var 2) (.var 7)) .nil)) .nil)))
  .nil)))
  .nil)
  .nil))))))))
  (.seq (.ret (.var 3))
  .nil)))))))
def D_closure : Df := ⟨["document", "root", "table", "order", "path", "left", "at", "name"], 2, S_closure⟩
def S_lengths_of : S :=
  (.seq (.set (.inl 2) (.call "table_of" false (.cons (.var 0) .nil)))
  (.seq (.set (.inl 3) (.dnew true))
  (.seq (.set (.inl 4) (.bif .list true (.cons (.var 1) .nil)))
  (.seq (.swh (.var 4)
  (.seq (.set (.inl 5) (.ix (.var 4) (.neg (.int 1))))
  (.seq (.set (.inl 6) (.lc false [8] (.inl 8) (.ix (.var 2) (.var 5)) (.cmp .eq (.ix (.ix (.var 0) (.var 8)) (.int 0)) (.str [117, 115, 101])) (.ix (.ix (.var 0) (.var 8)) (.int 2))))
  (.seq (.set (.inl 7) (.lc false [9] (.inl 9) (.var 6) (.cmp .notIn (.var 9) (.var 3)) (.var 9)))
  (.seq (.sif (.cmp .in_ (.var 5) (.var 3))
  (.seq (.expr (.mth .pop (.var 4) .nil))
  .nil)
  (.seq (.sif (.var 7)
  (.seq (.expr (.mth .append (.var 4) (.cons (.ix (.var 7) (.int 0)) .nil)))
  .nil)
  (.seq (.setIx (.var 3) (.var 5) (.bin .add false (.bin .sub false (.bif .len false (.cons (.ix (.var 2) (.var 5)) .nil)) (.bif .len false (.cons (.var 6) .nil))) (.cbf .sum false (.cons (.lc false [9] (.inl 9) (.var 6) .nil (.ix (.var 3) (.var 9))) .nil))))
  (.seq (.expr (.mth .pop (.var 4) .nil))
  .nil)))
  .nil))
  .nil)))))
  (.seq (.ret (.var 3))
  .nil)))))
def D_lengths_of : Df := ⟨["document", "order", "table", "known", "waiting", "name", "needed", "unknown", "at", "other"], 2, S_lengths_of⟩
def S_length : S :=
  (.seq (.ret (.ix (.call "lengths_of" false (.cons (.var 0) (.cons (.call "closure" false (.cons (.var 0) (.cons (.var 1) .nil))) .nil))) (.var 1)))
  .nil)
def D_length : Df := ⟨["document", "root"], 2, S_length⟩
def S_shown : S :=
  (.seq (.sif (.cmp .eq (.var 1) (.str []))
  (.seq (.ret (.str []))
  .nil)
  .nil)
  (.seq (.ret (.bin .add false (.bin .mul false (.str [32]) (.var 0)) (.var 1)))
  .nil))
def D_shown : Df := ⟨["indent", "text"], 2, S_shown⟩
def S_tangle : S :=
  (.seq (.set (.inl 2) (.call "lengths_of" false (.cons (.var 0) (.cons (.call "closure" false (.cons (.var 0) (.cons (.var 1) .nil))) .nil))))
  (.seq (.sif (.cmp .gt (.ix (.var 2) (.var 1)) (.glob "MOST_LINES"))
  (.seq .stk
  .nil)
  .nil)
  (.seq (.set (.inl 3) (.call "table_of" false (.cons (.var 0) .nil)))
  (.seq (.set (.inl 4) (.lst true .nil))
  (.seq (.set (.inl 5) (.lc true [7] (.inl 7) (.irev (.ix (.var 3) (.var 1))) .nil (.tup (.cons (.var 7) (.cons (.int 0) (.cons (.tup .nil) .nil))))))
  (.seq (.swh (.var 5)
  (.seq (.set (.inr [7, 8, 9]) (.mth .pop (.var 5) .nil))
  (.seq (.set (.inl 6) (.ix (.var 0) (.var 7)))
  (.seq (.sif (.cmp .eq (.ix (.var 6) (.int 0)) (.str [99, 111, 100, 101]))
  (.seq (.expr (.mth .append (.var 4) (.cons (.tup (.cons (.call "shown" false (.cons (.var 8) (.cons (.ix (.var 6) (.int 1)) .nil))) (.cons (.var 7) (.cons (.var 9) .nil)))) .nil)))
  .nil)
  (.seq (.sif (.cmp .gt (.ix (.var 2) (.ix (.var 6) (.int 2))) (.int 0))
  (.seq (.sfor (.inl 10) (.irev (.ix (.var 3) (.ix (.var 6) (.int 2))))
  (.seq (.expr (.mth .append (.var 5) (.cons (.tup (.cons (.var 10) (.cons (.bin .add false (.var 8) (.ix (.var 6) (.int 1))) (.cons (.bin .add false (.var 9) (.tup (.cons (.var 7) .nil))) .nil)))) .nil)))
  .nil))
  .nil)
  .nil)
  .nil))
  .nil))))
  (.seq (.ret (.var 4))
  .nil)))))))
def D_tangle : Df := ⟨["document", "root", "known", "table", "program", "waiting", "line", "at", "indent", "path", "inner"], 2, S_tangle⟩
def S_texts_of : S :=
  (.seq (.ret (.lc false [1] (.inl 1) (.var 0) .nil (.ix (.var 1) (.int 0))))
  .nil)
def D_texts_of : Df := ⟨["lines", "line"], 1, S_texts_of⟩
def S__law_shown : S :=
  (.seq (.tryE
  (.seq (.sif (.cmp .gt (.call "length" false (.cons (.var 0) (.cons (.var 1) .nil))) (.int 150))
  (.seq (.ret (.tup (.cons (.str [108, 111, 110, 103]) .nil)))
  .nil)
  .nil)
  (.seq (.ret (.call "texts_of" false (.cons (.call "tangle" false (.cons (.var 0) (.cons (.var 1) .nil))) .nil)))
  .nil))
  (.hnd "NoPiece" none
  (.seq (.ret (.tup (.cons (.str [110, 111, 110, 101]) .nil)))
  .nil)
  (.hnd "Missing" none
  (.seq (.ret (.tup (.cons (.str [109, 105, 115, 115, 105, 110, 103]) .nil)))
  .nil)
  (.hnd "Ring" none
  (.seq (.ret (.tup (.cons (.str [114, 105, 110, 103]) .nil)))
  .nil)
  .hend))))
  .nil)
def D__law_shown : Df := ⟨["_law_document_here", "_law_root"], 2, S__law_shown⟩
def S__law_same_programs : S :=
  (.seq (.sfor (.inl 2) (.lst false (.cons (.str [97]) (.cons (.str [98]) (.cons (.str [99]) (.cons (.str [100]) (.cons (.str [101]) .nil))))))
  (.seq (.sif (.cmp .ne (.call "_law_shown" false (.cons (.var 0) (.cons (.var 2) .nil))) (.call "_law_shown" false (.cons (.var 1) (.cons (.var 2) .nil))))
  (.seq (.ret (.bl false))
  .nil)
  .nil)
  .nil))
  (.seq (.ret (.bl true))
  .nil))
def D__law_same_programs : Df := ⟨["_law_one", "_law_other", "_law_root"], 2, S__law_same_programs⟩

/-! ### what is taken out of the store -/
theorem fz_free {n : Nat} : ∀ {l : List Va} {st : Sto}, (∀ x ∈ l, free x = true) → mapS (freezeN (n + 1)) l st = some (l, st)
  | [], st, _ => rfl
  | x :: l, st, h => by
    have ih := fz_free (n := n) (l := l) (st := st) fun y hy => h y (List.mem_cons_of_mem _ hy)
    have e : freezeN (n + 1) x st = some (x, st) := by
      unfold freezeN
      rw [if_pos (h x List.mem_cons_self)]
    unfold mapS
    rw [e]
    simp only
    rw [ih]
theorem fz_refs : ∀ {T : List (Nat × List Va)} {st : Sto}, (T.map (·.1)).Nodup → (∀ x ∈ T, st[x.1]? = some (some (.lst x.2)) ∧ ∀ y ∈ x.2, free y = true) → ∃ st', mapS (freezeN 20) (T.map fun x => .ref x.1) st = some (T.map fun x => .lst x.2, st')
  | [], st, _, _ => ⟨st, rfl⟩
  | (p, l) :: T, st, nd, h => by
    have nd := List.nodup_cons.mp nd
    obtain ⟨h1, h2⟩ := h (p, l) List.mem_cons_self
    have e : freezeN 20 (.ref p) st = some (.lst l, st.set p none) := by
      unfold freezeN
      rw [if_neg (by rw [show free (.ref p) = false from rfl]; decide)]
      have h1 : st[p]? = some (some (.lst l)) := h1
      simp only [h1]
      rw [fz_free h2]
      rfl
    obtain ⟨st', ih⟩ := fz_refs (T := T) (st := st.set p none) nd.2 fun x hx => by
      obtain ⟨g1, g2⟩ := h x (List.mem_cons_of_mem _ hx)
      refine ⟨?_, g2⟩
      rw [List.getElem?_set_ne fun z => nd.1 (by rw [z]; exact List.mem_map_of_mem (f := (·.1)) hx)]
      exact g1
    refine ⟨st', ?_⟩
    rw [List.map_cons]
    unfold mapS
    rw [e]
    simp only
    rw [ih]
    rfl
/-! ### the table -/
theorem dedup_mem : ∀ {l acc : List Tx} {x : Tx}, x ∈ dedup acc l ↔ x ∈ acc ∨ x ∈ l
  | [], acc, x => by simp [dedup]
  | y :: l, acc, x => by
    show x ∈ dedup (if y ∈ acc then acc else acc ++ [y]) l ↔ _
    rw [dedup_mem]
    by_cases h : y ∈ acc
    · rw [if_pos h, List.mem_cons]
      constructor
      · rintro (z | z)
        · exact .inl z
        · exact .inr (.inr z)
      · rintro (z | z | z)
        · exact .inl z
        · exact .inl (z ▸ h)
        · exact .inr z
    · rw [if_neg h]
      simp only [List.mem_append, List.mem_cons, List.not_mem_nil, or_false]
      exact ⟨fun z => by rcases z with (z | z) | z <;> simp [z], fun z => by rcases z with z | z | z <;> simp [z]⟩
theorem names_mem {S : List Sec} {n : Tx} : n ∈ namesOf S ↔ ∃ s ∈ S, s.1 = n := by
  unfold D.namesOf
  rw [dedup_mem]
  simp
theorem dedup_nd : ∀ {l acc : List Tx}, acc.Nodup → (dedup acc l).Nodup
  | [], acc, h => h
  | y :: l, acc, h => by
    show (dedup (if y ∈ acc then acc else acc ++ [y]) l).Nodup
    refine dedup_nd ?_
    by_cases e : y ∈ acc
    · rw [if_pos e]; exact h
    · rw [if_neg e, List.nodup_append]
      exact ⟨h, by simp, fun a ha b hb => by rw [List.mem_singleton.mp hb]; exact fun z => e (z ▸ ha)⟩
theorem names_nd (S : List Sec) : (namesOf S).Nodup := dedup_nd List.nodup_nil
theorem lns_nil {S : List Sec} {n : Tx} (h : n ∉ namesOf S) : lnsOf S n = [] := by
  unfold lnsOf
  rw [List.flatMap_eq_nil_iff]
  intro s hs
  rw [if_neg fun z => h (names_mem.mpr ⟨s, hs, z⟩)]
theorem at_map {α : Type} (f : α → Va) {n : Tx} : ∀ T : List (Tx × α), atKy (T.map fun x => .inr x.1) (T.map fun x => f x.2) (.inr n) = (T.lookup n).map f
  | [] => rfl
  | x :: T => by
    rw [List.map_cons, List.map_cons, atKy, List.lookup_cons]
    by_cases h : x.1 = n
    · have : (n == x.1) = true := by simpa using h.symm
      rw [this, if_pos (by rw [h])]
      rfl
    · have : (n == x.1) = false := by simpa using fun z : n = x.1 => h z.symm
      rw [this, if_neg (by simpa using h), at_map]
theorem look_in {α : Type} {n : Tx} {a : α} : ∀ {T : List (Tx × α)}, T.lookup n = some a → (n, a) ∈ T
  | [], h => by cases h
  | x :: T, h => by
    rw [List.lookup_cons] at h
    by_cases e : n = x.1
    · have : (n == x.1) = true := by simpa using e
      rw [this] at h
      cases h
      rw [e]
      exact List.mem_cons_self
    · have : (n == x.1) = false := by simpa using e
      rw [this] at h
      exact List.mem_cons_of_mem _ (look_in h)
theorem look_no {α : Type} {n : Tx} : ∀ {T : List (Tx × α)}, T.lookup n = none → n ∉ T.map (·.1)
  | [], _ => by simp
  | x :: T, h => by
    rw [List.lookup_cons] at h
    by_cases e : n = x.1
    · have : (n == x.1) = true := by simpa using e
      rw [this] at h
      cases h
    · have : (n == x.1) = false := by simpa using e
      rw [this] at h
      simp only [List.map_cons, List.mem_cons, not_or]
      exact ⟨e, look_no h⟩
theorem put_new {ks : List Ky} {ws : List Va} {k : Ky} {v : Va} (h : k ∉ ks) : putKy ks ws k v = (ks ++ [k], ws ++ [v]) := by
  unfold putKy
  rw [if_neg]
  intro z
  obtain ⟨x, hx, e⟩ := List.any_eq_true.mp z
  exact h (of_decide_eq_true e ▸ hx)
def tabV (d : List Ln) : Va := .dic ((namesOf (secs d)).map .inr) ((namesOf (secs d)).map fun n => .lst ((lnsOf (secs d) n).map vN))
theorem free_tabV (d : List Ln) : free (tabV d) = true := by
  show frees _ = true
  exact frees_map fun n => by
    rw [free_lst]
    exact frees_map fun _ => rfl
/-- the store while the table is made -/
structure TabS (S : List Sec) (T : List (Tx × Nat)) (st : Sto) : Prop where
  nm : T.map (·.1) = namesOf S
  tb : st[0]? = some (some (.dic (T.map fun x => .inr x.1) (T.map fun x => .ref x.2)))
  ls : ∀ x ∈ T, 1 ≤ x.2 ∧ st[x.2]? = some (some (.lst ((lnsOf S x.1).map vN)))
  nd : (T.map (·.2)).Nodup
theorem pair_uni {T : List (Tx × Nat)} (nd : (T.map (·.1)).Nodup) {n : Tx} {a b : Nat} (h1 : (n, a) ∈ T) (h2 : (n, b) ∈ T) : a = b := by
  induction T with
  | nil => cases h1
  | cons x T ih =>
    have nd := List.nodup_cons.mp nd
    rcases List.mem_cons.mp h1 with e1 | g1
    · rcases List.mem_cons.mp h2 with e2 | g2
      · exact (Prod.mk.inj (e1.trans e2.symm)).2
      · exact absurd (show x.1 ∈ T.map (·.1) by rw [← e1]; exact List.mem_map_of_mem (f := (·.1)) g2) nd.1
    · rcases List.mem_cons.mp h2 with e2 | g2
      · exact absurd (show x.1 ∈ T.map (·.1) by rw [← e2]; exact List.mem_map_of_mem (f := (·.1)) g1) nd.1
      · exact ih nd.2 g1 g2
theorem pair_uni2 {T : List (Tx × Nat)} (nd : (T.map (·.2)).Nodup) {n m : Tx} {a : Nat} (h1 : (n, a) ∈ T) (h2 : (m, a) ∈ T) : n = m := by
  induction T with
  | nil => cases h1
  | cons x T ih =>
    have nd := List.nodup_cons.mp nd
    rcases List.mem_cons.mp h1 with e1 | g1
    · rcases List.mem_cons.mp h2 with e2 | g2
      · exact (Prod.mk.inj (e1.trans e2.symm)).1
      · exact absurd (show x.2 ∈ T.map (·.2) by rw [← e1]; exact List.mem_map_of_mem (f := (·.2)) g2) nd.1
    · rcases List.mem_cons.mp h2 with e2 | g2
      · exact absurd (show x.2 ∈ T.map (·.2) by rw [← e2]; exact List.mem_map_of_mem (f := (·.2)) g1) nd.1
      · exact ih nd.2 g1 g2
theorem tab_step {S : List Sec} {s : Sec} {T : List (Tx × Nat)} {st : Sto} (h : TabS S T st) (hl : (namesOf S).length < sizeLine) : ∃ p T' st1, setdV (.ref 0) [.str s.1, .ref st.length] (st ++ [some (.lst [])]) = .ok (.ref p) st1 ∧
    st1.length = st.length + 1 ∧ st1[p]? = some (some (.lst ((lnsOf S s.1).map vN))) ∧ TabS (S ++ [s]) T' (st1.set p (some (.lst ((lnsOf S s.1).map vN ++ (lnsS s).map vN)))) := by
  have h0 : 0 < st.length := (List.getElem?_eq_some_iff.mp h.tb).1
  have ho : ∀ {q : Nat} {x : Option Ob}, st[q]? = some x → (st ++ [some (.lst [])])[q]? = some x := fun {q x} e => by
    rw [List.getElem?_append_left (List.getElem?_eq_some_iff.mp e).1]; exact e
  have hlns : ∀ m, lnsOf (S ++ [s]) m = lnsOf S m ++ if s.1 = m then lnsS s else [] := fun m => by unfold lnsOf; simp
  have hkl : (T.map fun x : Tx × Nat => (Sum.inr x.1 : Ky)).length = (namesOf S).length := by
    rw [← h.nm]; simp
  have hnm : namesOf (S ++ [s]) = if s.1 ∈ namesOf S then namesOf S else namesOf S ++ [s.1] := by
    unfold D.namesOf dedup
    rw [List.map_append, List.foldl_append]
    rfl
  have hsd : ∀ r : G.R Va, (match atKy (T.map fun x => (Sum.inr x.1 : Ky)) (T.map fun x => Va.ref x.2) (.inr s.1) with
      | some w => G.R.ok w (st ++ [some (Ob.lst [])])
      | none => G.R.ok (Va.ref st.length) ((st ++ [some (Ob.lst [])]).set 0 (some (Ob.dic (putKy (T.map fun x => (Sum.inr x.1 : Ky)) (T.map fun x => Va.ref x.2) (.inr s.1) (.ref st.length)).1 (putKy (T.map fun x => (Sum.inr x.1 : Ky)) (T.map fun x => Va.ref x.2) (.inr s.1) (.ref st.length)).2)))) = r → setdV (.ref 0) [.str s.1, .ref st.length] (st ++ [some (.lst [])]) = r := fun r e => by
    unfold setdV
    simp only [ho h.tb, kyOf]
    rw [if_pos (by rw [hkl]; exact hl)]
    exact e
  cases e : T.lookup s.1 with
  | some p =>
    have hin := look_in e
    obtain ⟨p1, p2⟩ := h.ls _ hin
    have hmem : s.1 ∈ namesOf S := by rw [← h.nm]; exact List.mem_map_of_mem hin
    refine ⟨p, T, st ++ [some (.lst [])], hsd _ (by rw [at_map (fun q => .ref q), e]; rfl), by simp, ho p2, ⟨by rw [hnm, if_pos hmem]; exact h.nm, ?_, fun x hx => ?_, h.nd⟩⟩
    · rw [List.getElem?_set_ne (by omega)]
      exact ho h.tb
    · obtain ⟨q1, q2⟩ := h.ls x hx
      refine ⟨q1, ?_⟩
      rw [hlns]
      by_cases en : s.1 = x.1
      · have ep : p = x.2 := pair_uni (by rw [h.nm]; exact names_nd S) hin (by rw [en]; exact hx)
        rw [if_pos en, ← ep, List.getElem?_set_self (List.getElem?_eq_some_iff.mp (ho p2)).1, ← en]
        simp
      · have ep : p ≠ x.2 := fun z => en (pair_uni2 h.nd hin (by rw [z]; exact hx))
        rw [if_neg en, List.append_nil, List.getElem?_set_ne ep]
        exact ho q2
  | none =>
    have hno := look_no e
    have hmem : s.1 ∉ namesOf S := by rw [← h.nm]; exact hno
    have hk : (Sum.inr s.1 : Ky) ∉ T.map fun x => (Sum.inr x.1 : Ky) := fun z => by
      obtain ⟨x, hx, ex⟩ := List.mem_map.mp z
      exact hno (List.mem_map.mpr ⟨x, hx, Sum.inr.inj ex⟩)
    have hln := lns_nil hmem
    refine ⟨st.length, T ++ [(s.1, st.length)], _, hsd _ (by rw [at_map (fun q => .ref q), e, put_new hk]; rfl), by simp, ?_, ⟨by rw [hnm, if_neg hmem, List.map_append, h.nm]; rfl, ?_, fun x hx => ?_, ?_⟩⟩
    · rw [List.getElem?_set_ne (by omega), hln]
      simp
    · rw [List.getElem?_set_ne (by omega), List.getElem?_set_self (by simp)]
      simp
    · have hq : ∀ {q : Nat} {x : Option Ob}, q ≠ 0 → q ≠ st.length → st[q]? = some x → ((((st ++ [some (Ob.lst [])]).set 0 (some (Ob.dic ((T.map fun x => (Sum.inr x.1 : Ky)) ++ [.inr s.1]) ((T.map fun x => Va.ref x.2) ++ [.ref st.length])))).set st.length (some (Ob.lst ((lnsOf S s.1).map vN ++ (lnsS s).map vN)))))[q]? = some x := fun {q x} h1 h2 h3 => by
        rw [List.getElem?_set_ne (Ne.symm h2), List.getElem?_set_ne (Ne.symm h1)]
        exact ho h3
      rcases List.mem_append.mp hx with hx | hx
      · obtain ⟨q1, q2⟩ := h.ls x hx
        have en : s.1 ≠ x.1 := fun z => hno (by rw [z]; exact List.mem_map_of_mem hx)
        have ql := (List.getElem?_eq_some_iff.mp q2).1
        exact ⟨q1, by rw [hlns, if_neg en, List.append_nil]; exact hq (by omega) (by omega) q2⟩
      · rw [List.mem_singleton.mp hx]
        refine ⟨h0, ?_⟩
        rw [hlns, if_pos rfl, List.getElem?_set_self (by simp)]
        simp
    · rw [List.map_append, List.nodup_append]
      refine ⟨h.nd, by simp, fun a ha b hb => ?_⟩
      obtain ⟨x, hx, rfl⟩ := List.mem_map.mp ha
      have := (List.getElem?_eq_some_iff.mp (h.ls x hx).2).1
      simp at hb
      omega
theorem tab_ret {S : List Sec} {T : List (Tx × Nat)} {st : Sto} (h : TabS S T st) : retV (.ref 0) st = .ok (.dic ((namesOf S).map .inr) ((namesOf S).map fun n => .lst ((lnsOf S n).map vN))) [none] := by
  obtain ⟨st', e⟩ := fz_refs (T := T.map fun x => (x.2, (lnsOf S x.1).map vN)) (st := st.set 0 none) (by rw [List.map_map]; exact h.nd) fun x hx => by
    obtain ⟨y, hy, rfl⟩ := List.mem_map.mp hx
    obtain ⟨h1, h2⟩ := h.ls y hy
    refine ⟨by rw [List.getElem?_set_ne (by omega)]; exact h2, fun z hz => ?_⟩
    obtain ⟨i, _, rfl⟩ := List.mem_map.mp hz
    rfl
  unfold retV takeO
  simp only [h.tb]
  rw [List.map_map] at e
  have e2 : mapS (freezeN 20) (T.map fun x => Va.ref x.2) (st.set 0 none) = some (T.map fun x => Va.lst ((lnsOf S x.1).map vN), st') := by
    rw [List.map_map] at e
    exact e
  rw [e2, ← h.nm, List.map_map, List.map_map]
  rfl
end TG

set_option Elab.async false
set_option linter.all false
set_option maxRecDepth 100000
set_option maxHeartbeats 8000000
namespace TG
open PySem PySem.Spec PyProof.Rows L2 G C D
theorem table_run {L : Lm} {d : List Ln} (hl : d.length ≤ 1000) (hs : L.fn "sections" [.tup (d.map vLn)] = .ok (.lst ((secs d).map vSec)) fresh) : runD L D_table_of [.tup (d.map vLn)] = .ok (tabV d) fresh := by
  have hc : ∀ st, callP false (L.fn "sections") [.tup (d.map vLn)] st = .ok (.lst ((secs d).map vSec)) st := fun st => callP_free (by simp [frees_map free_vLn]) hs
  have hsl := secs_len d
  refine runD_of (fun v s => v = .ref 0 ∧ ∃ T, TabS (secs d) T s) [some (.tup (d.map vLn)), none, none, none, none] rfl rfl (fun v s ⟨h1, T, h2⟩ => ?_) fun Q hr => ?_
  · subst h1
    exact tab_ret h2
  simp -implicitDefEqProofs [D_table_of, S_table_of, mVar, hc]
  refine wp_for (fun k env st => ∃ x2 x3 x4 T, env = [some (.tup (d.map vLn)), some (.ref 0), x2, x3, x4] ∧ st.length = k + 1 ∧ TabS ((secs d).take k) T st) ⟨none, none, none, [], rfl, rfl, ⟨rfl, rfl, (fun x hx => nomatch hx), List.nodup_nil⟩⟩ ?_ ?_
  · rintro k w env st Qb hw ⟨x2, x3, x4, T, rfl, hst, tb⟩ hnx _ _ _
    rw [List.getElem?_map] at hw
    obtain ⟨s, hs, rfl⟩ := Option.map_eq_some_iff.mp hw
    have hm := List.mem_of_getElem? hs
    have h1 := secs_end hm
    have h2 := secs_head hm
    have hk : k < (secs d).length := (List.getElem?_eq_some_iff.mp hs).1
    have htk : (secs d).take (k + 1) = (secs d).take k ++ [s] := by rw [List.take_succ, hs]; rfl
    have hb := lns_bd (d := d) s.1 k hl
    obtain ⟨p, T', st1, e1, e2, e3, e4⟩ := tab_step (s := s) tb (by
      have := names_bd (secs d) k
      unfold sizeLine
      omega)
    have ll : (lnsS s).length ≤ 1000 := by simp [lnsS]; omega
    have rg : rgB ((s.2.1 : Int) + 1) (s.2.2 : Int) = true := by
      unfold rgB
      rw [i62_nat1 (by omega), i62_nat (by omega)]
      simp
      omega
    have t1 : tyB "dict" (.ref 0) st = true := by simp [tyB, dicOf, tb.tb]
    have t2 : tyB "list" (.ref p) st1 = true := by simp [tyB, lstOf, e3]
    have t3 : mkL true [] st = .ok (.ref st.length) (st ++ [some (.lst [])]) := rfl
    have t4 : extendV (.ref p) [.lst ((lnsS s).map vN)] st1 = .ok .non (st1.set p (some (.lst ((lnsOf ((secs d).take k) s.1).map vN ++ (lnsS s).map vN)))) := extend_lst e3 rfl (by simp [sizeLine]; omega)
    refine ⟨rfl, _, rfl, ?_⟩
    simp -implicitDefEqProofs [mVar, vSec, t1, t3, e1, t2, mLrg, rg, rints_S]
    rw [mkL_val (by simp [sizeLine]; omega)]
    simp -implicitDefEqProofs [t4]
    exact hnx _ _ ⟨_, _, _, T', rfl, by rw [List.length_set, e2, hst], by rw [htk]; exact e4⟩
  · rintro env st ⟨x2, x3, x4, T, rfl, hst, tb⟩
    refine ⟨rfl, ?_⟩
    simp -implicitDefEqProofs [-List.map_take, mVar]
    refine hr _ _ ⟨rfl, T, ?_⟩
    rw [List.length_map, List.take_length] at tb
    exact tb
/-- what the document's pieces hold -/
structure Con (hs : Tx → Prop) (own : Tx → List Ln) (d : List Ln) : Prop where
  hs : ∀ n, hs n ↔ n ∈ namesOf (secs d)
  own : ∀ n, (lnsOf (secs d) n).map (fun i => d[i]?) = (own n).map some
theorem tab_look (d : List Ln) (n : Tx) : atKy ((namesOf (secs d)).map .inr) ((namesOf (secs d)).map fun n => .lst ((lnsOf (secs d) n).map vN)) (.inr n) = if n ∈ namesOf (secs d) then some (.lst ((lnsOf (secs d) n).map vN)) else none := by
  have e := at_map (fun q : List Nat => .lst (q.map vN)) (n := n) ((namesOf (secs d)).map fun m => (m, lnsOf (secs d) m))
  rw [List.map_map, List.map_map] at e
  have e2 : (((namesOf (secs d)).map fun m => (m, lnsOf (secs d) m)).lookup n).map (fun q : List Nat => Va.lst (q.map vN)) = if n ∈ namesOf (secs d) then some (.lst ((lnsOf (secs d) n).map vN)) else none := by
    generalize namesOf (secs d) = l
    clear e
    induction l with
    | nil => rfl
    | cons a l ih =>
      rw [List.map_cons, List.lookup_cons]
      by_cases h : n = a
      · subst h
        simp
      · have : (n == a) = false := by simpa using h
        rw [this]
        simp only [List.mem_cons, h, false_or]
        exact ih
  rw [← e2]
  exact e
theorem ix_tab {d : List Ln} {n : Tx} (h : n ∈ namesOf (secs d)) (st : Sto) : ixV (tabV d) (.str n) st = .ok (.lst ((lnsOf (secs d) n).map vN)) st := by
  have e := tab_look d n
  rw [if_pos h] at e
  unfold ixV tabV
  simp only [dicOf, kyOf]
  rw [e]
theorem in_tab (neg : Bool) (d : List Ln) (n : Tx) (st : Sto) : inV' neg (.str n) (tabV d) st = .ok (.bl (if neg then !decide (n ∈ namesOf (secs d)) else decide (n ∈ namesOf (secs d)))) st := by
  have e := tab_look d n
  unfold inV' tabV
  simp only [G.strOf, dicOf, kyOf]
  rw [e]
  by_cases h : n ∈ namesOf (secs d)
  · rw [if_pos h]; simp [h]
  · rw [if_neg h]; simp [h]
end TG

set_option Elab.async false
set_option linter.all false
set_option maxRecDepth 100000
set_option maxHeartbeats 8000000
namespace TG
open PySem PySem.Spec PyProof.Rows L2 G C D
/-- a def, by what holds of its result -/
theorem runD_pred {L : Lm} {d : Df} {ws : List Va} (P : G.R Va → Prop) (e0 : Ev) (he : ws.map some ++ List.replicate (d.N.length - ws.length) none = e0) (hn : ws.length = d.np)
    (h : ∀ Q : Po, (∀ v s, P (retV v s) → Q.rt v s) → (∀ x e s, (x.fs.all fun p => free p.2) = true → P (.err x []) → Q.err x e s) → wp Q (ex L d.body e0 [])) : P (runD L d ws) := by
  subst he
  have h := h { rt := fun v s => P (retV v s), err := fun x _ _ => (x.fs.all fun p => free p.2) = true ∧ P (.err x []) } (fun v s h => h) fun x e s h1 h2 => ⟨h1, h2⟩
  rw [wp_eq] at h
  unfold runD runB
  rw [if_pos hn]
  cases e : ex L d.body (ws.map some ++ List.replicate (d.N.length - ws.length) none) [] with
  | nx env st => rw [e] at h; exact h.elim
  | ct env st => rw [e] at h; exact h.elim
  | rt v st => rw [e] at h; exact h
  | err x env st =>
    rw [e] at h
    obtain ⟨h1, h2⟩ := h
    show P (if _ then _ else _)
    rw [if_pos h1]
    exact h2
  | stuck => rw [e] at h; exact h.elim
theorem pop_end {p : Nat} {xs : List Va} {y : Va} {st : Sto} (h : st[p]? = some (some (.lst (xs ++ [y])))) : popV (.ref p) [] st = .ok y (st.set p (some (.lst xs))) := by
  unfold popV
  simp only [h]
  have e : (xs ++ [y])[(xs ++ [y]).length - 1]? = some y := by simp
  rw [e]
  simp
theorem pop_0 {p : Nat} {xs : List Va} {y : Va} {st : Sto} (h : st[p]? = some (some (.lst (y :: xs)))) : popV (.ref p) [.int 0] st = .ok y (st.set p (some (.lst xs))) := by
  unfold popV
  simp only [h]
  have e : seqIndex? 0 (y :: xs).length = some 0 := by
    unfold seqIndex?
    simp
  rw [e]
  rfl
theorem ix_end {p : Nat} {xs : List Va} {y : Va} {st : Sto} (h : st[p]? = some (some (.lst (xs ++ [y])))) : ixV (.ref p) (.int (-1)) st = .ok y st := by
  have e1 : dicOf (.ref p) st = none := by simp [dicOf, h]
  have e2 : seqOf (.ref p) st = some (xs ++ [y]) := by simp [seqOf, lstOf, tupOf, h]
  unfold ixV
  simp only [e1, intOf_int, strOf_ref, e2]
  have e3 : L2.atI (xs ++ [y]) (-1) = some y := by
    unfold L2.atI ixN
    simp
    rw [if_pos (by omega), Option.bind_some, show (-1 + ((xs.length : Int) + 1)).toNat = xs.length by omega]
    simp
  rw [e3]
def noT : Tx := [78, 111, 80, 105, 101, 99, 101]
def missT : Tx := [77, 105, 115, 115, 105, 110, 103]
def ringT : Tx := [82, 105, 110, 103]
def owNo : Ow := ⟨noT, 1, [.c "there is no piece ", .p 0], [("name", 0)]⟩
def owMiss : Ow := ⟨missT, 2, [.c "line ", .p 0, .c ": there is no piece ", .p 1], [("line", 0), ("name", 1)]⟩
def owRing : Ow := ⟨ringT, 1, [.c "pieces need one another in a ring"], [("names", 0)]⟩
theorem small_nat {k : Nat} (h : k < 1024) : decide (((k : Int).natAbs).log2 < 1920) = true := by
  by_cases h0 : k = 0
  · rw [h0]
    decide
  · exact decide_eq_true ((Nat.log2_lt (by simpa using h0)).mpr (Nat.lt_of_lt_of_le (show ((k : Int).natAbs) < 2 ^ 10 by simpa using h) (Nat.pow_le_pow_right (by decide) (by decide))))
def xNo (n : Tx) : Exc := ⟨noT, [([110, 97, 109, 101], .str n)]⟩
theorem raisNo {env : Ev} {st : Sto} {n : Tx} (hn : n.length ≤ 1000) : raisW owNo env [.str n] st = .err (xNo n) env st := by
  have h1 : pcW [.str n] (.p 0) = true := decide_eq_true (by omega)
  have h : owNo.tx.all (pcW [.str n]) = true := by
    show (decide (("there is no piece " : Str).length ≤ 1000000) && (pcW _ (.p 0) && true)) = true
    rw [h1]
    decide +kernel
  unfold raisW
  rw [if_pos ⟨rfl, by decide, by decide, h⟩]
  rfl
def xMiss (i : Nat) (n : Tx) : Exc := ⟨missT, [([110, 97, 109, 101], .str n), ([108, 105, 110, 101], .int (i : Nat))]⟩
theorem raisMiss {env : Ev} {st : Sto} {i : Nat} {n : Tx} (hi : i < 1024) (hn : n.length ≤ 1000) : raisW owMiss env [.int (i : Nat), .str n] st = .err (xMiss i n) env st := by
  have h1 : pcW [.int (i : Nat), .str n] (.p 0) = true := small_nat hi
  have h2 : pcW [.int (i : Nat), .str n] (.p 1) = true := decide_eq_true (by omega)
  have h : owMiss.tx.all (pcW [.int (i : Nat), .str n]) = true := by
    show (decide (("line " : Str).length ≤ 1000000) && (pcW _ (.p 0) && (decide ((": there is no piece " : Str).length ≤ 1000000) && (pcW _ (.p 1) && true)))) = true
    rw [h1, h2]
    decide +kernel
  unfold raisW
  rw [if_pos ⟨rfl, by decide, by decide, h⟩]
  rfl
def xRing (w : Va) : Exc := ⟨ringT, [([110, 97, 109, 101, 115], w)]⟩
theorem raisRing {env : Ev} {st : Sto} {w : Va} : raisW owRing env [w] st = .err (xRing w) env st := by
  have h : owRing.tx.all (pcW [w]) = true := by
    show (decide (("pieces need one another in a ring" : Str).length ≤ 1000000) && true) = true
    decide +kernel
  unfold raisW
  rw [if_pos ⟨rfl, by decide, by decide, h⟩]
  rfl
/-! ### the ring -/
theorem idx_ex {b : Tx} : ∀ {l : List Tx}, b ∈ l → ∃ j, idxT b l = some j ∧ j < l.length
  | [], h => by cases h
  | z :: r, h => by
    rw [idxT]
    by_cases e : z = b
    · rw [if_pos e]; exact ⟨0, rfl, by simp⟩
    · rw [if_neg e]
      obtain ⟨j, h1, h2⟩ := idx_ex ((List.mem_cons.mp h).resolve_left fun q => e q.symm)
      rw [h1]
      exact ⟨j + 1, rfl, by simpa using h2⟩
theorem strsOf_map : ∀ zs : List Tx, strsOf (zs.map Va.str) = some zs
  | [] => rfl
  | z :: zs => by
    have h := strsOf_map zs
    unfold strsOf at h ⊢
    rw [List.map_cons]
    unfold mapO
    rw [h]
    rfl
theorem ring_run {L : Lm} {p : List Tx} {n : Tx} (hp : p.length ≤ 100000) (h : n ∈ p) : ∃ ts : List Tx, runD L D_ring_from [.lst (p.map .str), .str n] = .ok (.tup (ts.map .str)) [] := by
  obtain ⟨j, e, hj⟩ := idx_ex h
  refine ⟨cut p (some (j : Nat)) none, runD_of (fun v s => v = .tup ((cut p (some (j : Nat)) none).map .str)) [some (.lst (p.map .str)), some (.str n)] rfl rfl (fun v s h => by rw [h]; exact ret_free (by rw [free_tup]; exact frees_map fun _ => rfl)) fun Q hr => ?_⟩
  have e1 : ∀ st, indexV (.lst (p.map .str)) [.str n] st = .ok (.int (j : Nat)) st := fun st => by
    unfold indexV
    simp only [lstOf_lst, strsOf_map, strOf_str, e]
  have e2 : ∀ st, sliceV false (.lst (p.map .str)) (some (j : Nat)) none st = .ok (.lst ((cut p (some (j : Nat)) none).map .str)) st := fun st => by
    unfold sliceV
    simp only [strOf_lst, tupOf_lst, lstOf_lst]
    rw [if_pos (by simp [sizeLine]; omega)]
    have ec : cut (p.map Va.str) (some (j : Nat)) none = (cut p (some (j : Nat)) none).map .str := by
      unfold cut
      rw [List.length_map, List.map_take, List.map_drop]
    rw [ec, mkL_val]
    have : (cut p (some (j : Int)) none).length ≤ p.length := by unfold cut; rw [List.length_take, List.length_drop]; omega
    rw [List.length_map]
    unfold sizeLine
    omega
  have hl : (cut p (some (j : Int)) none).length ≤ p.length := by unfold cut; rw [List.length_take, List.length_drop]; omega
  simp -implicitDefEqProofs [D_ring_from, S_ring_from, mVar, mPart, e1, e2, tyB, lstOf]
  rw [tupleV_lst rfl, mkT_val (by simp [sizeLine]; omega)]
  simp -implicitDefEqProofs
  exact hr _ _ rfl
theorem call_ring {φ : Fn} {p : Nat} {l : List Tx} {n : Tx} {st : Sto} {w : Va} (e : st[p]? = some (some (.lst (l.map .str)))) (h : φ [.lst (l.map .str), .str n] = .ok w []) : ∃ st', callP false φ [.ref p, .str n] st = .ok w st' := by
  unfold callP
  rw [if_neg (by simp)]
  have : mapS (freezeN 20) [.ref p, .str n] st = some ([.lst (l.map .str), .str n], st.set p none) := by
    unfold mapS
    rw [freeze_lst e (frees_map fun _ => rfl)]
    rfl
  rw [this]
  simp only [h]
  exact ⟨_, rfl⟩
end TG

set_option Elab.async false
set_option linter.all false
set_option maxRecDepth 100000
set_option maxHeartbeats 8000000
namespace TG
open PySem PySem.Spec PyProof.Rows L2 G C D
/-- the store of the walk: what is left of each piece of the path lies at its own place -/
structure CS (d : List Ln) (Q : List (Nat × List Nat)) (o p : List Tx) (l : List (List Ln)) (st : Sto) : Prop where
  od : st[0]? = some (some (.lst (o.map .str)))
  pa : st[1]? = some (some (.lst (p.map .str).reverse))
  le : st[3]? = some (some (.lst (Q.map fun x => .ref x.1).reverse))
  pl : p.length = Q.length
  ls : ∀ x ∈ Q, (x.1 = 2 ∨ 4 ≤ x.1) ∧ st[x.1]? = some (some (.lst (x.2.map vN)))
  nd : (Q.map (·.1)).Nodup
  ct : Q.map (fun x => x.2.map fun i => d[i]?) = l.map fun s => s.map some
/-- a line is taken from what is left of the path's end -/
structure Top (d : List Ln) (Q : List (Nat × List Nat)) (y : Nat) (i : Nat) (idx : List Nat) (o p : List Tx) (l : List (List Ln)) (s : List Ln) (st : Sto) : Prop where
  e1 : ixV (.ref 3) (.int (-1)) st = .ok (.ref y) st
  e2 : truV (.ref y) st = some true
  t1 : tyB "list" (.ref y) st = true
  e3 : popV (.ref y) [.int 0] st = .ok (.int (i : Nat)) (st.set y (some (.lst (idx.map vN))))
  cs : CS d ((y, idx) :: Q) o p (s :: l) (st.set y (some (.lst (idx.map vN))))
theorem CS.top {d : List Ln} {Q : List (Nat × List Nat)} {o p : List Tx} {q : Tx} {x : Ln} {s : List Ln} {l : List (List Ln)} {st : Sto} (cs : CS d Q o (q :: p) ((x :: s) :: l) st) : truV (.ref 1) st = some true ∧ ∃ (y i : Nat) (idx : List Nat) (Q' : List (Nat × List Nat)), d[i]? = some x ∧ Top d Q' y i idx o (q :: p) l s st := by
  refine ⟨by rw [truV_ref cs.pa]; simp, ?_⟩
  obtain ⟨⟨y, il⟩, Q, rfl⟩ : ∃ x Q', Q = x :: Q' := by
    cases Q with
    | nil => have := cs.pl; simp at this
    | cons x Q => exact ⟨x, Q, rfl⟩
  have hct := cs.ct
  simp only [List.map_cons, List.cons.injEq] at hct
  obtain ⟨hc1, hc2⟩ := hct
  obtain ⟨i, idx, rfl⟩ : ∃ i idx, il = i :: idx := by
    cases il with
    | nil => simp at hc1
    | cons i idx => exact ⟨i, idx, rfl⟩
  simp only [List.map_cons, List.cons.injEq] at hc1
  obtain ⟨hx1, hx2⟩ := cs.ls (y, i :: idx) List.mem_cons_self
  have hle := cs.le
  rw [List.map_cons, List.reverse_cons] at hle
  have hy : y < st.length := (List.getElem?_eq_some_iff.mp hx2).1
  have nd := List.nodup_cons.mp cs.nd
  refine ⟨y, i, idx, Q, hc1.1, ix_end hle, by rw [truV_ref hx2]; rfl, by simp only [tyB, lstOf]; rw [hx2]; rfl, pop_0 (xs := idx.map vN) hx2, ⟨?_, ?_, ?_, cs.pl, fun z hz => ?_, cs.nd, by simp only [List.map_cons]; rw [hc1.2, hc2]⟩⟩
  · rw [List.getElem?_set_ne (by simp only at hx1; omega)]; exact cs.od
  · rw [List.getElem?_set_ne (by simp only at hx1; omega)]; exact cs.pa
  · rw [List.getElem?_set_ne (by simp only at hx1; omega)]; exact cs.le
  · rcases List.mem_cons.mp hz with rfl | hz
    · exact ⟨hx1, List.getElem?_set_self hy⟩
    · obtain ⟨g1, g2⟩ := cs.ls z (List.mem_cons_of_mem _ hz)
      refine ⟨g1, ?_⟩
      rw [List.getElem?_set_ne fun e => nd.1 (by show y ∈ _; rw [e]; exact List.mem_map_of_mem (f := (·.1)) hz)]
      exact g2
theorem in_strs {neg : Bool} {n : Tx} {p : Nat} {l : List Tx} {st : Sto} (h : st[p]? = some (some (.lst (l.map .str)))) : inV' neg (.str n) (.ref p) st = .ok (.bl (if neg then !decide (n ∈ l) else decide (n ∈ l))) st := by
  rw [inV_ref h (by simp) (dats_str _ _), any_str]
def Outc (r : Rs) (v : G.R Va) : Prop := match r with
  | .ok o => v = .ok (.lst (o.map .str)) fresh
  | .miss => ∃ x : Exc, x.cls = missT ∧ (x.fs.all fun p => free p.2) = true ∧ v = .err x []
  | .ring => ∃ x : Exc, x.cls = ringT ∧ (x.fs.all fun p => free p.2) = true ∧ v = .err x []
theorem closure_run {L : Lm} {hs : Tx → Prop} {own : Tx → List Ln} {d : List Ln} {root : Tx} {k : Nat} {r : Rs} (con : Con hs own d) (hd : d.length ≤ 1000) (hroot : hs root) (hk : k < 90000)
    (hn : ∀ (j : Nat) (i : Int) (n : Tx), d[j]? = some (.us i n) → n.length ≤ 1000) (cl : Cl hs own k [root] [root] [own root] r) (o2 : L.xs.ow "Missing" = some owMiss) (o3 : L.xs.ow "Ring" = some owRing)
    (htab : L.fn "table_of" [.tup (d.map vLn)] = .ok (tabV d) fresh) (hring : ∀ (p : List Tx) (n : Tx), p.length ≤ 100000 → n ∈ p → ∃ ts : List Tx, L.fn "ring_from" [.lst (p.map .str), .str n] = .ok (.tup (ts.map .str)) []) :
    Outc r (runD L D_closure [.tup (d.map vLn), .str root]) := by
  refine runD_pred (Outc r) [some (.tup (d.map vLn)), some (.str root), none, none, none, none, none, none] rfl rfl fun Qp hr he => ?_
  have c1 : ∀ st, callP false (L.fn "table_of") [.tup (d.map vLn)] st = .ok (tabV d) st := fun st => callP_free (by simp [frees_map free_vLn]) htab
  have hin := (con.hs root).mp hroot
  have it : ∀ n st, inV' true (.str n) (tabV d) st = .ok (.bl (!decide (n ∈ namesOf (secs d)))) st := fun n st => in_tab true d n st
  have ixT : ∀ n, n ∈ namesOf (secs d) → ∀ st, ixV (tabV d) (.str n) st = .ok (.lst ((lnsOf (secs d) n).map vN)) st := fun n h st => ix_tab h st
  have hlb : ∀ n, (lnsOf (secs d) n).length ≤ sizeLine := fun n => by
    have := lns_bd (d := d) n (secs d).length hd
    rw [List.take_length] at this
    unfold sizeLine
    omega
  have k1 : ∀ (x : Va) (st : Sto), mkL true [x] st = .ok (.ref st.length) (st ++ [some (.lst [x])]) := fun x st => rfl
  have k2 : ∀ (n : Tx) (st : Sto), listV true [.lst ((lnsOf (secs d) n).map vN)] st = .ok (.ref st.length) (st ++ [some (.lst ((lnsOf (secs d) n).map vN))]) := fun n st => by
    rw [listV_seq (l := (lnsOf (secs d) n).map vN) rfl]
    unfold mkL
    rw [if_pos (by rw [List.length_map]; exact hlb n)]
    rfl
  simp -implicitDefEqProofs [D_closure, S_closure, mVar, c1, it, hin, ixT root hin, k1, k2]
  refine wp_whileN (fun k env st => ∃ o p l Q x6 x7, env = [some (.tup (d.map vLn)), some (.str root), some (tabV d), some (.ref 0), some (.ref 1), some (.ref 3), x6, x7] ∧ CS d Q o p l st ∧ Cl hs own k o p l r ∧ o.length + k ≤ 90001 ∧ p.length ≤ o.length) ?_ k (by unfold fuel; omega) ⟨[root], [root], [own root], [(2, lnsOf (secs d) root)], none, none, rfl, ⟨rfl, rfl, rfl, rfl, fun x hx => ?_, by simp, by simp [con.own root]⟩, cl, by simp; omega, by simp⟩
  · rintro k env st Qb ⟨o, p, l, Q, x6, x7, rfl, cs, cl, hsz, hpo⟩ hnx hct _ her
    cases cl with
    | done =>
      have hQ : Q = [] := List.length_eq_zero_iff.mp (by rw [← cs.pl]; rfl)
      have ht : truV (.ref 1) st = some false := by rw [truV_ref cs.pa]; rfl
      refine ⟨false, st, by simp -implicitDefEqProofs [mVar, ht], ?_⟩
      rw [if_neg Bool.false_ne_true]
      simp -implicitDefEqProofs [mVar]
      exact hr _ _ (ret_lst cs.od (frees_map fun _ => rfl))
    | @pop k o p n l _ c =>
      obtain ⟨x, Q, rfl⟩ : ∃ x Q', Q = x :: Q' := by
        cases Q with
        | nil => have := cs.pl; simp at this
        | cons x Q => exact ⟨x, Q, rfl⟩
      have ht : truV (.ref 1) st = some true := by rw [truV_ref cs.pa]; simp
      have hle := cs.le
      rw [List.map_cons, List.reverse_cons] at hle
      have e1 : ixV (.ref 3) (.int (-1)) st = .ok (.ref x.1) st := ix_end hle
      obtain ⟨hx1, hx2⟩ := cs.ls x List.mem_cons_self
      have hct' := cs.ct
      simp only [List.map_cons, List.map_nil, List.cons.injEq] at hct'
      have hx0 : x.2 = [] := List.map_eq_nil_iff.mp hct'.1
      have e2 : truV (.ref x.1) st = some false := by rw [truV_ref hx2, hx0]; rfl
      have hpa := cs.pa
      rw [List.map_cons, List.reverse_cons] at hpa
      have e3 : popV (.ref 1) [] st = .ok (.str n) (st.set 1 (some (.lst (p.map .str).reverse))) := pop_end hpa
      have e4 : popV (.ref 3) [] (st.set 1 (some (.lst (p.map .str).reverse))) = .ok (.ref x.1) ((st.set 1 (some (.lst (p.map .str).reverse))).set 3 (some (.lst (Q.map fun x => .ref x.1).reverse))) := pop_end (by rw [List.getElem?_set_ne (by decide)]; exact hle)
      have t1 : tyB "list" (.ref 1) st = true := by simp [tyB, lstOf, hpa]
      have t2 : tyB "list" (.ref 3) (st.set 1 (some (.lst (p.map .str).reverse))) = true := by
        simp [tyB, lstOf, List.getElem?_set_ne (show 1 ≠ 3 by decide), hle]
      refine ⟨true, st, by simp -implicitDefEqProofs [mVar, ht], ?_⟩
      rw [if_pos rfl]
      simp -implicitDefEqProofs [mVar, e1, e2, t1, e3, t2, e4]
      have nd := List.nodup_cons.mp cs.nd
      have h2l : 1 < st.length := (List.getElem?_eq_some_iff.mp cs.pa).1
      have h3l : 3 < st.length := (List.getElem?_eq_some_iff.mp cs.le).1
      refine hct _ _ k (by omega) ⟨o, p, l, Q, _, _, rfl, ⟨?_, ?_, ?_, by have := cs.pl; simpa using this, fun y hy => ?_, nd.2, hct'.2⟩, c, by omega, by simp only [List.length_cons] at hpo; omega⟩
      · rw [List.getElem?_set_ne (by decide), List.getElem?_set_ne (by decide)]
        exact cs.od
      · rw [List.getElem?_set_ne (by decide), List.getElem?_set_self h2l]
      · rw [List.getElem?_set_self (by simpa using h3l)]
      · obtain ⟨g1, g2⟩ := cs.ls y (List.mem_cons_of_mem _ hy)
        refine ⟨g1, ?_⟩
        rw [List.getElem?_set_ne (by omega), List.getElem?_set_ne (by omega)]
        exact g2
    | @code k o p q x s l _ hx c =>
      obtain ⟨F1, y, i, idx, Q', hi, F⟩ := cs.top
      have ixd : ∀ st, ixV (.tup (d.map vLn)) (.int (i : Nat)) st = .ok (vLn x) st := fun st => ixV_int rfl (by rw [List.getElem?_map, hi]; rfl)
      have hnu : ∀ st, (ixV (vLn x) (.int 0) st).bind (fun w st => G.eqV true w (.str [117, 115, 101]) st) = .ok (.bl true) st := fun st => by
        cases x with
        | us j m => cases hx
        | pr t => simp -implicitDefEqProofs [vLn, proseT]
        | hd t => simp -implicitDefEqProofs [vLn, headT]
        | co t => simp -implicitDefEqProofs [vLn, codeT]
      refine ⟨true, st, by simp -implicitDefEqProofs [mVar, F1], ?_⟩
      rw [if_pos rfl]
      simp -implicitDefEqProofs [mVar, F.e1, F.e2, F.e3, F.t1, ixd]
      rw [hnu]
      simp -implicitDefEqProofs
      exact hct _ _ k (by omega) ⟨o, q :: p, s :: l, (y, idx) :: Q', _, _, rfl, F.cs, c, by omega, hpo⟩
    | @miss k o p q n j s l h1 =>
      obtain ⟨F1, y, i, idx, Q', hi, F⟩ := cs.top
      have ixd : ∀ st, ixV (.tup (d.map vLn)) (.int (i : Nat)) st = .ok (.tup [.str D.useT, .int j, .str n]) st := fun st => ixV_int rfl (by rw [List.getElem?_map, hi]; rfl)
      have hil := (List.getElem?_eq_some_iff.mp hi).1
      have hnn := hn i j n hi
      have hno : n ∉ namesOf (secs d) := fun z => h1 ((con.hs n).mpr z)
      refine ⟨true, st, by simp -implicitDefEqProofs [mVar, F1], ?_⟩
      rw [if_pos rfl]
      simp -implicitDefEqProofs [mVar, F.e1, F.e2, F.e3, F.t1, ixd, D.useT, it, hno, o2, raisMiss (i := i) (n := n) (by omega) hnn]
      exact her _ _ _ (he _ _ _ rfl ⟨_, rfl, rfl, rfl⟩)
    | @ring k o p q n j s l h1 h2 =>
      obtain ⟨F1, y, i, idx, Q', hi, F⟩ := cs.top
      have ixd : ∀ st, ixV (.tup (d.map vLn)) (.int (i : Nat)) st = .ok (.tup [.str D.useT, .int j, .str n]) st := fun st => ixV_int rfl (by rw [List.getElem?_map, hi]; rfl)
      have hno : n ∈ namesOf (secs d) := (con.hs n).mp h1
      have hpa : (st.set y (some (.lst (idx.map vN))))[1]? = some (some (.lst ((q :: p).reverse.map .str))) := by rw [List.map_reverse]; exact F.cs.pa
      have i1 : inV' false (.str n) (.ref 1) (st.set y (some (.lst (idx.map vN)))) = .ok (.bl true) (st.set y (some (.lst (idx.map vN)))) := by
        rw [in_strs hpa]
        simp only [Bool.false_eq_true, if_false, List.mem_reverse]
        rw [decide_eq_true h2]
      obtain ⟨ts, hts⟩ := hring (q :: p).reverse n (by simp only [List.length_reverse]; omega) (List.mem_reverse.mpr h2)
      obtain ⟨st', hcr⟩ := call_ring hpa hts
      refine ⟨true, st, by simp -implicitDefEqProofs [mVar, F1], ?_⟩
      rw [if_pos rfl]
      simp -implicitDefEqProofs [mVar, F.e1, F.e2, F.e3, F.t1, ixd, D.useT, it, hno, i1, o3, hcr, raisRing]
      exact her _ _ _ (he _ _ _ (by simp [xRing, frees_map (f := Va.str) fun _ => rfl]) ⟨_, rfl, by simp [xRing, frees_map (f := Va.str) fun _ => rfl], rfl⟩)
    | @old k o p q n j s l _ h1 h2 h3 c =>
      obtain ⟨F1, y, i, idx, Q', hi, F⟩ := cs.top
      have ixd : ∀ st, ixV (.tup (d.map vLn)) (.int (i : Nat)) st = .ok (.tup [.str D.useT, .int j, .str n]) st := fun st => ixV_int rfl (by rw [List.getElem?_map, hi]; rfl)
      have hno : n ∈ namesOf (secs d) := (con.hs n).mp h1
      have hpa : (st.set y (some (.lst (idx.map vN))))[1]? = some (some (.lst ((q :: p).reverse.map .str))) := by rw [List.map_reverse]; exact F.cs.pa
      have i1 : inV' false (.str n) (.ref 1) (st.set y (some (.lst (idx.map vN)))) = .ok (.bl false) (st.set y (some (.lst (idx.map vN)))) := by
        rw [in_strs hpa]
        simp only [Bool.false_eq_true, if_false, List.mem_reverse]
        rw [decide_eq_false h2]
      have i2 : inV' true (.str n) (.ref 0) (st.set y (some (.lst (idx.map vN)))) = .ok (.bl false) (st.set y (some (.lst (idx.map vN)))) := by
        rw [in_strs F.cs.od]
        simp [h3]
      refine ⟨true, st, by simp -implicitDefEqProofs [mVar, F1], ?_⟩
      rw [if_pos rfl]
      simp -implicitDefEqProofs [mVar, F.e1, F.e2, F.e3, F.t1, ixd, D.useT, it, hno, i1, i2]
      exact hnx _ _ k (by omega) ⟨o, q :: p, s :: l, (y, idx) :: Q', _, _, rfl, F.cs, c, by omega, hpo⟩
    | @new k o p q n j s l _ h1 h2 h3 c =>
      obtain ⟨F1, y, i, idx, Q', hi, F⟩ := cs.top
      have ixd : ∀ st, ixV (.tup (d.map vLn)) (.int (i : Nat)) st = .ok (.tup [.str D.useT, .int j, .str n]) st := fun st => ixV_int rfl (by rw [List.getElem?_map, hi]; rfl)
      have hno : n ∈ namesOf (secs d) := (con.hs n).mp h1
      obtain ⟨S, hS⟩ : ∃ S, S = st.set y (some (.lst (idx.map vN))) := ⟨_, rfl⟩
      have fc := F.cs
      have fe3 := F.e3
      rw [← hS] at fc fe3
      have hpa : S[1]? = some (some (.lst ((q :: p).reverse.map .str))) := by rw [List.map_reverse]; exact fc.pa
      have i1 : inV' false (.str n) (.ref 1) S = .ok (.bl false) S := by
        rw [in_strs hpa]
        simp only [Bool.false_eq_true, if_false, List.mem_reverse]
        rw [decide_eq_false h2]
      have i2 : inV' true (.str n) (.ref 0) S = .ok (.bl true) S := by
        rw [in_strs fc.od]
        simp [h3]
      have h3l : 3 < S.length := (List.getElem?_eq_some_iff.mp fc.le).1
      obtain ⟨S1, hS1⟩ : ∃ S1, S1 = S.set 0 (some (.lst ((o ++ [n]).map .str))) := ⟨_, rfl⟩
      have a1 : appendV (.ref 0) [.str n] S = .ok .non S1 := by
        rw [append_ok fc.od (by simp [sizeLine]; omega), hS1, snoc_map]
      have s11 : S1[1]? = some (some (.lst ((q :: p).map .str).reverse)) := by rw [hS1, List.getElem?_set_ne (by decide)]; exact fc.pa
      obtain ⟨S2, hS2⟩ : ∃ S2, S2 = S1.set 1 (some (.lst ((n :: q :: p).map .str).reverse)) := ⟨_, rfl⟩
      have a2 : appendV (.ref 1) [.str n] S1 = .ok .non S2 := by
        rw [append_ok s11 (by simp [sizeLine]; simp at hpo; omega), hS2]
        simp
      have l2 : S2.length = S.length := by rw [hS2, hS1]; simp
      obtain ⟨S3, hS3⟩ : ∃ S3, S3 = S2 ++ [some (.lst ((lnsOf (secs d) n).map vN))] := ⟨_, rfl⟩
      have a3 : listV true [.lst ((lnsOf (secs d) n).map vN)] S2 = .ok (.ref S.length) S3 := by rw [k2, l2, hS3]
      have s33 : S3[3]? = some (some (.lst (((y, idx) :: Q').map fun x => .ref x.1).reverse)) := by
        rw [hS3, List.getElem?_append_left (by omega), hS2, hS1, List.getElem?_set_ne (by decide), List.getElem?_set_ne (by decide)]
        exact fc.le
      obtain ⟨S4, hS4⟩ : ∃ S4, S4 = S3.set 3 (some (.lst (((S.length, lnsOf (secs d) n) :: (y, idx) :: Q').map fun x => .ref x.1).reverse)) := ⟨_, rfl⟩
      have hpl : Q'.length ≤ 90001 := by
        have := fc.pl
        simp only [List.length_cons] at this hpo
        omega
      have a4 : appendV (.ref 3) [.ref S.length] S3 = .ok .non S4 := by
        rw [append_ok s33 (by simp [sizeLine]; omega), hS4]
        simp
      have t0 : tyB "list" (.ref 0) S = true := by simp [tyB, lstOf, fc.od]
      have t1 : tyB "list" (.ref 1) S1 = true := by simp only [tyB, lstOf, s11]; rfl
      have t3 : tyB "list" (.ref 3) S2 = true := by
        have : S2[3]? = some (some (.lst (((y, idx) :: Q').map fun x => .ref x.1).reverse)) := by
          rw [hS2, hS1, List.getElem?_set_ne (by decide), List.getElem?_set_ne (by decide)]
          exact fc.le
        simp only [tyB, lstOf, this]
        rfl
      refine ⟨true, st, by simp -implicitDefEqProofs [mVar, F1], ?_⟩
      rw [if_pos rfl]
      simp -implicitDefEqProofs [mVar, F.e1, F.e2, fe3, F.t1, ixd, D.useT, it, hno, i1, i2, t0, a1, t1, a2, t3, ixT n hno, a3, a4]
      have old : ∀ {z : Nat} {w : Option Ob}, z ≠ 0 → z ≠ 1 → z ≠ 3 → S[z]? = some w → S4[z]? = some w := fun {z w} n0 n1 n3 e => by
        have hz := (List.getElem?_eq_some_iff.mp e).1
        rw [hS4, List.getElem?_set_ne (Ne.symm n3), hS3, List.getElem?_append_left (by omega), hS2, hS1, List.getElem?_set_ne (Ne.symm n1), List.getElem?_set_ne (Ne.symm n0)]
        exact e
      refine hnx _ _ k (by omega) ⟨o ++ [n], n :: q :: p, own n :: s :: l, (S.length, lnsOf (secs d) n) :: (y, idx) :: Q', _, _, rfl, ⟨?_, ?_, ?_, ?_, fun z hz => ?_, ?_, ?_⟩, c, by simp; omega, by simp at hpo ⊢; omega⟩
      · rw [hS4, List.getElem?_set_ne (by decide), hS3, List.getElem?_append_left (by omega), hS2, hS1, List.getElem?_set_ne (by decide), List.getElem?_set_self (by omega)]
      · rw [hS4, List.getElem?_set_ne (by decide), hS3, List.getElem?_append_left (by omega), hS2, List.getElem?_set_self (by rw [hS1]; simp; omega)]
      · rw [hS4, List.getElem?_set_self (by rw [hS3]; simp; omega)]
      · have := fc.pl
        simp only [List.length_cons] at this ⊢
        omega
      · rcases List.mem_cons.mp hz with rfl | hz
        · refine ⟨.inr h3l, ?_⟩
          rw [hS4, List.getElem?_set_ne (by simp only; omega), hS3, ← l2, List.getElem?_append_right (Nat.le_refl _)]
          simp
        · obtain ⟨g1, g2⟩ := fc.ls z hz
          exact ⟨g1, old (by omega) (by omega) (by omega) g2⟩
      · refine List.nodup_cons.mpr ⟨fun hz => ?_, fc.nd⟩
        obtain ⟨z, hz, ez⟩ := List.mem_map.mp hz
        have := (List.getElem?_eq_some_iff.mp (fc.ls z hz).2).1
        simp only at ez
        omega
      · have := fc.ct
        simp only [List.map_cons] at this ⊢
        rw [con.own n, this]
  · rw [List.mem_singleton.mp hx]
    exact ⟨.inl rfl, rfl⟩
theorem closure_no {L : Lm} {d : List Ln} {root : Tx} (hno : root ∉ namesOf (secs d)) (hr : root.length ≤ 1000) (o1 : L.xs.ow "NoPiece" = some owNo) (htab : L.fn "table_of" [.tup (d.map vLn)] = .ok (tabV d) fresh) : runD L D_closure [.tup (d.map vLn), .str root] = .err (xNo root) [] := by
  refine runD_any _ [some (.tup (d.map vLn)), some (.str root), none, none, none, none, none, none] rfl rfl fun Q _ he => ?_
  have c1 : ∀ st, callP false (L.fn "table_of") [.tup (d.map vLn)] st = .ok (tabV d) st := fun st => callP_free (by simp [frees_map free_vLn]) htab
  have it : ∀ n st, inV' true (.str n) (tabV d) st = .ok (.bl (!decide (n ∈ namesOf (secs d)))) st := fun n st => in_tab true d n st
  simp -implicitDefEqProofs [D_closure, S_closure, mVar, c1, it, hno, o1, raisNo hr]
  exact he _ _ _ rfl rfl
end TG

set_option Elab.async false
set_option linter.all false
set_option maxRecDepth 100000
set_option maxHeartbeats 8000000
namespace TG
open PySem PySem.Spec PyProof.Rows L2 G C D
def ksK (K : Kn) : List Ky := K.map fun x => .inr x.1
def wsK (K : Kn) : List Va := K.map fun x => .int (x.2 : Nat)
def vK (K : Kn) : Va := .dic (ksK K) (wsK K)
theorem at_K (K : Kn) (n : Tx) : atKy (ksK K) (wsK K) (.inr n) = (K.lookup n).map fun v => .int (v : Nat) := at_map (fun v : Nat => .int (v : Nat)) K
theorem free_vK (K : Kn) : free (vK K) = true := by
  show frees _ = true
  exact frees_map fun _ => rfl
theorem in_K {neg : Bool} {K : Kn} {n : Tx} {x : Va} {st : Sto} (h : dicOf x st = some (ksK K, wsK K)) (hs : strOf x = none) : inV' neg (.str n) x st = .ok (.bl (if neg then !decide (n ∈ keysK K) else decide (n ∈ keysK K))) st := by
  unfold inV'
  simp only [hs, h, kyOf]
  rw [at_K]
  cases e : K.lookup n with
  | some v =>
    have : n ∈ keysK K := look_mem.mpr ⟨v, e⟩
    simp [this]
  | none =>
    have : n ∉ keysK K := fun z => by
      obtain ⟨v, q⟩ := look_mem.mp z
      rw [e] at q; cases q
    simp [this]
theorem ix_K {K : Kn} {n : Tx} {v : Nat} {x : Va} {st : Sto} (h : dicOf x st = some (ksK K, wsK K)) (e : K.lookup n = some v) : ixV x (.str n) st = .ok (.int (v : Nat)) st := by
  unfold ixV
  simp only [h, kyOf]
  rw [at_K, e]
  rfl
/-- the references among the lines of a piece -/
theorem uses_of {hs : Tx → Prop} {own : Tx → List Ln} {d : List Ln} (con : Con hs own d) (n : Tx) : ((lnsOf (secs d) n).filter (isU d)).map (nmU d) = uses (own n) := by
  have h := con.own n
  generalize lnsOf (secs d) n = l at h
  generalize own n = o at h
  induction l generalizing o with
  | nil =>
    cases o with
    | nil => rfl
    | cons a o => simp at h
  | cons i l ih =>
    cases o with
    | nil => simp at h
    | cons a o =>
      simp only [List.map_cons, List.cons.injEq] at h
      obtain ⟨h1, h2⟩ := h
      have ih := ih o h2
      rw [List.filter_cons]
      cases a with
      | us j m =>
        rw [if_pos (by unfold isU; rw [h1]), List.map_cons, ih, uses_some (n := m) rfl]
        congr 1
        unfold nmU
        rw [h1]
      | pr t => rw [if_neg (by unfold isU; rw [h1]; simp), ih, uses_none rfl]
      | hd t => rw [if_neg (by unfold isU; rw [h1]; simp), ih, uses_none rfl]
      | co t => rw [if_neg (by unfold isU; rw [h1]; simp), ih, uses_none rfl]
theorem own_len {hs : Tx → Prop} {own : Tx → List Ln} {d : List Ln} (con : Con hs own d) (n : Tx) : (lnsOf (secs d) n).length = (own n).length := by
  have := congrArg List.length (con.own n)
  simpa using this
theorem sum_ints : ∀ l : List Nat, (l.map fun v : Nat => ((v : Nat) : Int)).sum = ((l.sum : Nat) : Int)
  | [] => rfl
  | x :: l => by
    rw [List.map_cons, List.sum_cons, sum_ints l, List.sum_cons]
    omega
theorem ints_map : ∀ l : List Nat, vaInts (l.map fun v : Nat => Va.int ((v : Nat) : Int)) = some (l.map fun v : Nat => ((v : Nat) : Int))
  | [] => rfl
  | x :: l => by
    have h := ints_map l
    rw [List.map_cons]
    unfold vaInts
    rw [h]
    rfl
theorem lengths_run {L : Lm} {hs : Tx → Prop} {own : Tx → List Ln} {d : List Ln} {o f : List Tx} {k : Nat} {K' : Kn} (con : Con hs own d) (hd : d.length ≤ 1000) (hk : k < 90000) (hf : ∀ n ∈ f, hs n ∧ ∀ u ∈ uses (own n), u ∈ f) (ho : ∀ n ∈ o, n ∈ f) (hol : o.length ≤ 90000)
    (ls : Ls own k o.reverse [] K') (htab : L.fn "table_of" [.tup (d.map vLn)] = .ok (tabV d) fresh) : runD L D_lengths_of [.tup (d.map vLn), .lst (o.map .str)] = .ok (vK K') fresh := by
  have c1 : ∀ st, callP false (L.fn "table_of") [.tup (d.map vLn)] st = .ok (tabV d) st := fun st => callP_free (by simp [frees_map free_vLn]) htab
  have ixT : ∀ n ∈ f, ∀ st, ixV (tabV d) (.str n) st = .ok (.lst ((lnsOf (secs d) n).map vN)) st := fun n h st => ix_tab ((con.hs n).mp (hf n h).1) st
  have hlb : ∀ n, (lnsOf (secs d) n).length ≤ 1000000 := fun n => by
    have := lns_bd (d := d) n (secs d).length hd
    rw [List.take_length] at this
    exact this
  have hub : ∀ n, (uses (own n)).length ≤ 1000000 := fun n => by
    have := uses_len (own n)
    have h2 := own_len con n
    have := hlb n
    omega
  refine runD_of (fun v s => v = .ref 0 ∧ ∃ x, s = [some (.dic (ksK K') (wsK K')), x]) [some (.tup (d.map vLn)), some (.lst (o.map .str)), none, none, none, none, none, none, none, none] rfl rfl (fun v s ⟨h1, x, h2⟩ => ?_) fun Q hr => ?_
  · subst h1 h2
    exact ret_dic rfl (frees_map fun _ => rfl)
  have l1 : ∀ st, listV true [.lst (o.map .str)] st = .ok (.ref st.length) (st ++ [some (.lst (o.map .str))]) := fun st => by
    rw [listV_seq (l := o.map .str) rfl]
    unfold mkL
    rw [if_pos (by simp [sizeLine]; omega)]
    rfl
  simp -implicitDefEqProofs [D_lengths_of, S_lengths_of, mVar, c1, l1]
  refine wp_whileN (fun k env st => ∃ (W : List Tx) (K : Kn) (x5 x6 x7 : Option Va), env = [some (.tup (d.map vLn)), some (.lst (o.map .str)), some (tabV d), some (.ref 0), some (.ref 1), x5, x6, x7, none, none] ∧ st = [some (.dic (ksK K) (wsK K)), some (.lst (W.map .str).reverse)] ∧ Ls own k W K K' ∧ (∀ n ∈ W, n ∈ f) ∧ W.length + k ≤ 180000 ∧ K.length + k ≤ 90000)
    ?_ k (by unfold fuel; omega) ⟨o.reverse, [], none, none, none, rfl, by simp [ksK, wsK], ls, fun n h => ho n (List.mem_reverse.mp h), by simp; omega, by simp; omega⟩
  rintro k env st Qb ⟨W, K, x5, x6, x7, rfl, rfl, ls, hW, hb1, hb2⟩ hnx _ _ _
  have dK : ∀ y, dicOf (.ref 0) [some (.dic (ksK K) (wsK K)), y] = some (ksK K, wsK K) := fun y => rfl
  cases W with
  | nil =>
    cases ls
    have ht : truV (.ref 1) [some (.dic (ksK K') (wsK K')), some (.lst [])] = some false := by rw [truV_ref rfl]; rfl
    refine ⟨false, [some (.dic (ksK K') (wsK K')), some (.lst [])], by simp -implicitDefEqProofs [mVar, ht], ?_⟩
    rw [if_neg Bool.false_ne_true]
    simp -implicitDefEqProofs [mVar]
    exact hr _ _ ⟨rfl, _, rfl⟩
  | cons n W =>
    have hnf := hW n List.mem_cons_self
    have hW' := fun x hx => hW x (List.mem_cons_of_mem _ hx)
    have ht : truV (.ref 1) [some (.dic (ksK K) (wsK K)), some (.lst ((n :: W).map Va.str).reverse)] = some true := by rw [truV_ref rfl]; simp
    obtain ⟨S, hS⟩ : ∃ S : Sto, S = [some (.dic (ksK K) (wsK K)), some (.lst ((n :: W).map Va.str).reverse)] := ⟨_, rfl⟩
    rw [← hS] at ht ⊢
    have s1 : S[1]? = some (some (.lst ((W.map Va.str).reverse ++ [.str n]))) := by rw [hS]; simp
    have e1 : ixV (.ref 1) (.int (-1)) S = .ok (.str n) S := ix_end s1
    have e2 := ixT n hnf
    have inK : ∀ m, inV' false (.str m) (.ref 0) S = .ok (.bl (decide (m ∈ keysK K))) S := fun m => by rw [hS]; exact in_K (dK _) rfl
    have inK2 : ∀ m, inV' true (.str m) (.ref 0) S = .ok (.bl (!decide (m ∈ keysK K))) S := fun m => by rw [hS]; exact in_K (dK _) rfl
    have e3 : popV (.ref 1) [] S = .ok (.str n) [some (.dic (ksK K) (wsK K)), some (.lst (W.map Va.str).reverse)] := by
      rw [pop_end s1, hS]
      rfl
    have t1 : tyB "list" (.ref 1) S = true := by simp only [tyB, lstOf, s1]; rfl
    refine ⟨true, S, by simp -implicitDefEqProofs [mVar, ht], ?_⟩
    rw [if_pos rfl]
    simp -implicitDefEqProofs [mVar, e1]
    rw [mLc_filter (gd := none) (env1 := [some (.tup (d.map vLn)), some (.lst (o.map .str)), some (tabV d), some (.ref 0), some (.ref 1), some (.str n), x6, x7, none, none]) (lnsOf (secs d) n) vN (isU d) (fun i => .str (nmU d i)) (by simp -implicitDefEqProofs [mVar, e2]) rfl rfl (fun i hi => ?_)]
    · have eu : ((lnsOf (secs d) n).filter (isU d)).map (fun i => Va.str (nmU d i)) = (uses (own n)).map .str := by
        rw [← uses_of con n, List.map_map]
        rfl
      have hu := hub n
      rw [eu, mkL_val (by simp [sizeLine]; omega)]
      simp -implicitDefEqProofs [mVar]
      rw [mLc_filter (gd := none) (env1 := [some (.tup (d.map vLn)), some (.lst (o.map .str)), some (tabV d), some (.ref 0), some (.ref 1), some (.str n), some (.lst ((uses (own n)).map .str)), x7, none, none]) (uses (own n)) .str (fun u => !decide (u ∈ keysK K)) .str (by simp -implicitDefEqProofs [mVar]) rfl rfl (fun u hu => ⟨_, rfl, by simp -implicitDefEqProofs [mVar, inK2], fun _ => by simp -implicitDefEqProofs [mVar]⟩)]
      have hw : (uses (own n)).filter (fun u => !decide (u ∈ keysK K)) = newU own K n := rfl
      have hwl : (newU own K n).length ≤ (uses (own n)).length := List.length_filter_le _ _
      rw [hw, mkL_val (by simp [sizeLine]; omega)]
      simp -implicitDefEqProofs [mVar, inK]
      cases ls with
      | @known k _ _ _ _ h1 c =>
        simp -implicitDefEqProofs [h1, mVar, t1, e3]
        exact hnx _ _ k (by omega) ⟨W, K, _, _, _, rfl, rfl, c, hW', by simp at hb1; omega, by omega⟩
      | @push k _ u us _ _ _ h1 h2 c =>
        have hun : u ∈ uses (own n) := by
          have : u ∈ newU own K n := by rw [h2]; exact List.mem_cons_self
          exact (List.mem_filter.mp this).1
        have e4 : appendV (.ref 1) [.str u] S = .ok .non [some (.dic (ksK K) (wsK K)), some (.lst ((u :: n :: W).map Va.str).reverse)] := by
          rw [append_ok s1 (by simp [sizeLine]; simp at hb1; omega), hS]
          simp
        simp -implicitDefEqProofs [h1, h2, mVar, t1, e4]
        exact hnx _ _ k (by omega) ⟨u :: n :: W, K, _, _, _, rfl, by simp, c, fun x hx => by
          rcases List.mem_cons.mp hx with rfl | hx
          · exact (hf n hnf).2 _ hun
          · exact hW x hx, by simp at hb1 ⊢; omega, by omega⟩
      | @comp k _ _ _ _ h1 h2 c =>
        have hg : ∀ u ∈ uses (own n), ∃ a, K.lookup u = some a := fun u hu => look_mem.mp (new_none own h2 u hu)
        have e5 : ∀ st, lenV [.lst ((lnsOf (secs d) n).map vN)] st = .ok (.int ((own n).length : Nat)) st := fun st => by rw [← own_len con n]; simp
        have e6 : ∀ st, lenV [.lst ((uses (own n)).map .str)] st = .ok (.int ((uses (own n)).length : Nat)) st := fun st => by simp
        have e7 : ∀ st, sumV [.lst ((uses (own n)).map fun u => Va.int ((getK K u : Nat) : Int))] st = .ok (.int ((sumK K (uses (own n)) : Nat) : Int)) st := fun st => by
          have em : ((uses (own n)).map fun u => Va.int ((getK K u : Nat) : Int)) = ((uses (own n)).map (getK K)).map fun v : Nat => Va.int ((v : Nat) : Int) := by rw [List.map_map]; rfl
          unfold sumV
          rw [em]
          simp only [lstOf_lst, ints_map, sum_ints]
          rfl
        have hk1 : (Sum.inr n : Ky) ∉ ksK K := fun z => by
          obtain ⟨x, hx, ex⟩ := List.mem_map.mp z
          exact h1 (List.mem_map.mpr ⟨x, hx, Sum.inr.inj ex⟩)
        have e8 : setV (.ref 0) (.str n) (.int ((valOf own K n : Nat) : Int)) S = some [some (.dic (ksK (K ++ [(n, valOf own K n)])) (wsK (K ++ [(n, valOf own K n)]))), some (.lst ((W.map Va.str).reverse ++ [.str n]))] := by
          rw [hS]
          unfold setV
          simp only [List.getElem?_cons_zero, kyOf]
          rw [if_pos (by unfold ksK; rw [List.length_map]; unfold sizeLine; omega), put_new hk1]
          simp [ksK, wsK]
        have hv : ((own n).length : Int) - ((uses (own n)).length : Int) + ((sumK K (uses (own n)) : Nat) : Int) = ((valOf own K n : Nat) : Int) := by
          have := uses_len (own n)
          unfold valOf
          omega
        have e9 : popV (.ref 1) [] [some (.dic (ksK (K ++ [(n, valOf own K n)])) (wsK (K ++ [(n, valOf own K n)]))), some (.lst ((W.map Va.str).reverse ++ [.str n]))] = .ok (.str n) [some (.dic (ksK (K ++ [(n, valOf own K n)])) (wsK (K ++ [(n, valOf own K n)]))), some (.lst (W.map Va.str).reverse)] := by
          rw [pop_end (xs := (W.map Va.str).reverse) (y := .str n) (by simp)]
          rfl
        have t2 : tyB "list" (.ref 1) [some (.dic (ksK (K ++ [(n, valOf own K n)])) (wsK (K ++ [(n, valOf own K n)]))), some (.lst ((W.map Va.str).reverse ++ [.str n]))] = true := by rfl
        have hlc : mLc false [9] (Sum.inl 9) (mIt (mVar 6)) mTyes (mBin ixV (mVar 3) (mVar 9)) [some (.tup (d.map vLn)), some (.lst (o.map .str)), some (tabV d), some (.ref 0), some (.ref 1), some (.str n), some (.lst ((uses (own n)).map .str)), some (.lst []), none, none] S = .ok (.lst ((uses (own n)).map fun u => Va.int ((getK K u : Nat) : Int))) S := by
          rw [mLc_map (gd := none) (env1 := [some (.tup (d.map vLn)), some (.lst (o.map .str)), some (tabV d), some (.ref 0), some (.ref 1), some (.str n), some (.lst ((uses (own n)).map .str)), some (.lst []), none, none]) (uses (own n)) .str (fun u => Va.int ((getK K u : Nat) : Int)) (by simp -implicitDefEqProofs [mVar]) rfl rfl (fun u hu' => ⟨_, rfl, rfl, by
            obtain ⟨a, ea⟩ := hg u hu'
            have : ixV (.ref 0) (.str u) S = .ok (.int ((a : Nat) : Int)) S := by rw [hS]; exact ix_K (dK _) ea
            simp -implicitDefEqProofs [mVar, this, getK, ea]⟩), mkL_val (by simp [sizeLine]; omega)]
        have e5' := e5 S
        rw [← hv] at e8
        simp -implicitDefEqProofs [h1, h2, mVar, e2, mSetIx, e5, e6, hlc, e7, e8, -lenV_lst]
        simp -implicitDefEqProofs [t2, e9]
        exact hnx _ _ k (by omega) ⟨W, _, _, _, _, rfl, rfl, c, hW', by simp at hb1; omega, by simp; omega⟩
    · refine ⟨_, rfl, ?_, fun hu => ?_⟩
      · obtain ⟨l, e1, e2⟩ := uses_in (lns_mem hi) S
        simp -implicitDefEqProofs [mVar, vN, e2, isU, e1]
        cases l <;> simp -implicitDefEqProofs [vLn, D.useT, proseT, headT, codeT]
      · obtain ⟨l, e1, e2⟩ := uses_in (lns_mem hi) S
        simp -implicitDefEqProofs [mVar, vN, e2, mkT, sizeLine]
        unfold isU at hu
        rw [e1] at hu
        cases l <;> simp at hu
        simp -implicitDefEqProofs [vLn, nmU, e1]
end TG

set_option Elab.async false
set_option linter.all false
set_option maxRecDepth 100000
set_option maxHeartbeats 8000000
namespace TG
open PySem PySem.Spec PyProof.Rows L2 G C D
theorem mul_sp {m : Bool} {k : Nat} {st : Sto} (hk : k ≤ 16000000) : mulV m (.str [32]) (.int (k : Nat)) st = .ok (.str (List.replicate k 32)) st := by
  have h1 : i63 (k : Int) = true := by unfold i63; exact decide_eq_true ⟨by omega, by omega⟩
  have h3 : 1 * k ≤ sizeLine := by unfold sizeLine; omega
  simp [mulV, h1]
  unfold sizeLine
  omega
theorem shown_run {L : Lm} {i : Nat} {t : Tx} (h : i + t.length ≤ 16000000) : runD L D_shown [.int (i : Nat), .str t] = .ok (.str (shownT i t)) [] := by
  refine runD_of (fun v s => v = .str (shownT i t)) [some (.int (i : Nat)), some (.str t)] rfl rfl (fun v s h => by rw [h]; exact ret_free rfl) fun Q hr => ?_
  have s1 : ∀ st, addV false (.str (List.replicate i 32)) (.str t) st = .ok (.str (List.replicate i 32 ++ t)) st := fun st => addV_str (by simp [sizeLine]; omega)
  simp -implicitDefEqProofs [D_shown, S_shown, mVar]
  by_cases h1 : t = []
  · simp -implicitDefEqProofs [h1]
    exact hr _ _ (by simp [shownT, h1])
  · simp -implicitDefEqProofs [h1, mVar, mul_sp (k := i) (by omega), s1]
    exact hr _ _ (by simp [shownT, h1])
/-- a line that waits: where, its indent, the way -/
abbrev Itm := Nat × Nat × List Nat
def vI (x : Itm) : Va := .tup [.int (x.1 : Nat), .int (x.2.1 : Nat), .tup (x.2.2.map vN)]
abbrev Prg := Tx × Nat × List Nat
def vP (x : Prg) : Va := .tup [.str x.1, .int (x.2.1 : Nat), .tup (x.2.2.map vN)]
theorem free_vP (x : Prg) : free (vP x) = true := by
  simp [vP, frees_map (f := vN) fun _ => rfl]
theorem tangle_run {L : Lm} {hs : Tx → Prop} {own : Tx → List Ln} {d : List Ln} {root : Tx} {o f out : List Tx} {k v M J : Nat} {K : Kn} (con : Con hs own d) (hd : d.length ≤ 1000) (hroot : hs root) (hgl : L.gl "MOST_LINES" = some (.int 2000))
    (hv : K.lookup root = some v) (hv2 : v ≤ 2000) (hM : ∀ n, (own n).length ≤ M) (hsz : M * (k + 1) + J * k + k + 2000 ≤ 16000000)
    (hK : ∀ n ∈ keysK K, hs n) (hJ : ∀ (i : Nat) (j : Int) (n : Tx), d[i]? = some (.us j n) → j ≤ J) (htx : ∀ (i : Nat) (t : Tx), d[i]? = some (.co t) → t.length ≤ 1000)
    (tr : Tr own K k ((own root).map fun l => (l, 0)) out)
    (hcl : L.fn "closure" [.tup (d.map vLn), .str root] = .ok (.lst (o.map .str)) fresh) (hle : L.fn "lengths_of" [.tup (d.map vLn), .lst (o.map .str)] = .ok (vK K) fresh) (htab : L.fn "table_of" [.tup (d.map vLn)] = .ok (tabV d) fresh)
    (hsh : ∀ (i : Nat) (t : Tx), i + t.length ≤ 16000000 → L.fn "shown" [.int (i : Nat), .str t] = .ok (.str (shownT i t)) []) :
    ∃ w, (∃ P : List Prg, P.map (·.1) = out ∧ w = .lst (P.map vP)) ∧ runD L D_tangle [.tup (d.map vLn), .str root] = .ok w fresh := by
  have fd : free (.tup (d.map vLn)) = true := by rw [free_tup]; exact frees_map free_vLn
  have c1 : ∀ st, callP false (L.fn "closure") [.tup (d.map vLn), .str root] st = .ok (.lst (o.map .str)) st := fun st => callP_free (by simp only [frees_cons, fd]; rfl) hcl
  have c2 : ∀ st, callP false (L.fn "lengths_of") [.tup (d.map vLn), .lst (o.map .str)] st = .ok (vK K) st := fun st => callP_free (by simp only [frees_cons, fd, free_lst, frees_map (f := Va.str) (fun _ => rfl), frees_nil, Bool.and_true]) hle
  have c3 : ∀ st, callP false (L.fn "table_of") [.tup (d.map vLn)] st = .ok (tabV d) st := fun st => callP_free (by simp only [frees_cons, fd]; rfl) htab
  have c4 : ∀ (i : Nat) (t : Tx), i + t.length ≤ 16000000 → ∀ st, callP false (L.fn "shown") [.int (i : Nat), .str t] st = .ok (.str (shownT i t)) st := fun i t h st => callP_free rfl (hsh i t h)
  have dK : ∀ st, dicOf (vK K) st = some (ksK K, wsK K) := fun st => rfl
  have ixr : ∀ st, ixV (vK K) (.str root) st = .ok (.int (v : Nat)) st := fun st => ix_K (dK st) hv
  have ixT : ∀ n, hs n → ∀ st, ixV (tabV d) (.str n) st = .ok (.lst ((lnsOf (secs d) n).map vN)) st := fun n h st => ix_tab ((con.hs n).mp h) st
  refine runD_ex [some (.tup (d.map vLn)), some (.str root), none, none, none, none, none, none, none, none, none] rfl rfl fun Q hr => ?_
  have hlb : ∀ n, (lnsOf (secs d) n).length ≤ M := fun n => by rw [own_len con n]; exact hM n
  have hM1 : M ≤ M * (k + 1) := Nat.le_mul_of_pos_right _ (by omega)
  have mk1 : ∀ (a : Va) (st : Sto), mkT [a] st = .ok (.tup [a]) st := fun a st => mkT_val (by simp [sizeLine])
  have mk3 : ∀ (a b c : Va) (st : Sto), mkT [a, b, c] st = .ok (.tup [a, b, c]) st := fun a b c st => mkT_val (by simp [sizeLine])
  simp -implicitDefEqProofs [D_tangle, S_tangle, mVar, c1, c2, ixr, hgl, show ((2000 : Int) < (v : Int)) = False from eq_false (by omega), c3, mkL_ref]
  rw [mLc_map (gd := none) (env1 := [some (.tup (d.map vLn)), some (.str root), some (vK K), some (tabV d), some (.ref 0), none, none, none, none, none, none]) (lnsOf (secs d) root).reverse vN (fun i => vI (i, 0, [])) (by simp -implicitDefEqProofs [mVar, ixT root hroot]) rfl rfl (fun i hi => ⟨_, rfl, rfl, by simp -implicitDefEqProofs [mVar, mkT, sizeLine, vI, vN]⟩)]
  have kl : ∀ (l : List Va) (st : Sto), l.length ≤ 16000000 → mkL true l st = .ok (.ref st.length) (st ++ [some (.lst l)]) := fun l st h => by
    unfold mkL
    rw [if_pos (by unfold sizeLine; omega)]
    rfl
  rw [kl _ _ (by have := hlb root; simp; omega)]
  simp -implicitDefEqProofs
  refine wp_whileN (fun k' env st => ∃ (I : List Itm) (P : List Prg) (S : List (Ln × Nat)) (out' : List Tx) (x6 x7 x8 x9 x10 : Option Va), env = [some (.tup (d.map vLn)), some (.str root), some (vK K), some (tabV d), some (.ref 0), some (.ref 1), x6, x7, x8, x9, x10] ∧ st = [some (.lst (P.map vP)), some (.lst (I.map vI).reverse)] ∧
      Tr own K k' S out' ∧ out = P.map (·.1) ++ out' ∧ I.map (fun x => (d[x.1]?, x.2.1)) = S.map (fun y => (some y.1, y.2)) ∧ (∀ x ∈ I, x.2.1 + J * k' ≤ J * k ∧ x.2.2.length + k' ≤ k) ∧ I.length + M * k' ≤ M * (k + 1) ∧ P.length + k' ≤ k)
    ?_ k (by unfold fuel; omega) ⟨(lnsOf (secs d) root).map fun i => (i, 0, []), [], (own root).map fun l => (l, 0), out, none, none, none, none, none, rfl, by simp [List.map_reverse], tr, rfl, ?_, fun x hx => ?_, ?_, by simp⟩
  · rintro k' env st Qb ⟨I, P, S, out', x6, x7, x8, x9, x10, rfl, rfl, tr, hout, hIS, hbd, hil, hpl⟩ hnx _ _ _
    cases I with
    | nil =>
      have hS : S = [] := by
        cases S with
        | nil => rfl
        | cons a S => simp at hIS
      subst hS
      cases tr
      have ht : truV (.ref 1) [some (.lst (P.map vP)), some (.lst [])] = some false := by rw [truV_ref rfl]; rfl
      refine ⟨false, [some (.lst (P.map vP)), some (.lst [])], by simp -implicitDefEqProofs [mVar, ht], ?_⟩
      rw [if_neg Bool.false_ne_true]
      simp -implicitDefEqProofs [mVar]
      exact hr _ _ _ ⟨P, by rw [hout]; simp, rfl⟩ (ret_lst rfl (frees_map free_vP))
    | cons x I =>
      obtain ⟨at_, ind, path⟩ := x
      obtain ⟨y, S, rfl⟩ : ∃ y S', S = y :: S' := by
        cases S with
        | nil => simp at hIS
        | cons a S => exact ⟨a, S, rfl⟩
      obtain ⟨ln, ind'⟩ := y
      simp only [List.map_cons, List.cons.injEq, Prod.mk.injEq] at hIS
      obtain ⟨⟨hat, rfl⟩, hIS⟩ := hIS
      obtain ⟨hb1, hb2⟩ := hbd _ List.mem_cons_self
      have hb1 : ind + J * k' ≤ J * k := hb1
      have hb2 : path.length + k' ≤ k := hb2
      have hbd' := fun z hz => hbd z (List.mem_cons_of_mem _ hz)
      obtain ⟨S0, hS0⟩ : ∃ S0 : Sto, S0 = [some (.lst (P.map vP)), some (.lst (((at_, ind, path) :: I).map vI).reverse)] := ⟨_, rfl⟩
      have ht : truV (.ref 1) S0 = some true := by rw [hS0, truV_ref rfl]; simp
      rw [← hS0]
      have s1 : S0[1]? = some (some (.lst ((I.map vI).reverse ++ [vI (at_, ind, path)]))) := by rw [hS0]; simp
      have e1 : popV (.ref 1) [] S0 = .ok (vI (at_, ind, path)) [some (.lst (P.map vP)), some (.lst (I.map vI).reverse)] := by rw [pop_end s1, hS0]; rfl
      have t1 : tyB "list" (.ref 1) S0 = true := by simp only [tyB, lstOf, s1]; rfl
      have ixd : ∀ st, ixV (.tup (d.map vLn)) (.int (at_ : Nat)) st = .ok (vLn ln) st := fun st => ixV_int rfl (by rw [List.getElem?_map, hat]; rfl)
      refine ⟨true, S0, by simp -implicitDefEqProofs [mVar, ht], ?_⟩
      rw [if_pos rfl]
      simp -implicitDefEqProofs [mVar, t1, e1, vI, ixd]
      cases tr with
      | @code k' _ t _ out' c =>
        have htl := htx at_ t hat
        have hJk : J * (k' + 1) = J * k' + J := by rw [Nat.mul_add, Nat.mul_one]
        have hMk : M * (k' + 1) = M * k' + M := by rw [Nat.mul_add, Nat.mul_one]
        have a1 : appendV (.ref 0) [vP (shownT ind t, at_, path)] [some (.lst (P.map vP)), some (.lst (I.map vI).reverse)] = .ok .non [some (.lst ((P ++ [(shownT ind t, at_, path)]).map vP)), some (.lst (I.map vI).reverse)] := by
          rw [append0 (by simp [sizeLine]; omega), snoc_map]
        have a2 : appendV (.ref 0) [.tup [.str (shownT ind t), .int (at_ : Nat), .tup (path.map vN)]] [some (.lst (P.map vP)), some (.lst (I.map vI).reverse)] = .ok .non [some (.lst ((P ++ [(shownT ind t, at_, path)]).map vP)), some (.lst (I.map vI).reverse)] := a1
        simp -implicitDefEqProofs [vLn, codeT, mVar, c4 ind t (by omega), mk3, tyB, lstOf, a2]
        exact hnx _ _ k' (by omega) ⟨I, P ++ [(shownT ind t, at_, path)], S, out', _, _, _, _, _, rfl, by simp, c, by rw [hout]; simp, hIS, fun z hz => by have := hbd' z hz; omega, by simp only [List.length_cons] at hil; omega, by simp; omega⟩
      | @skip k' _ j n _ _ h0 c =>
        have hJk : J * (k' + 1) = J * k' + J := by rw [Nat.mul_add, Nat.mul_one]
        have hMk : M * (k' + 1) = M * k' + M := by rw [Nat.mul_add, Nat.mul_one]
        have ixn : ∀ st, ixV (vK K) (.str n) st = .ok (.int ((0 : Nat) : Int)) st := fun st => ix_K (dK st) h0
        simp -implicitDefEqProofs [vLn, codeT, D.useT, mVar, ixn]
        exact hnx _ _ k' (by omega) ⟨I, P, S, out', _, _, _, _, _, rfl, rfl, c, hout, hIS, fun z hz => by have := hbd' z hz; omega, by simp only [List.length_cons] at hil; omega, by omega⟩
      | @exp k' _ j w n _ _ h0 c =>
        have hJk : J * (k' + 1) = J * k' + J := by rw [Nat.mul_add, Nat.mul_one]
        have hMk : M * (k' + 1) = M * k' + M := by rw [Nat.mul_add, Nat.mul_one]
        have hj := hJ at_ _ n hat
        have hn : hs n := hK n (look_mem.mpr ⟨_, h0⟩)
        have ixn : ∀ st, ixV (vK K) (.str n) st = .ok (.int ((w + 1 : Nat) : Int)) st := fun st => ix_K (dK st) h0
        simp -implicitDefEqProofs [vLn, codeT, D.useT, mVar, ixn, show ((0 : Int) < (w : Int) + 1) = True from eq_true (by omega), ixT n hn]
        have hcont := con.own n
        have hlen := hlb n
        obtain ⟨ls, hls⟩ : ∃ ls, ls = lnsOf (secs d) n := ⟨_, rfl⟩
        rw [← hls] at hcont hlen ⊢
        have at1 : ∀ st, addV false (.tup (path.map vN)) (.tup [.int (at_ : Nat)]) st = .ok (.tup (path.map vN ++ [vN at_])) st := fun st => by
          unfold addV
          simp only [intOf_tup, strOf_tup, tupOf_tup]
          rw [mkT_val (by simp [sizeLine]; omega)]
          rfl
        simp only [List.length_cons] at hil
        refine wp_for (fun m e s => ∃ x10, e = [some (.tup (d.map vLn)), some (.str root), some (vK K), some (tabV d), some (.ref 0), some (.ref 1), some (.tup [.str [117, 115, 101], .int (j : Nat), .str n]), some (.int (at_ : Nat)), some (.int (ind : Nat)), some (.tup (path.map vN)), x10] ∧
            s = [some (.lst (P.map vP)), some (.lst ((I.map vI).reverse ++ (ls.reverse.take m).map fun i => vI (i, ind + j, path ++ [at_])))]) ⟨_, rfl, by simp⟩ ?_ ?_
        · rintro m w' e s Qc hw ⟨x10', rfl, rfl⟩ hnx2 _ _ _
          rw [← List.map_reverse, List.getElem?_map] at hw
          obtain ⟨i, hi, rfl⟩ := Option.map_eq_some_iff.mp hw
          have hml := (List.getElem?_eq_some_iff.mp hi).1
          rw [List.length_reverse] at hml
          have a1 : appendV (.ref 1) [.tup [vN i, .int ((ind : Int) + (j : Int)), .tup (path.map vN ++ [vN at_])]] [some (.lst (P.map vP)), some (.lst ((I.map vI).reverse ++ (ls.reverse.take m).map fun i => vI (i, ind + j, path ++ [at_])))] = .ok .non [some (.lst (P.map vP)), some (.lst ((I.map vI).reverse ++ (ls.reverse.take (m + 1)).map fun i => vI (i, ind + j, path ++ [at_])))] := by
            rw [append_ok rfl (by simp [sizeLine]; omega), List.take_succ, hi]
            simp [vI, vN]
          have tt : tyB "list" (.ref 1) [some (.lst (P.map vP)), some (.lst ((I.map vI).reverse ++ (ls.reverse.take m).map fun i => vI (i, ind + j, path ++ [at_])))] = true := rfl
          refine ⟨rfl, _, rfl, ?_⟩
          simp -implicitDefEqProofs [mVar, at1, mk1, mk3, tt, a1, -List.map_take, -List.map_reverse]
          exact hnx2 _ _ ⟨_, rfl, rfl⟩
        · rintro e s ⟨x10', rfl, rfl⟩
          refine ⟨rfl, ?_⟩
          simp -implicitDefEqProofs
          refine hnx _ _ k' (by omega) ⟨(ls.map fun i => (i, ind + j, path ++ [at_])) ++ I, P, _, out', _, _, _, _, _, rfl, ?_, c, hout, ?_, fun z hz => ?_, ?_, by omega⟩
          · rw [List.take_of_length_le (by simp)]
            simp [List.map_reverse, Function.comp_def]
          · rw [List.map_append, List.map_append, hIS, List.map_map, List.map_map]
            congr 1
            have := congrArg (List.map fun q : Option Ln => (q, ind + j)) hcont
            rw [List.map_map, List.map_map] at this
            exact this
          · rcases List.mem_append.mp hz with hz | hz
            · obtain ⟨i, _, rfl⟩ := List.mem_map.mp hz
              refine ⟨?_, ?_⟩
              · show ind + j + J * k' ≤ J * k
                omega
              · show (path ++ [at_]).length + k' ≤ k
                simp; omega
            · have := hbd' z hz
              omega
          · simp only [List.length_append, List.length_map]
            omega
  · have := congrArg (List.map fun q : Option Ln => (q, 0)) (con.own root)
    rw [List.map_map, List.map_map] at this
    rw [List.map_map, List.map_map]
    exact this
  · obtain ⟨i, _, rfl⟩ := List.mem_map.mp hx
    exact ⟨by simp, by simp⟩
  · have := hlb root
    rw [List.length_map, Nat.mul_add, Nat.mul_one]
    omega
end TG

set_option Elab.async false
set_option linter.all false
set_option maxRecDepth 100000
set_option maxHeartbeats 8000000
namespace TG
open PySem PySem.Spec PyProof.Rows L2 G C D
/-- the defs of a text, by the depth of calls -/
structure Fam (Lf : Nat → Lm) : Prop where
  sec : ∀ n, (Lf (n + 1)).fn "sections" = runD (Lf n) D_sections
  tab : ∀ n, (Lf (n + 1)).fn "table_of" = runD (Lf n) D_table_of
  ring : ∀ n, (Lf (n + 1)).fn "ring_from" = runD (Lf n) D_ring_from
  clo : ∀ n, (Lf (n + 1)).fn "closure" = runD (Lf n) D_closure
  les : ∀ n, (Lf (n + 1)).fn "lengths_of" = runD (Lf n) D_lengths_of
  len : ∀ n, (Lf (n + 1)).fn "length" = runD (Lf n) D_length
  shn : ∀ n, (Lf (n + 1)).fn "shown" = runD (Lf n) D_shown
  tan : ∀ n, (Lf (n + 1)).fn "tangle" = runD (Lf n) D_tangle
  txs : ∀ n, (Lf (n + 1)).fn "texts_of" = runD (Lf n) D_texts_of
  lsh : ∀ n, (Lf (n + 1)).fn "_law_shown" = runD (Lf n) D__law_shown
  gl : ∀ n, (Lf n).gl "MOST_LINES" = some (.int 2000)
  o1 : ∀ n, (Lf n).xs.ow "NoPiece" = some owNo
  o2 : ∀ n, (Lf n).xs.ow "Missing" = some owMiss
  o3 : ∀ n, (Lf n).xs.ow "Ring" = some owRing
  s1 : ∀ n, (Lf n).xs.sub noT "NoPiece" = some true
  s2 : ∀ n, (Lf n).xs.sub missT "NoPiece" = some false
  s3 : ∀ n, (Lf n).xs.sub missT "Missing" = some true
  s4 : ∀ n, (Lf n).xs.sub ringT "NoPiece" = some false
  s5 : ∀ n, (Lf n).xs.sub ringT "Missing" = some false
  s6 : ∀ n, (Lf n).xs.sub ringT "Ring" = some true
structure DOk (J : Nat) (d : List Ln) : Prop where
  doc : Doc d
  len : d.length ≤ 100
  us : ∀ (i : Nat) (j : Int) (n : Tx), d[i]? = some (.us j n) → j ≤ J ∧ n.length ≤ 1000
  co : ∀ (i : Nat) (t : Tx), d[i]? = some (.co t) → t.length ≤ 1000
section
variable {Lf : Nat → Lm} {d : List Ln} {J : Nat} {hs : Tx → Prop} {own : Tx → List Ln}
theorem sec_at (F : Fam Lf) (D : DOk J d) (n : Nat) : (Lf (n + 1)).fn "sections" [.tup (d.map vLn)] = .ok (.lst ((secs d).map vSec)) fresh := by
  rw [F.sec]
  exact sections_ok D.doc (by have := D.len; omega)
theorem tab_at (F : Fam Lf) (D : DOk J d) (n : Nat) : (Lf (n + 2)).fn "table_of" [.tup (d.map vLn)] = .ok (tabV d) fresh := by
  rw [F.tab]
  exact table_run (by have := D.len; omega) (sec_at F D n)
theorem clo_at (F : Fam Lf) (D : DOk J d) (con : Con hs own d) {root : Tx} {k : Nat} {r : Rs} (hroot : hs root) (hk : k < 90000) (cl : Cl hs own k [root] [root] [own root] r) (n : Nat) : Outc r ((Lf (n + 3)).fn "closure" [.tup (d.map vLn), .str root]) := by
  rw [F.clo]
  refine closure_run con (by have := D.len; omega) hroot hk (fun j i m h => (D.us j i m h).2) cl (F.o2 _) (F.o3 _) (tab_at F D n) (fun p m hp hm => ?_)
  rw [F.ring]
  exact ring_run hp hm
theorem clo_no (F : Fam Lf) (D : DOk J d) {root : Tx} (h : root ∉ namesOf (secs d)) (hr : root.length ≤ 1000) (n : Nat) : (Lf (n + 3)).fn "closure" [.tup (d.map vLn), .str root] = .err (xNo root) [] := by
  rw [F.clo]
  exact closure_no h hr (F.o1 _) (tab_at F D n)
theorem les_at (F : Fam Lf) (D : DOk J d) (con : Con hs own d) {o f : List Tx} {k : Nat} {K' : Kn} (hk : k < 90000) (hf : ∀ n ∈ f, hs n ∧ ∀ u ∈ uses (own n), u ∈ f) (ho : ∀ n ∈ o, n ∈ f) (hol : o.length ≤ 90000) (ls : Ls own k o.reverse [] K') (n : Nat) :
    (Lf (n + 3)).fn "lengths_of" [.tup (d.map vLn), .lst (o.map .str)] = .ok (vK K') fresh := by
  rw [F.les]
  exact lengths_run con (by have := D.len; omega) hk hf ho hol ls (tab_at F D n)
theorem texts_run {L : Lm} {P : List Prg} (h : P.length ≤ 16000000) : runD L D_texts_of [.lst (P.map vP)] = .ok (.lst ((P.map (·.1)).map .str)) [] := by
  refine runD_of (fun v s => v = .lst ((P.map (·.1)).map .str)) [some (.lst (P.map vP)), none] rfl rfl (fun v s h => by rw [h]; exact ret_free (by rw [free_lst]; exact frees_map fun _ => rfl)) fun Q hr => ?_
  simp -implicitDefEqProofs [D_texts_of, S_texts_of]
  rw [mLc_map (gd := none) (env1 := [some (.lst (P.map vP)), none]) P vP (fun x => .str x.1) (by simp -implicitDefEqProofs [mVar]) rfl rfl (fun x hx => ⟨_, rfl, rfl, by simp -implicitDefEqProofs [mVar, vP]⟩), mkL_val (by simp [sizeLine]; omega)]
  simp -implicitDefEqProofs
  exact hr _ _ (by simp)
/-- what the law is shown -/
inductive Shw where
  | none | miss | ring | long | txt (l : List Tx)
def vSh : Shw → Va
  | .none => .tup [.str [110, 111, 110, 101]]
  | .miss => .tup [.str [109, 105, 115, 115, 105, 110, 103]]
  | .ring => .tup [.str [114, 105, 110, 103]]
  | .long => .tup [.str [108, 111, 110, 103]]
  | .txt l => .lst (l.map .str)
theorem free_vSh (s : Shw) : free (vSh s) = true := by
  cases s with
  | txt l => simp [vSh, frees_map (f := Va.str) fun _ => rfl]
  | _ => rfl
theorem length_err {L : Lm} {d : List Ln} {root : Tx} {x : Exc} (hx : (x.fs.all fun p => free p.2) = true) (h : L.fn "closure" [.tup (d.map vLn), .str root] = .err x []) : runD L D_length [.tup (d.map vLn), .str root] = .err x [] := by
  refine runD_any _ [some (.tup (d.map vLn)), some (.str root)] rfl rfl fun Q _ he => ?_
  have fd : free (.tup (d.map vLn)) = true := by rw [free_tup]; exact frees_map free_vLn
  have c1 : ∀ st, callP false (L.fn "closure") [.tup (d.map vLn), .str root] st = .err x st := fun st => callP_err (by simp only [frees_cons, fd]; rfl) h
  simp -implicitDefEqProofs [D_length, S_length, mVar, c1]
  exact he _ _ _ hx rfl
theorem length_run {L : Lm} {d : List Ln} {root : Tx} {o : List Tx} {K : Kn} {v : Nat} (hv : K.lookup root = some v) (hcl : L.fn "closure" [.tup (d.map vLn), .str root] = .ok (.lst (o.map .str)) fresh) (hle : L.fn "lengths_of" [.tup (d.map vLn), .lst (o.map .str)] = .ok (vK K) fresh) :
    runD L D_length [.tup (d.map vLn), .str root] = .ok (.int (v : Nat)) [] := by
  refine runD_of (fun w s => w = .int (v : Nat)) [some (.tup (d.map vLn)), some (.str root)] rfl rfl (fun v s h => by rw [h]; exact ret_free rfl) fun Q hr => ?_
  have fd : free (.tup (d.map vLn)) = true := by rw [free_tup]; exact frees_map free_vLn
  have c1 : ∀ st, callP false (L.fn "closure") [.tup (d.map vLn), .str root] st = .ok (.lst (o.map .str)) st := fun st => callP_free (by simp only [frees_cons, fd]; rfl) hcl
  have c2 : ∀ st, callP false (L.fn "lengths_of") [.tup (d.map vLn), .lst (o.map .str)] st = .ok (vK K) st := fun st => callP_free (by simp only [frees_cons, fd, free_lst, frees_map (f := Va.str) (fun _ => rfl), frees_nil, Bool.and_true]) hle
  have ixr : ∀ st, ixV (vK K) (.str root) st = .ok (.int (v : Nat)) st := fun st => ix_K rfl hv
  simp -implicitDefEqProofs [D_length, S_length, mVar, c1, c2, ixr]
  exact hr _ _ rfl
theorem lsh_err {L : Lm} {d : List Ln} {root : Tx} {x : Exc} {s : Shw} (hx : (x.fs.all fun p => free p.2) = true) (h : L.fn "length" [.tup (d.map vLn), .str root] = .err x [])
    (hc : (L.xs.sub x.cls "NoPiece" = some true ∧ s = .none) ∨ (L.xs.sub x.cls "NoPiece" = some false ∧ L.xs.sub x.cls "Missing" = some true ∧ s = .miss) ∨ (L.xs.sub x.cls "NoPiece" = some false ∧ L.xs.sub x.cls "Missing" = some false ∧ L.xs.sub x.cls "Ring" = some true ∧ s = .ring)) :
    runD L D__law_shown [.tup (d.map vLn), .str root] = .ok (vSh s) [] := by
  refine runD_of (fun w _ => w = vSh s) [some (.tup (d.map vLn)), some (.str root)] rfl rfl (fun v s h => by rw [h]; exact ret_free (free_vSh _)) fun Q hr => ?_
  have fd : free (.tup (d.map vLn)) = true := by rw [free_tup]; exact frees_map free_vLn
  have c1 : ∀ st, callP false (L.fn "length") [.tup (d.map vLn), .str root] st = .err x st := fun st => callP_err (by simp only [frees_cons, fd]; rfl) h
  have mk1 : ∀ (a : Va) (st : Sto), mkT [a] st = .ok (.tup [a]) st := fun a st => mkT_val (by simp [sizeLine])
  simp -implicitDefEqProofs [D__law_shown, S__law_shown, mVar, c1]
  rcases hc with ⟨h1, rfl⟩ | ⟨h1, h2, rfl⟩ | ⟨h1, h2, h3, rfl⟩
  · simp -implicitDefEqProofs [hx, h1, mk1]
    exact hr _ _ rfl
  · simp -implicitDefEqProofs [hx, h1, h2, mk1]
    exact hr _ _ rfl
  · simp -implicitDefEqProofs [hx, h1, h2, h3, mk1]
    exact hr _ _ rfl
theorem lsh_long {L : Lm} {d : List Ln} {root : Tx} {v : Nat} (hv : 150 < v) (h : L.fn "length" [.tup (d.map vLn), .str root] = .ok (.int (v : Nat)) []) : runD L D__law_shown [.tup (d.map vLn), .str root] = .ok (vSh .long) [] := by
  refine runD_of (fun w _ => w = vSh .long) [some (.tup (d.map vLn)), some (.str root)] rfl rfl (fun v s h => by rw [h]; exact ret_free (free_vSh _)) fun Q hr => ?_
  have fd : free (.tup (d.map vLn)) = true := by rw [free_tup]; exact frees_map free_vLn
  have c1 : ∀ st, callP false (L.fn "length") [.tup (d.map vLn), .str root] st = .ok (.int (v : Nat)) st := fun st => callP_free (by simp only [frees_cons, fd]; rfl) h
  have mk1 : ∀ (a : Va) (st : Sto), mkT [a] st = .ok (.tup [a]) st := fun a st => mkT_val (by simp [sizeLine])
  simp -implicitDefEqProofs [D__law_shown, S__law_shown, mVar, c1, show ((150 : Int) < (v : Int)) = True from eq_true (by omega), mk1]
  exact hr _ _ rfl
theorem lsh_txt {L : Lm} {d : List Ln} {root : Tx} {v : Nat} {P : List Prg} (hv : ¬ 150 < v) (h : L.fn "length" [.tup (d.map vLn), .str root] = .ok (.int (v : Nat)) []) (h2 : L.fn "tangle" [.tup (d.map vLn), .str root] = .ok (.lst (P.map vP)) fresh)
    (h3 : L.fn "texts_of" [.lst (P.map vP)] = .ok (.lst ((P.map (·.1)).map .str)) []) : runD L D__law_shown [.tup (d.map vLn), .str root] = .ok (vSh (.txt (P.map (·.1)))) [] := by
  refine runD_of (fun w _ => w = vSh (.txt (P.map (·.1)))) [some (.tup (d.map vLn)), some (.str root)] rfl rfl (fun v s h => by rw [h]; exact ret_free (free_vSh _)) fun Q hr => ?_
  have fd : free (.tup (d.map vLn)) = true := by rw [free_tup]; exact frees_map free_vLn
  have c1 : ∀ st, callP false (L.fn "length") [.tup (d.map vLn), .str root] st = .ok (.int (v : Nat)) st := fun st => callP_free (by simp only [frees_cons, fd]; rfl) h
  have c2 : ∀ st, callP false (L.fn "tangle") [.tup (d.map vLn), .str root] st = .ok (.lst (P.map vP)) st := fun st => callP_free (by simp only [frees_cons, fd]; rfl) h2
  have c3 : ∀ st, callP false (L.fn "texts_of") [.lst (P.map vP)] st = .ok (.lst ((P.map (·.1)).map .str)) st := fun st => callP_free (by simp only [frees_cons, free_lst, frees_map free_vP]; rfl) h3
  simp -implicitDefEqProofs [D__law_shown, S__law_shown, mVar, c1, show ((150 : Int) < (v : Int)) = False from eq_false (by omega), c2]
  rw [c3]
  simp -implicitDefEqProofs [-List.map_map]
  exact hr _ _ rfl
end
end TG

set_option Elab.async false
set_option linter.all false
set_option maxRecDepth 100000
set_option maxHeartbeats 8000000
namespace TG
open PySem PySem.Spec PyProof.Rows L2 G C D
section
variable {hs : Tx → Prop} {own : Tx → List Ln}
theorem topo_mem {f : List Tx} (t : Topo hs own f) : ∀ n ∈ f, hs n ∧ ∀ u ∈ uses (own n), u ∈ f := by
  induction t with
  | nil => intro n h; cases h
  | cons h1 h2 h3 t ih =>
    intro n h
    rcases List.mem_cons.mp h with rfl | h
    · exact ⟨h1, fun u hu => List.mem_cons_of_mem _ (h3 u hu)⟩
    · exact ⟨(ih n h).1, fun u hu => List.mem_cons_of_mem _ ((ih n h).2 u hu)⟩
theorem topo_nd {f : List Tx} (t : Topo hs own f) : f.Nodup := by
  induction t with
  | nil => exact List.nodup_nil
  | cons h1 h2 h3 t ih => exact List.nodup_cons.mpr ⟨h2, ih⟩
theorem cap_bd {M : Nat} (hM : ∀ n, (own n).length ≤ M) (o : List Tx) : ∀ names : List Tx, capO own names o ≤ names.length * (M + 1)
  | [] => by simp [capO]
  | n :: r => by
    have ih := cap_bd hM o r
    unfold capO at ih ⊢
    simp only [List.map_cons, List.sum_cons, List.length_cons, Nat.succ_mul]
    have := hM n
    split <;> omega
theorem shown_ex {names : List Tx} {M J : Nat} (hn : ∀ n, hs n → n ∈ names) (hnl : names.length ≤ 40) (hM : ∀ n, (own n).length ≤ M) (hM2 : M ≤ 40) (hI : ∀ n, ∀ l ∈ own n, LnI l) (hJ : J ≤ 16) (root : Tx) (hr : root.length ≤ 1000) :
    ∃ s : Shw, ∀ (d : List Ln) (Lf : Nat → Lm), Fam Lf → DOk J d → Con hs own d → ∀ n, (Lf (n + 5)).fn "_law_shown" [.tup (d.map vLn), .str root] = .ok (vSh s) [] := by
  by_cases hroot : hs root
  · obtain ⟨k, r, hk, cl⟩ := cl_ex hs own hn 2000 [root] [root] [own root] rfl (by
      have h1 := cap_bd (own := own) hM [root] names
      have h2 := hM root
      have h3 := Nat.mul_le_mul hnl (show M + 1 ≤ 41 by omega)
      simp [lefts]
      omega)
    cases r with
    | miss =>
      refine ⟨.miss, fun d Lf F D con n => ?_⟩
      obtain ⟨x, hx, hf, e⟩ := clo_at F D con hroot (by omega) cl n
      rw [F.lsh]
      refine lsh_err hf (by rw [F.len]; exact length_err hf e) (.inr (.inl ?_))
      rw [hx]
      exact ⟨F.s2 _, F.s3 _, rfl⟩
    | ring =>
      refine ⟨.ring, fun d Lf F D con n => ?_⟩
      obtain ⟨x, hx, hf, e⟩ := clo_at F D con hroot (by omega) cl n
      rw [F.lsh]
      refine lsh_err hf (by rw [F.len]; exact length_err hf e) (.inr (.inr ?_))
      rw [hx]
      exact ⟨F.s4 _, F.s5 _, F.s6 _, rfl⟩
    | ok o =>
      obtain ⟨f, t, hof, hro, hlen, hol⟩ := cl_topo hs own cl (fin := []) rfl .nil (fun x hx => .inr hx) (by simp) (fun x hx => ⟨hx, by rw [List.mem_singleton.mp hx]; exact hroot, by simp⟩) (by simp) ⟨⟨[], rfl, by simp [uses]⟩, trivial⟩
      have hro := hro root (by simp)
      have tm := topo_mem t
      have hfl : f.length ≤ 40 := Nat.le_trans (nodup_le (topo_nd t) fun x hx => hn x (tm x hx).1) hnl
      obtain ⟨K, kl, more, hkeys, hkl, ls⟩ := ls_all hs own t o.reverse [] (fun n h => hof n (List.mem_reverse.mp h)) ⟨(fun n a h => nomatch h), List.nodup_nil⟩
      have hkf : ∀ n ∈ keysK K, n ∈ f := fun n h => (more.new n h).resolve_left (by simp [keysK])
      have hKl : K.length ≤ 40 := by
        have := nodup_le more.good.nd hkf
        unfold keysK at this
        rw [List.length_map] at this
        omega
      obtain ⟨v, hv⟩ := look_mem.mp (hkeys root (List.mem_reverse.mpr hro))
      simp only [List.length_reverse, List.length_nil, List.length_cons] at hkl hlen hol
      have lesD : ∀ (d : List Ln) (Lf : Nat → Lm), Fam Lf → DOk J d → Con hs own d → ∀ n, (Lf (n + 3)).fn "lengths_of" [.tup (d.map vLn), .lst (o.map .str)] = .ok (vK K) fresh := fun d Lf F D con n => les_at F D con (by omega) tm hof (by omega) ls n
      have lenD : ∀ (d : List Ln) (Lf : Nat → Lm), Fam Lf → DOk J d → Con hs own d → ∀ n, (Lf (n + 4)).fn "length" [.tup (d.map vLn), .str root] = .ok (.int (v : Nat)) [] := fun d Lf F D con n => by
        rw [F.len]
        exact length_run hv (clo_at F D con hroot (by omega) cl n) (lesD d Lf F D con n)
      by_cases h150 : 150 < v
      · refine ⟨.long, fun d Lf F D con n => ?_⟩
        rw [F.lsh]
        exact lsh_long h150 (lenD d Lf F D con n)
      · obtain ⟨hval, huk⟩ := more.good.vl root v hv
        have hrf := hkf root (look_mem.mpr ⟨v, hv⟩)
        obtain ⟨c, xs, hc, htr⟩ := tr_list own (K := K) (c0 := M * f.length) (own root) (hI root) huk (fun u hu => tr_name hs own t more.good hM hI u ((tm root hrf).2 u hu)) 0
        have hsum : sumK K (uses (own root)) ≤ 150 := by unfold valOf at hval; omega
        have hc2 : c ≤ 40 + 1600 * 150 := by
          have h1 := Nat.mul_le_mul hM2 hfl
          have h2 := Nat.mul_le_mul h1 hsum
          have h3 := hM root
          omega
        have tr := htr [] 0 [] .done
        rw [List.append_nil, List.append_nil, Nat.zero_add] at tr
        have hsz : M * (c + 1) + J * c + c + 2000 ≤ 16000000 := by
          have h1 := Nat.mul_le_mul hM2 (show c + 1 ≤ 240041 by omega)
          have h2 := Nat.mul_le_mul hJ (show c ≤ 240040 by omega)
          omega
        refine ⟨.txt xs, fun d Lf F D con n => ?_⟩
        have ht : ∃ w, (∃ P : List Prg, P.map (·.1) = xs ∧ w = .lst (P.map vP)) ∧ (Lf (n + 4)).fn "tangle" [.tup (d.map vLn), .str root] = .ok w fresh := by
          rw [F.tan]
          refine tangle_run (f := f) con (by have := D.len; omega) hroot (F.gl _) hv (by omega) hM hsz (fun n hn => (tm n (hkf n hn)).1) (fun i j n h => (D.us i j n h).1) D.co tr (clo_at F D con hroot (by omega) cl n) (lesD d Lf F D con n) (tab_at F D (n + 1)) (fun i t h => ?_)
          rw [F.shn]
          exact shown_run h
        obtain ⟨w, ⟨P, hP, rfl⟩, e⟩ := ht
        rw [F.lsh, ← hP]
        have hPl : P.length ≤ 16000000 := by
          have : P.length = xs.length := by rw [← hP]; simp
          rw [this]
          have : ∀ {k : Nat} {S : List (Ln × Nat)} {out : List Tx}, Tr own K k S out → out.length ≤ k := fun {k S out} h => by
            induction h with
            | done => simp
            | code _ ih => simp; omega
            | skip _ _ ih => omega
            | exp _ _ ih => omega
          have := this tr
          omega
        exact lsh_txt h150 (lenD d Lf F D con n) e (by rw [F.txs]; exact texts_run hPl)
  · refine ⟨.none, fun d Lf F D con n => ?_⟩
    have hno : root ∉ namesOf (secs d) := fun z => hroot ((con.hs root).mpr z)
    rw [F.lsh]
    refine lsh_err (x := xNo root) rfl (by rw [F.len]; exact length_err rfl (clo_no F D hno hr n)) (.inl ⟨F.s1 _, rfl⟩)
end
end TG

set_option Elab.async false
set_option linter.all false
set_option maxRecDepth 100000
set_option maxHeartbeats 8000000
namespace TG
open PySem PySem.Spec PyProof.Rows L2 G C D
def S__law_draws : S :=
  (.seq (.set (.inl 2) (.lst true .nil))
  (.seq (.set (.inl 3) (.cmp .ge (.var 0) (.bin .pow false (.int 10) (.int 18))))
  (.seq (.sfor (.inl 4) (.irng (.cons (.var 1) .nil))
  (.seq (.sif (.var 3)
  (.seq (.expr (.mth .append (.var 2) (.cons (.bin .mod false (.var 0) (.int 1009)) .nil)))
  (.seq (.set (.inl 0) (.bin .fdiv false (.var 0) (.int 1009)))
  .nil))
  (.seq (.set (.inl 5) (.bin .mod false (.bin .add false (.bin .mul false (.var 0) (.int 48271)) (.bin .mul false (.var 4) (.int 69621))) (.int 2147483647)))
  (.seq (.expr (.mth .append (.var 2) (.cons (.bin .mod false (.bin .add false (.bin .add false (.bin .mul false (.var 5) (.var 5)) (.bin .mul false (.var 0) (.int 31))) (.var 4)) (.int 1000003)) .nil)))
  .nil)))
  .nil))
  (.seq (.ret (.var 2))
  .nil))))
def D__law_draws : Df := ⟨["_law_cell_here", "_law_count", "_law_found", "_law_is_wide", "_law_k", "_law_mixed"], 2, S__law_draws⟩
def S__law_text : S :=
  (.seq (.ret (.ix (.lst false (.cons (.str []) (.cons (.str [120]) (.cons (.str [32, 32, 121]) (.cons (.str [120, 32, 121]) (.cons (.str [60, 97]) (.cons (.str [122, 62]) (.cons (.str [32]) (.cons (.str [105, 102, 32, 60, 98, 62, 32, 120]) (.cons (.str [32, 32, 32, 32]) (.cons (.str [119]) (.cons (.str [120]) (.cons (.str [61, 113]) .nil))))))))))))) (.bin .mod false (.var 0) (.int 12))))
  .nil)
def D__law_text : Df := ⟨["_law_draw"], 1, S__law_text⟩
def S__law_line : S :=
  (.seq (.set (.inl 3) (.bin .mod false (.ix (.var 0) (.int 0)) (.int 11)))
  (.seq (.sif (.cmp .lt (.var 3) (.int 2))
  (.seq (.ret (.tup (.cons (.str [112, 114, 111, 115, 101]) (.cons (.ix (.lst false (.cons (.str []) (.cons (.str [119, 111, 114, 100, 115]) (.cons (.str [109, 111, 114, 101, 32, 119, 111, 114, 100, 115]) (.cons (.str [32, 60, 97, 62]) .nil))))) (.bin .mod false (.ix (.var 0) (.int 1)) (.int 4))) .nil))))
  .nil)
  .nil)
  (.seq (.sif (.cmp .lt (.var 3) (.int 4))
  (.seq (.ret (.tup (.cons (.str [104, 101, 97, 100]) (.cons (.ix (.str [97, 98, 99, 100, 101]) (.bin .mod false (.ix (.var 0) (.int 1)) (.int 5))) .nil))))
  .nil)
  .nil)
  (.seq (.sif (.cmp .lt (.var 3) (.int 7))
  (.seq (.set (.inl 4) (.bin .mod false (.ix (.var 0) (.int 2)) (.int 6)))
  (.seq (.sif (.var 2)
  (.seq (.set (.inl 4) (.bin .add false (.bin .add false (.var 1) (.int 1)) (.bin .mod false (.ix (.var 0) (.int 2)) (.int 2))))
  .nil)
  .nil)
  (.seq (.sif (.and (.cons (.cmp .lt (.var 4) (.int 6)) (.cons (.or (.cons (.cmp .lt (.var 4) (.int 5)) (.cons (.not (.var 2)) .nil))) .nil)))
  (.seq (.ret (.tup (.cons (.str [117, 115, 101]) (.cons (.ix (.lst false (.cons (.int 0) (.cons (.int 0) (.cons (.int 2) (.cons (.int 4) (.cons (.int 1) .nil)))))) (.bin .mod false (.ix (.var 0) (.int 3)) (.int 5))) (.cons (.ix (.str [97, 98, 99, 100, 101, 102]) (.var 4)) .nil)))))
  .nil)
  .nil)
  .nil)))
  .nil)
  (.seq (.ret (.tup (.cons (.str [99, 111, 100, 101]) (.cons (.call "_law_text" false (.cons (.ix (.var 0) (.int 4)) .nil)) .nil))))
  .nil)))))
def D__law_line : Df := ⟨["_law_draws_here", "_law_current", "_law_calm", "_law_kind", "_law_name"], 3, S__law_line⟩
def S__law_document : S :=
  (.seq (.set (.inl 4) (.lst true (.cons (.tup (.cons (.str [104, 101, 97, 100]) (.cons (.str [97]) .nil))) .nil)))
  (.seq (.set (.inl 5) (.int 0))
  (.seq (.set (.inl 6) (.bl true))
  (.seq (.sfor (.inl 7) (.irng (.cons (.var 2) .nil))
  (.seq (.set (.inl 8) (.call "_law_line" false (.cons (.call "_law_draws" false (.cons (.call "_law_cell" false (.cons (.var 0) (.cons (.bin .add false (.var 1) (.var 7)) .nil))) (.cons (.int 5) .nil))) (.cons (.var 5) (.cons (.var 3) .nil)))))
  (.seq (.sif (.and (.cons (.not (.var 6)) (.cons (.cmp .in_ (.ix (.var 8) (.int 0)) (.tup (.cons (.str [99, 111, 100, 101]) (.cons (.str [117, 115, 101]) .nil)))) .nil)))
  (.seq (.set (.inl 8) (.tup (.cons (.str [104, 101, 97, 100]) (.cons (.ix (.str [97, 98, 99, 100, 101]) (.bin .mod false (.call "_law_cell" false (.cons (.var 0) (.cons (.bin .add false (.var 1) (.var 7)) .nil))) (.int 5))) .nil))))
  .nil)
  .nil)
  (.seq (.set (.inl 6) (.cmp .ne (.ix (.var 8) (.int 0)) (.str [112, 114, 111, 115, 101])))
  (.seq (.sif (.cmp .eq (.ix (.var 8) (.int 0)) (.str [104, 101, 97, 100]))
  (.seq (.set (.inl 5) (.mth .find (.str [97, 98, 99, 100, 101]) (.cons (.ix (.var 8) (.int 1)) .nil)))
  .nil)
  .nil)
  (.seq (.expr (.mth .append (.var 4) (.cons (.var 8) .nil)))
  .nil))))))
  (.seq (.ret (.bif .tuple false (.cons (.var 4) .nil)))
  .nil)))))
def D__law_document : Df := ⟨["_law_script", "_law_at", "_law_count", "_law_calm", "_law_document_here", "_law_current", "_law_is_open", "_law_k", "_law_line_here"], 4, S__law_document⟩
def S__law_is_own : S :=
  (.seq (.ret (.and (.cons (.cmp2 .le .lt (.int 0) (.var 1) (.bif .len false (.cons (.var 0) .nil))) (.cons (.cmp .in_ (.ix (.ix (.var 0) (.var 1)) (.int 0)) (.tup (.cons (.str [99, 111, 100, 101]) (.cons (.str [117, 115, 101]) .nil)))) .nil))))
  .nil)
def D__law_is_own : Df := ⟨["_law_document_here", "_law_at"], 2, S__law_is_own⟩
theorem draws_ok {L : Lm} (c : Int) (n : Nat) (hn : n < 1000) : ∃ w : Va, (∃ ds : List Int, ds.length = n ∧ w = .lst (ds.map .int)) ∧ runD L D__law_draws [.int c, .int n] = .ok w fresh := by
  refine runD_ex [some (.int c), some (.int n), none, none, none, none] rfl rfl fun Q hr => ?_
  obtain ⟨g, hg⟩ := pow_any
  simp -implicitDefEqProofs [D__law_draws, S__law_draws, mVar, mkL_ref, hg, rng1 (rep_lt (show n < 2000 by omega))]
  refine wp_for (fun k env st => ∃ (x4 x5 : Option Va) (c : Int) (ds : List Int) (b : Bool), env = [some (.int c), some (.int n), some (.ref 0), some (.bl b), x4, x5] ∧ ds.length = k ∧ st = [some (.lst (ds.map .int))]) ?_ ?_ ?_
  · exact ⟨none, none, c, [], _, rfl, rfl, rfl⟩
  · rintro k w env st Qb hw ⟨x4, x5, c, ds, b, rfl, rfl, rfl⟩ hnx _ _ _
    obtain ⟨hk, rfl⟩ := rints_get hw
    refine ⟨rfl, _, rfl, ?_⟩
    have hs : ds.length < sizeLine := by unfold sizeLine; omega
    cases b with
    | false =>
      have hm : G.small64 ((c * 48271 + ds.length * 69621).fmod 2147483647) = true := small_mod
      simp -implicitDefEqProofs [mVar, mulV_int, hm, show G.small64 48271 = true by decide +kernel, show G.small64 69621 = true by decide +kernel, show G.small64 31 = true by decide +kernel, modV_int, tyB, lstOf, appendV, hs]
      exact hnx _ _ ⟨_, _, c, ds ++ [_], false, rfl, by simp, by rw [snoc_map]⟩
    | true =>
      simp -implicitDefEqProofs [mVar, modV_int, fdivV_int, tyB, lstOf, appendV, hs]
      exact hnx _ _ ⟨_, _, _, ds ++ [_], true, rfl, by simp, by rw [snoc_map]⟩
  · rintro env st ⟨x4, x5, c, ds, b, rfl, h, rfl⟩
    refine ⟨rfl, ?_⟩
    simp -implicitDefEqProofs [mVar]
    exact hr _ _ _ ⟨ds, by simpa using h, rfl⟩ (ret_lst rfl (frees_map fun _ => rfl))
/-- one of a list of texts, by a rest -/
theorem pick_tx (l : List Tx) (i j : Int) (n : Nat) (hl : l.length = n) (hn : 0 < n) (hj : j = (n : Nat)) : ∃ t, t ∈ l ∧ ∀ st, ixV (.lst (l.map .str)) (.int (i.fmod j)) st = .ok (.str t) st := by
  subst hj
  obtain ⟨k, hk, e⟩ := fmod_at i hn
  obtain ⟨w, hw⟩ : ∃ w, l[k]? = some w := ⟨_, List.getElem?_eq_getElem (by omega)⟩
  refine ⟨w, List.mem_of_getElem? hw, fun st => ?_⟩
  rw [e]
  exact ixV_int rfl (by rw [List.getElem?_map, hw]; rfl)
theorem text_ok {L : Lm} (i : Int) : ∃ t : Tx, t ∈ [[], [120], [32, 32, 121], [120, 32, 121], [60, 97], [122, 62], [32], [105, 102, 32, 60, 98, 62, 32, 120], [32, 32, 32, 32], [119], [120], [61, 113]] ∧ runD L D__law_text [.int i] = .ok (.str t) [] := by
  obtain ⟨t, ht, e⟩ := pick_tx [[], [120], [32, 32, 121], [120, 32, 121], [60, 97], [122, 62], [32], [105, 102, 32, 60, 98, 62, 32, 120], [32, 32, 32, 32], [119], [120], [61, 113]] i 12 12 rfl (by decide) rfl
  have e' := e []
  simp only [List.map_cons, List.map_nil] at e'
  refine ⟨t, ht, runD_ok rfl ?_⟩
  simp -implicitDefEqProofs [D__law_text, S__law_text, mVar, mkL, modV_int, e', sizeLine]
/-- a sign of a text, by a rest -/
theorem pick_sg (l : Tx) (i j : Int) (n : Nat) (hl : l.length = n) (hn : 0 < n) (hj : j = (n : Nat)) (hz : n ≤ 100) : ∃ c, c ∈ l ∧ ∀ st, ixV (.str l) (.int (i.fmod j)) st = .ok (.str [c]) st := by
  subst hj
  obtain ⟨k, hk, e⟩ := fmod_at i hn
  obtain ⟨w, hw⟩ : ∃ w, l[k]? = some w := ⟨_, List.getElem?_eq_getElem (by omega)⟩
  refine ⟨w, List.mem_of_getElem? hw, fun st => ?_⟩
  rw [e]
  exact ixV_str (by unfold sizeLine; omega) hw rfl
def abcde : Tx := [97, 98, 99, 100, 101]
def abcdef : Tx := [97, 98, 99, 100, 101, 102]
theorem find5 : ∀ c ∈ abcde, ∃ k : Nat, k < 5 ∧ Txt.find (mkS abcde) (mkS [c]) = (k : Int) := by
  intro c hc
  simp only [abcde, List.mem_cons, List.not_mem_nil, or_false] at hc
  rcases hc with rfl | rfl | rfl | rfl | rfl
  · exact ⟨0, by decide, by decide +kernel⟩
  · exact ⟨1, by decide, by decide +kernel⟩
  · exact ⟨2, by decide, by decide +kernel⟩
  · exact ⟨3, by decide, by decide +kernel⟩
  · exact ⟨4, by decide, by decide +kernel⟩
def codeTs : List Tx := [[], [120], [32, 32, 121], [120, 32, 121], [60, 97], [122, 62], [32], [105, 102, 32, 60, 98, 62, 32, 120], [32, 32, 32, 32], [119], [120], [61, 113]]
def proseTs : List Tx := [[], [119, 111, 114, 100, 115], [109, 111, 114, 101, 32, 119, 111, 114, 100, 115], [32, 60, 97, 62]]
/-- what a drawn line may be -/
def LnOk : Ln → Prop
  | .hd n => ∃ c ∈ abcde, n = [c]
  | .us i n => i ∈ [0, 0, 2, 4, 1] ∧ ∃ c ∈ abcdef, n = [c]
  | .co t => t ∈ codeTs
  | .pr t => t ∈ proseTs
theorem line_ok {L : Lm} (ht : ∀ i : Int, ∃ t : Tx, t ∈ codeTs ∧ L.fn "_law_text" [.int i] = .ok (.str t) []) (ds : List Int) (hl : ds.length = 5) (cur : Nat) (hc : cur < 5) (calm : Bool) : ∃ w, (∃ l : Ln, LnOk l ∧ w = vLn l) ∧ runD L D__law_line [.lst (ds.map .int), .int cur, .bl calm] = .ok w [] := by
  obtain ⟨text, ht⟩ := Classical.axiomOfChoice ht
  have ht2 : ∀ i st, callP false (L.fn "_law_text") [.int i] st = .ok (.str (text i)) st := fun i st => callP_free rfl (ht i).2
  obtain ⟨dv, at_⟩ : ∃ dv : Nat → Int, ∀ (k : Nat) (st : Sto), k < 5 → ixV (.lst (ds.map .int)) (.int (k : Nat)) st = .ok (.int (dv k)) st := ⟨fun k => ds.getD k 0, fun k st hk => ixV_int (l := ds.map .int) rfl (by rw [List.getElem?_map, List.getElem?_eq_getElem (by omega)]; simp [List.getD_eq_getElem?_getD, List.getElem?_eq_getElem (show k < ds.length by omega)])⟩
  have a0 : ∀ st, ixV (.lst (ds.map .int)) (.int 0) st = .ok (.int (dv 0)) st := fun st => at_ 0 st (by decide)
  have a1 : ∀ st, ixV (.lst (ds.map .int)) (.int 1) st = .ok (.int (dv 1)) st := fun st => at_ 1 st (by decide)
  have a2 : ∀ st, ixV (.lst (ds.map .int)) (.int 2) st = .ok (.int (dv 2)) st := fun st => at_ 2 st (by decide)
  have a3 : ∀ st, ixV (.lst (ds.map .int)) (.int 3) st = .ok (.int (dv 3)) st := fun st => at_ 3 st (by decide)
  have a4 : ∀ st, ixV (.lst (ds.map .int)) (.int 4) st = .ok (.int (dv 4)) st := fun st => at_ 4 st (by decide)
  refine runD_ex [some (.lst (ds.map .int)), some (.int cur), some (.bl calm), none, none] rfl rfl fun Q hr => ?_
  simp -implicitDefEqProofs [D__law_line, S__law_line, mVar, a0, modV_int]
  by_cases k1 : (dv 0).fmod 11 < 2
  · obtain ⟨t, hpt, e⟩ := pick_tx [[], [119, 111, 114, 100, 115], [109, 111, 114, 101, 32, 119, 111, 114, 100, 115], [32, 60, 97, 62]] (dv 1) 4 4 rfl (by decide) rfl
    have e' := e []
    simp only [List.map_cons, List.map_nil] at e'
    simp -implicitDefEqProofs [k1, mVar, mkL, sizeLine, a1, modV_int, e', mkT]
    exact hr _ _ _ ⟨.pr t, hpt, rfl⟩ (ret_free rfl)
  simp -implicitDefEqProofs [k1, mVar]
  by_cases k2 : (dv 0).fmod 11 < 4
  · obtain ⟨c, hcm, e⟩ := pick_sg abcde (dv 1) 5 5 rfl (by decide) rfl (by decide)
    have e' := e []
    simp only [abcde] at e'
    simp -implicitDefEqProofs [k2, mVar, sizeLine, a1, modV_int, e', mkT]
    exact hr _ _ _ ⟨.hd [c], ⟨c, hcm, rfl⟩, rfl⟩ (ret_free rfl)
  simp -implicitDefEqProofs [k2, mVar]
  refine wp_cut (fun e s => s = [] ∧ ∃ x4, e = [some (.lst (ds.map .int)), some (.int cur), some (.bl calm), some (.int ((dv 0).fmod 11)), x4]) (fun R h _ hrt _ => ?_) ?_
  · split
    · simp -implicitDefEqProofs [mVar, a2, modV_int]
      refine wp_cut (fun e s => s = [] ∧ ∃ nm : Nat, e = [some (.lst (ds.map .int)), some (.int cur), some (.bl calm), some (.int ((dv 0).fmod 11)), some (.int nm)]) (fun R2 h2 _ hrt2 _ => ?_) ?_
      · cases calm with
        | true =>
          obtain ⟨k, hk, ek⟩ := fmod_at (dv 2) (n := 2) (by decide)
          have ek' : (dv 2).fmod 2 = (k : Int) := ek
          simp -implicitDefEqProofs [mVar, a2, modV_int, ek']
          exact h2 _ _ ⟨rfl, cur + 1 + k, by simp⟩
        | false =>
          obtain ⟨k, hk, ek⟩ := fmod_at (dv 2) (n := 6) (by decide)
          have ek' : (dv 2).fmod 6 = (k : Int) := ek
          simp -implicitDefEqProofs
          exact h2 _ _ ⟨rfl, k, by rw [ek']⟩
      · rintro e s ⟨rfl, nm, rfl⟩
        simp -implicitDefEqProofs [mVar]
        obtain ⟨i, him, hi⟩ : ∃ i : Int, i ∈ [(0 : Int), 0, 2, 4, 1] ∧ ∀ st, ixV (.lst [.int 0, .int 0, .int 2, .int 4, .int 1]) (.int ((dv 3).fmod 5)) st = .ok (.int i) st := by
          obtain ⟨k, hk, e⟩ := fmod_at (dv 3) (n := 5) (by decide)
          have e' : (dv 3).fmod 5 = (k : Int) := e
          rw [e']
          have : ∃ i : Int, i ∈ [(0 : Int), 0, 2, 4, 1] ∧ ([.int 0, .int 0, .int 2, .int 4, .int 1] : List Va)[k]? = some (.int i) := by
            rcases k with _ | _ | _ | _ | _ | k
            · exact ⟨_, by decide, rfl⟩
            · exact ⟨_, by decide, rfl⟩
            · exact ⟨_, by decide, rfl⟩
            · exact ⟨_, by decide, rfl⟩
            · exact ⟨_, by decide, rfl⟩
            · omega
          obtain ⟨i, him, hi⟩ := this
          exact ⟨i, him, fun st => ixV_int rfl hi⟩
        by_cases h6 : nm < 6
        · obtain ⟨c, hcc⟩ : ∃ c, abcdef[nm]? = some c := ⟨_, List.getElem?_eq_getElem (by simpa [abcdef] using h6)⟩
          have hn : ∀ st, ixV (.str [97, 98, 99, 100, 101, 102]) (.int (nm : Nat)) st = .ok (.str [c]) st := fun st => ixV_str (x := abcdef) (by simp [sizeLine, abcdef]) hcc rfl
          have h6' : (nm : Int) < 6 := by omega
          by_cases h5 : (nm : Int) < 5
          · simp -implicitDefEqProofs [h6', h5, mVar, mkL, sizeLine, a3, modV_int, hi, hn, mkT]
            exact hrt _ _ (hr _ _ _ ⟨.us i [c], ⟨him, c, List.mem_of_getElem? hcc, rfl⟩, rfl⟩ (ret_free rfl))
          · cases calm with
            | true =>
              simp -implicitDefEqProofs [h6', h5, mVar]
              exact h _ _ ⟨rfl, _, rfl⟩
            | false =>
              simp -implicitDefEqProofs [h6', h5, mVar, mkL, sizeLine, a3, modV_int, hi, hn, mkT]
              exact hrt _ _ (hr _ _ _ ⟨.us i [c], ⟨him, c, List.mem_of_getElem? hcc, rfl⟩, rfl⟩ (ret_free rfl))
        · have h6' : ¬ (nm : Int) < 6 := by omega
          simp -implicitDefEqProofs [h6']
          exact h _ _ ⟨rfl, _, rfl⟩
    · simp -implicitDefEqProofs
      exact h _ _ ⟨rfl, _, rfl⟩
  · rintro e s ⟨rfl, x4, rfl⟩
    simp -implicitDefEqProofs [mVar, a4, ht2, mkT, sizeLine]
    exact hr _ _ _ ⟨.co _, (ht _).1, rfl⟩ (ret_free rfl)
theorem doc_snoc {ds a : List Ln} {x l : Ln} (hd : Doc ds) (e : ds = a ++ [x]) (h : l.isI = true → x.isP = false) : Doc (ds ++ [l]) := by
  refine ⟨?_, fun k y z h1 h2 hz => ?_⟩
  · obtain ⟨n, h0⟩ := hd.h0
    exact ⟨n, by rw [List.getElem?_append_left (List.getElem?_eq_some_iff.mp h0).1]; exact h0⟩
  · by_cases hk : k + 1 < ds.length
    · rw [List.getElem?_append_left (by omega)] at h1
      rw [List.getElem?_append_left hk] at h2
      exact hd.hI k y z h1 h2 hz
    · have hk2 := (List.getElem?_eq_some_iff.mp h2).1
      simp at hk2
      have hk3 : k + 1 = ds.length := by omega
      have z2 : (ds ++ [l])[k + 1]? = some l := by rw [hk3]; simp
      rw [z2] at h2
      cases h2
      have y2 : (ds ++ [l])[k]? = some x := by
        rw [List.getElem?_append_left (by omega), e]
        have : k = a.length := by rw [e] at hk3; simp at hk3; omega
        rw [this]
        simp
      rw [y2] at h1
      cases h1
      exact h hz
theorem findV_str (a b : Tx) (st : Sto) : findV (.str a) [.str b] st = .ok (.int (Txt.find (mkS a) (mkS b))) st := by
  simp [findV, tt1]
theorem document_ok {L : Lm} {ns : List Int} (hc : ∀ (k : Nat), L.fn "_law_cell" [.scr (ns.map .int), .int k] = .ok (.int (cell ns k)) [])
    (hd : ∀ (c : Int) (n : Nat), n < 1000 → ∃ w : Va, (∃ ds : List Int, ds.length = n ∧ w = .lst (ds.map .int)) ∧ L.fn "_law_draws" [.int c, .int n] = .ok w fresh)
    (hn : ∀ (ds : List Int), ds.length = 5 → ∀ (cur : Nat), cur < 5 → ∀ calm : Bool, ∃ w, (∃ l : Ln, LnOk l ∧ w = vLn l) ∧ L.fn "_law_line" [.lst (ds.map .int), .int cur, .bl calm] = .ok w []) (s n : Nat) (calm : Bool) (hn2 : n < 100) (hs : s < 100) :
    ∃ w, (∃ d : List Ln, Doc d ∧ d.length = n + 1 ∧ (∀ l ∈ d, LnOk l) ∧ w = .tup (d.map vLn)) ∧ runD L D__law_document [.scr (ns.map .int), .int s, .int n, .bl calm] = .ok w [] := by
  have hsc : frees (ns.map Va.int) = true := frees_map fun _ => rfl
  have hc2 : ∀ (k : Nat) st, callP false (L.fn "_law_cell") [.scr (ns.map .int), .int ((s : Int) + (k : Nat))] st = .ok (.int (cell ns (s + k))) st := fun k st => by
    rw [show (s : Int) + (k : Nat) = ((s + k : Nat) : Int) by omega]
    exact callP_free (by simp [hsc]) (hc _)
  refine runD_ex [some (.scr (ns.map .int)), some (.int s), some (.int n), some (.bl calm), none, none, none, none, none] rfl rfl fun Q hr => ?_
  simp -implicitDefEqProofs [D__law_document, S__law_document, mVar, mkL, mkT, sizeLine, rng1 (rep_lt (show n < 2000 by omega))]
  refine wp_for (fun k env st => ∃ (ds : List Ln) (cur : Nat) (op : Bool) (x7 x8 : Option Va), env = [some (.scr (ns.map .int)), some (.int s), some (.int n), some (.bl calm), some (.ref 0), some (.int cur), some (.bl op), x7, x8] ∧ cur < 5 ∧ ds.length = k + 1 ∧ Doc ds ∧ (∀ l ∈ ds, LnOk l) ∧ (∃ a l, ds = a ++ [l] ∧ op = !l.isP) ∧ st = [some (.lst (ds.map vLn))]) ?_ ?_ ?_
  · exact ⟨[.hd [97]], 0, true, none, none, rfl, by decide, rfl, ⟨⟨_, rfl⟩, fun k x y h1 h2 => by simp at h2⟩, by simp [LnOk, abcde], ⟨[], _, rfl, rfl⟩, rfl⟩
  · rintro k w env st Qb hw ⟨ds, cur, op, x7, x8, rfl, hcur, hl, hdoc, hall, ⟨a, x, ha, hop⟩, rfl⟩ hnx _ _ _
    obtain ⟨hk, rfl⟩ := rints_get hw
    refine ⟨rfl, _, rfl, ?_⟩
    obtain ⟨w1, ⟨dr, hdr, rfl⟩, e1⟩ := hd (cell ns (s + k)) 5 (by decide)
    have c1 : ∀ st, callP false (L.fn "_law_draws") [.int (cell ns (s + k)), .int 5] st = .ok (.lst (dr.map .int)) st := fun st => callP_free rfl e1
    obtain ⟨w2, ⟨l, hlo, rfl⟩, e2⟩ := hn dr hdr cur hcur calm
    have c2 : ∀ st, callP false (L.fn "_law_line") [.lst (dr.map .int), .int cur, .bl calm] st = .ok (vLn l) st := fun st => callP_free (by simp [frees_map (f := Va.int) fun _ => rfl]) e2
    simp -implicitDefEqProofs [mVar, hc2, c1, c2, mkT, sizeLine]
    refine wp_cut (fun e st => st = [some (.lst (ds.map vLn))] ∧ ∃ l : Ln, LnOk l ∧ (l.isI = true → x.isP = false) ∧ e = [some (.scr (ns.map .int)), some (.int s), some (.int n), some (.bl calm), some (.ref 0), some (.int cur), some (.bl op), some (.int (k : Nat)), some (vLn l)]) (fun R h _ _ _ => ?_) ?_
    · cases op with
      | true =>
        have hxp : x.isP = false := by simpa using hop.symm
        simp -implicitDefEqProofs
        exact h _ _ ⟨rfl, l, hlo, fun _ => hxp, by simp⟩
      | false =>
        obtain ⟨c, hcm, e⟩ := pick_sg abcde (cell ns (s + k)) 5 5 rfl (by decide) rfl (by decide)
        have e' : ∀ st, ixV (.str [97, 98, 99, 100, 101]) (.int ((cell ns (s + k)).fmod 5)) st = .ok (.str [c]) st := e
        cases l with
        | hd m =>
          simp -implicitDefEqProofs [vLn, headT, inV_tup, mVar]
          exact h _ _ ⟨rfl, .hd m, hlo, fun z => by simp [Ln.isI] at z, by simp [vLn, headT]⟩
        | pr m =>
          simp -implicitDefEqProofs [vLn, proseT, inV_tup, mVar]
          exact h _ _ ⟨rfl, .pr m, hlo, fun z => by simp [Ln.isI] at z, by simp [vLn, proseT]⟩
        | us i m =>
          simp -implicitDefEqProofs [vLn, useT, inV_tup, mVar, hc2, modV_int, e', mkT, sizeLine]
          exact h _ _ ⟨rfl, .hd [c], ⟨c, hcm, rfl⟩, fun z => by simp [Ln.isI] at z, by simp [vLn, headT]⟩
        | co m =>
          simp -implicitDefEqProofs [vLn, codeT, inV_tup, mVar, hc2, modV_int, e', mkT, sizeLine]
          exact h _ _ ⟨rfl, .hd [c], ⟨c, hcm, rfl⟩, fun z => by simp [Ln.isI] at z, by simp [vLn, headT]⟩
    · rintro e st ⟨rfl, l, hlo, hli, rfl⟩
      have hdoc' := doc_snoc hdoc ha hli
      have fin : ∀ cur' : Nat, cur' < 5 → Qb.nx [some (.scr (ns.map .int)), some (.int s), some (.int n), some (.bl calm), some (.ref 0), some (.int cur'), some (.bl (!l.isP)), some (.int (k : Nat)), some (vLn l)] [some (.lst ((ds ++ [l]).map vLn))] := fun cur' hc' => hnx _ _ ⟨ds ++ [l], cur', _, _, _, rfl, hc', by simp [hl], hdoc', fun x hx => (List.mem_append.mp hx).elim (hall x) fun z => by rw [List.mem_singleton.mp z]; exact hlo, ⟨ds, l, rfl, rfl⟩, rfl⟩
      have hap : ∀ v, appendV (.ref 0) [v] [some (.lst (ds.map vLn))] = .ok .non [some (.lst (ds.map vLn ++ [v]))] := fun v => append0 (by simp [sizeLine]; omega)
      cases l with
      | hd m =>
        have hlo2 := hlo
        obtain ⟨c, hcm, rfl⟩ := hlo2
        obtain ⟨q, hq, eq⟩ := find5 c hcm
        have ef : ∀ st, findV (.str [97, 98, 99, 100, 101]) [.str [c]] st = .ok (.int q) st := fun st => by
          rw [← eq]
          exact findV_str _ _ _
        have := fin q hq
        simp -implicitDefEqProofs [Ln.isP, vLn, headT] at this
        simp -implicitDefEqProofs [vLn, headT, mVar, ef, tyB, lstOf, hap]
        exact this
      | pr m =>
        have := fin cur hcur
        simp -implicitDefEqProofs [Ln.isP, vLn, proseT] at this
        simp -implicitDefEqProofs [vLn, proseT, mVar, tyB, lstOf, hap]
        exact this
      | us i m =>
        have := fin cur hcur
        simp -implicitDefEqProofs [Ln.isP, vLn, useT] at this
        simp -implicitDefEqProofs [vLn, useT, mVar, tyB, lstOf, hap]
        exact this
      | co m =>
        have := fin cur hcur
        simp -implicitDefEqProofs [Ln.isP, vLn, codeT] at this
        simp -implicitDefEqProofs [vLn, codeT, mVar, tyB, lstOf, hap]
        exact this
  · rintro env st ⟨ds, cur, op, x7, x8, rfl, hcur, hl, hdoc, hall, _, rfl⟩
    refine ⟨rfl, ?_⟩
    simp -implicitDefEqProofs [mVar]
    rw [tupleV_lst rfl, mkT_val (by simp [sizeLine] at hl ⊢; omega)]
    simp -implicitDefEqProofs
    exact hr _ _ _ ⟨ds, hdoc, by simpa using hl, hall, rfl⟩ (ret_free (by rw [free_tup]; exact frees_map free_vLn))
end TG

set_option Elab.async false
set_option linter.all false
set_option maxRecDepth 100000
set_option maxHeartbeats 8000000
namespace TG
open PySem PySem.Spec PyProof.Rows L2 G C D
def isOwn (d : List Ln) (a : Int) : Bool := decide (0 ≤ a) && ((d[a.toNat]?).map Ln.isI).getD false
theorem isown_ok {L : Lm} {d : List Ln} (a : Int) : runD L D__law_is_own [.tup (d.map vLn), .int a] = .ok (.bl (isOwn d a)) [] := by
  refine runD_of (fun w _ => w = .bl (isOwn d a)) [some (.tup (d.map vLn)), some (.int a)] rfl rfl (fun v s h => by rw [h]; exact ret_free rfl) fun Q hr => ?_
  simp -implicitDefEqProofs [D__law_is_own, S__law_is_own, mVar]
  by_cases h0 : 0 ≤ a
  · obtain ⟨k, rfl⟩ : ∃ k : Nat, a = k := ⟨a.toNat, by omega⟩
    cases hk : d[k]? with
    | none =>
      have : ¬ k < d.length := fun z => by rw [List.getElem?_eq_getElem z] at hk; cases hk
      have h2 : ¬ (k : Int) < (d.length : Nat) := by omega
      have e : isOwn d (k : Int) = false := by simp [isOwn, hk]
      rw [e] at hr
      simp -implicitDefEqProofs [h0, h2]
      exact hr _ _ rfl
    | some l =>
      have hlt := (List.getElem?_eq_some_iff.mp hk).1
      have h2 : (k : Int) < (d.length : Nat) := by omega
      have e : isOwn d (k : Int) = l.isI := by simp [isOwn, hk]
      rw [e] at hr
      have hix : ∀ st, ixV (.tup (d.map vLn)) (.int (k : Nat)) st = .ok (vLn l) st := fun st => ixV_int rfl (by rw [List.getElem?_map, hk]; rfl)
      simp -implicitDefEqProofs [h0, h2, mVar, hix, mkT, sizeLine]
      cases l <;> (simp -implicitDefEqProofs [vLn, headT, proseT, useT, codeT, inV_tup]; exact hr _ _ rfl)
  · have e : isOwn d a = false := by simp [isOwn, h0]
    rw [e] at hr
    simp -implicitDefEqProofs [h0]
    exact hr _ _ rfl
theorem dat_vSh (s : Shw) (n : Nat) : dat (n + 1) (vSh s) = true := by
  cases s with
  | txt l => simp [vSh, dats_map (f := Va.str) fun _ => dat_str _ _]
  | _ => simp [vSh]
def roots : List Tx := [[97], [98], [99], [100], [101]]
theorem same_run {L : Lm} {d e : List Ln} {s : Tx → Shw} (h : ∀ r ∈ roots, L.fn "_law_shown" [.tup (d.map vLn), .str r] = .ok (vSh (s r)) [] ∧ L.fn "_law_shown" [.tup (e.map vLn), .str r] = .ok (vSh (s r)) []) :
    runD L D__law_same_programs [.tup (d.map vLn), .tup (e.map vLn)] = .ok (.bl true) [] := by
  refine runD_of (fun w _ => w = .bl true) [some (.tup (d.map vLn)), some (.tup (e.map vLn)), none] rfl rfl (fun v s h => by rw [h]; exact ret_free rfl) fun Q hr => ?_
  have fd : ∀ d : List Ln, free (.tup (d.map vLn)) = true := fun d => by rw [free_tup]; exact frees_map free_vLn
  simp -implicitDefEqProofs [D__law_same_programs, S__law_same_programs, mVar, mkL, sizeLine]
  refine wp_for (fun k env st => ∃ x2, env = [some (.tup (d.map vLn)), some (.tup (e.map vLn)), x2]) ⟨_, rfl⟩ ?_ ?_
  · rintro k w env st Qb hw ⟨x2, rfl⟩ hnx _ _ _
    obtain ⟨r, hr1, rfl⟩ : ∃ r ∈ roots, w = .str r := by
      have : w ∈ roots.map Va.str := List.mem_of_getElem? hw
      obtain ⟨r, h1, h2⟩ := List.mem_map.mp this
      exact ⟨r, h1, h2.symm⟩
    obtain ⟨h1, h2⟩ := h r hr1
    have c1 : ∀ st, callP false (L.fn "_law_shown") [.tup (d.map vLn), .str r] st = .ok (vSh (s r)) st := fun st => callP_free (by simp only [frees_cons, fd]; rfl) h1
    have c2 : ∀ st, callP false (L.fn "_law_shown") [.tup (e.map vLn), .str r] st = .ok (vSh (s r)) st := fun st => callP_free (by simp only [frees_cons, fd]; rfl) h2
    have q : ∀ st, G.eqV true (vSh (s r)) (vSh (s r)) st = .ok (.bl false) st := fun st => eqV_self (dat_vSh _ _)
    refine ⟨rfl, _, rfl, ?_⟩
    simp -implicitDefEqProofs [mVar, c1, c2, q]
    exact hnx _ _ ⟨_, rfl⟩
  · rintro env st ⟨x2, rfl⟩
    refine ⟨rfl, ?_⟩
    simp -implicitDefEqProofs
    exact hr _ _ rfl
end TG

set_option Elab.async false
set_option linter.all false
set_option maxRecDepth 100000
set_option maxHeartbeats 4000000
/-! sections, told from heads -/
namespace D
open PySem PySem.Spec PyProof.Rows L2 G C
def endOf (d : List Ln) (k : Nat) : Nat := k + 1 + ((d.drop (k + 1)).takeWhile Ln.isI).length
def hdAt (d : List Ln) (k : Nat) : List Sec := match d[k]? with
  | some (.hd n) => [(n, k, endOf d k)]
  | _ => []
def heads (d : List Ln) (k : Nat) : List Sec := (List.range k).flatMap (hdAt d)
theorem tw_le {α : Type} {p : α → Bool} : ∀ {l : List α} {i : Nat} {x : α}, l[i]? = some x → p x = false → (l.takeWhile p).length ≤ i
  | [], i, x, h, _ => by simp at h
  | y :: l, 0, x, h, hp => by
    cases h
    simp [hp]
  | y :: l, i + 1, x, h, hp => by
    have := tw_le (l := l) (i := i) h hp
    rw [List.takeWhile_cons]
    split
    · simp; omega
    · simp
theorem tw_ge {α : Type} {p : α → Bool} : ∀ {l : List α} {n : Nat}, (∀ j, j < n → ∃ y, l[j]? = some y ∧ p y = true) → n ≤ (l.takeWhile p).length
  | _, 0, _ => Nat.zero_le _
  | [], n + 1, h => by
    obtain ⟨y, e, _⟩ := h 0 (by omega)
    simp at e
  | y :: l, n + 1, h => by
    obtain ⟨z, e, hz⟩ := h 0 (by omega)
    cases e
    rw [List.takeWhile_cons, if_pos hz]
    have := tw_ge (l := l) (n := n) (p := p) fun j hj => h (j + 1) (by omega)
    simp
    omega
theorem end_le {d : List Ln} {h k : Nat} {x : Ln} (hk : h < k) (e : d[k]? = some x) (hx : x.isI = false) : endOf d h ≤ k := by
  unfold endOf
  have := tw_le (l := d.drop (h + 1)) (i := k - (h + 1)) (x := x) (p := Ln.isI) (by rw [List.getElem?_drop, show h + 1 + (k - (h + 1)) = k by omega]; exact e) hx
  omega
theorem end_ge {d : List Ln} {h k : Nat} (hk : h < k) (a : ∀ j, h < j → j < k → ∃ y, d[j]? = some y ∧ y.isI = true) : k ≤ endOf d h := by
  unfold endOf
  have := tw_ge (l := d.drop (h + 1)) (n := k - (h + 1)) (p := Ln.isI) fun j hj => by
    obtain ⟨y, e, q⟩ := a (h + 1 + j) (by omega) (by omega)
    exact ⟨y, by rw [List.getElem?_drop]; exact e, q⟩
  omega
theorem end_len (d : List Ln) {k : Nat} (h : k < d.length) : endOf d k ≤ d.length := by
  unfold endOf
  have := (List.takeWhile_prefix Ln.isI (l := d.drop (k + 1))).length_le
  simp at this
  omega
def clip (k : Nat) (s : Sec) : Sec := (s.1, s.2.1, min s.2.2 k)
theorem heads_succ (d : List Ln) (k : Nat) : heads d (k + 1) = heads d k ++ hdAt d k := by simp [heads, List.range_succ]
theorem heads_mem {d : List Ln} {k : Nat} {s : Sec} (h : s ∈ heads d k) : s.2.1 < k ∧ s.2.2 = endOf d s.2.1 := by
  obtain ⟨j, hj, hs⟩ := List.mem_flatMap.mp h
  have := List.mem_range.mp hj
  unfold hdAt at hs
  split at hs
  · rw [List.mem_singleton.mp hs]
    exact ⟨this, rfl⟩
  · cases hs
theorem clip_same {d : List Ln} {k : Nat} {x : Ln} (e : d[k]? = some x) (hx : x.isI = false) : (heads d k).map (clip (k + 1)) = (heads d k).map (clip k) := by
  apply List.map_congr_left
  intro s hs
  obtain ⟨h1, h2⟩ := heads_mem hs
  have := end_le h1 e hx
  unfold clip
  rw [h2, Nat.min_eq_left this, Nat.min_eq_left (by omega)]
theorem secs_heads {d : List Ln} (hd : Doc d) : ∀ k, k ≤ d.length → secsK d k = (heads d k).map (clip k) ∧ (∀ j x, k = j + 1 → d[j]? = some x → x.isP = false → ∃ L t, heads d k = L ++ [t] ∧ (∀ s ∈ L, s.2.2 ≤ t.2.1) ∧ t.2.1 < k ∧ ∀ i, t.2.1 < i → i < k → ∃ y, d[i]? = some y ∧ y.isI = true)
  | 0, _ => ⟨rfl, fun j x h => by omega⟩
  | k + 1, hk => by
    obtain ⟨i1, i2⟩ := secs_heads hd k (by omega)
    obtain ⟨x, hx⟩ : ∃ x, d[k]? = some x := ⟨_, List.getElem?_eq_getElem (by omega)⟩
    have q : secsK d (k + 1) = stepS (secsK d k) k x := by rw [secsK, hx]
    have item : x.isI = true → (∀ acc, stepS acc k x = match acc.getLast? with
        | some s => acc.dropLast ++ [(s.1, s.2.1, k + 1)]
        | none => acc) → hdAt d k = [] → secsK d (k + 1) = (heads d (k + 1)).map (clip (k + 1)) ∧ (∀ j x, k + 1 = j + 1 → d[j]? = some x → x.isP = false → ∃ L t, heads d (k + 1) = L ++ [t] ∧ (∀ s ∈ L, s.2.2 ≤ t.2.1) ∧ t.2.1 < k + 1 ∧ ∀ i, t.2.1 < i → i < k + 1 → ∃ y, d[i]? = some y ∧ y.isI = true) := fun hi hst hh => by
      cases k with
      | zero =>
        obtain ⟨n, e⟩ := hd.h0
        rw [e] at hx
        cases hx
        simp [Ln.isI] at hi
      | succ k =>
        obtain ⟨y, hy⟩ : ∃ y, d[k]? = some y := ⟨_, List.getElem?_eq_getElem (by omega)⟩
        obtain ⟨L, t, e1, e2, e3, e4⟩ := i2 k y rfl hy (hd.hI k y x hy hx hi)
        have e5 : ∀ i, t.2.1 < i → i < k + 1 + 1 → ∃ y, d[i]? = some y ∧ y.isI = true := fun i h1 h2 => by
          by_cases h : i = k + 1
          · subst h; exact ⟨x, hx, hi⟩
          · exact e4 i h1 (by omega)
        have ht := heads_mem (d := d) (k := k + 1) (s := t) (by rw [e1]; simp)
        have hge := end_ge (d := d) (h := t.2.1) (k := k + 1 + 1) (by omega) e5
        rw [heads_succ, hh, List.append_nil]
        refine ⟨?_, fun j x _ _ _ => ⟨L, t, e1, e2, by omega, e5⟩⟩
        rw [q, hst, i1, e1]
        simp only [List.map_append, List.map_cons, List.map_nil, List.getLast?_append, List.getLast?_singleton, List.dropLast_concat]
        simp only [Option.some_or]
        congr 1
        · apply List.map_congr_left
          intro s hs
          have := e2 s hs
          unfold clip
          rw [Nat.min_eq_left (by omega), Nat.min_eq_left (by omega)]
        · simp only [clip, ht.2]
          rw [Nat.min_eq_right hge]
    cases x with
    | hd n =>
      have hh : hdAt d k = [(n, k, endOf d k)] := by simp [hdAt, hx]
      have hge : k + 1 ≤ endOf d k := by unfold endOf; omega
      rw [heads_succ, hh]
      refine ⟨?_, fun j x h1 h2 _ => ⟨heads d k, _, rfl, fun s hs => ?_, by simp, fun i h3 h4 => by simp at h3; omega⟩⟩
      · rw [q, List.map_append, clip_same hx rfl, ← i1]
        simp only [stepS, List.map_cons, List.map_nil, clip]
        rw [Nat.min_eq_right hge]
      · obtain ⟨h5, h6⟩ := heads_mem hs
        rw [h6]
        exact end_le h5 hx rfl
    | pr t =>
      have hh : hdAt d k = [] := by simp [hdAt, hx]
      rw [heads_succ, hh, List.append_nil]
      refine ⟨by rw [q, clip_same hx rfl, ← i1]; rfl, fun j x h1 h2 h3 => ?_⟩
      have : j = k := by omega
      subst this
      rw [hx] at h2
      cases h2
      simp [Ln.isP] at h3
    | us i n => exact item rfl (fun acc => rfl) (by simp [hdAt, hx])
    | co t => exact item rfl (fun acc => rfl) (by simp [hdAt, hx])
theorem secs_eq {d : List Ln} (hd : Doc d) : secs d = heads d d.length := by
  unfold secs
  rw [(secs_heads hd d.length (Nat.le_refl _)).1]
  conv => rhs; rw [← List.map_id (heads d d.length)]
  apply List.map_congr_left
  intro s hs
  obtain ⟨h1, h2⟩ := heads_mem hs
  have := end_len d h1
  unfold clip
  rw [h2, Nat.min_eq_left this, ← h2]
  rfl
end D

set_option Elab.async false
set_option linter.all false
set_option maxRecDepth 100000
set_option maxHeartbeats 8000000
/-! what the sections of a document hold, no index in sight -/
namespace TG
open PySem PySem.Spec PyProof.Rows L2 G C D
abbrev Bd := List (Tx × List Ln)
def pre : List Ln → List Ln
  | [] => []
  | .hd _ :: _ => []
  | .pr _ :: r => pre r
  | x :: r => x :: pre r
def bd : List Ln → Bd
  | [] => []
  | .hd n :: r => (n, pre r) :: bd r
  | _ :: r => bd r
def addL {α : Type} : List (Tx × List α) → List α → List (Tx × List α)
  | [], _ => []
  | [s], h => [(s.1, s.2 ++ h)]
  | s :: t :: r, h => s :: addL (t :: r) h
theorem addL_snoc {α : Type} (n : Tx) (ls h : List α) : ∀ A : List (Tx × List α), addL (A ++ [(n, ls)]) h = A ++ [(n, ls ++ h)]
  | [] => rfl
  | [s] => rfl
  | s :: t :: r => by
    show s :: addL ((t :: r) ++ [(n, ls)]) h = _
    rw [addL_snoc n ls h (t :: r)]
    rfl
theorem addL_nil {α : Type} : ∀ A : List (Tx × List α), addL A [] = A
  | [] => rfl
  | [s] => by simp [addL]
  | s :: t :: r => by
    show s :: addL (t :: r) [] = _
    rw [addL_nil (t :: r)]
theorem addL_map {α β : Type} (f : α → β) (h : List α) : ∀ A : List (Tx × List α), (addL A h).map (fun s => (s.1, s.2.map f)) = addL (A.map fun s => (s.1, s.2.map f)) (h.map f)
  | [] => rfl
  | [s] => by simp [addL]
  | s :: t :: r => by
    show _ :: (addL (t :: r) h).map _ = _ :: addL ((t :: r).map fun s => (s.1, s.2.map f)) (h.map f)
    rw [addL_map f h (t :: r)]
theorem addL_ne {α : Type} {h : List α} : ∀ {A : List (Tx × List α)}, addL A h = [] → A = []
  | [], _ => rfl
  | [s], e => by simp [addL] at e
  | s :: t :: r, e => by simp [addL] at e
theorem pre_no {b : List Ln} : ∀ {a : List Ln}, bd a = [] → pre (a ++ b) = pre a ++ pre b
  | [], _ => rfl
  | .hd n :: r, h => by simp [bd] at h
  | .pr t :: r, h => by simpa [pre] using pre_no (a := r) h
  | .us i n :: r, h => by simpa [pre] using pre_no (a := r) h
  | .co t :: r, h => by simpa [pre] using pre_no (a := r) h
theorem pre_yes {b : List Ln} : ∀ {a : List Ln}, bd a ≠ [] → pre (a ++ b) = pre a
  | [], h => (h rfl).elim
  | .hd n :: r, h => rfl
  | .pr t :: r, h => by simpa [pre] using pre_yes (a := r) h
  | .us i n :: r, h => by simpa [pre] using pre_yes (a := r) h
  | .co t :: r, h => by simpa [pre] using pre_yes (a := r) h
theorem bd_app (b : List Ln) : ∀ a : List Ln, bd (a ++ b) = addL (bd a) (pre b) ++ bd b
  | [] => rfl
  | .hd n :: r => by
    show (n, pre (r ++ b)) :: bd (r ++ b) = addL ((n, pre r) :: bd r) (pre b) ++ bd b
    rw [bd_app b r]
    by_cases h : bd r = []
    · rw [pre_no h, h]
      rfl
    · rw [pre_yes h]
      cases e : bd r with
      | nil => exact absurd e h
      | cons x y => rfl
  | .pr t :: r => bd_app b r
  | .us i n :: r => bd_app b r
  | .co t :: r => bd_app b r
def ownB (B : Bd) (n : Tx) : List Ln := B.flatMap fun s => if s.1 = n then s.2 else []
def hsB (B : Bd) (n : Tx) : Prop := n ∈ B.map (·.1)
theorem bd_len : ∀ d : List Ln, (pre d).length + ((bd d).map fun s => s.2.length).sum + (bd d).length ≤ d.length
  | [] => by simp [pre, bd]
  | .hd n :: r => by
    have := bd_len r
    simp [pre, bd]
    omega
  | .pr t :: r => by
    have := bd_len r
    simp [pre, bd]
    omega
  | .us i n :: r => by
    have := bd_len r
    simp [pre, bd]
    omega
  | .co t :: r => by
    have := bd_len r
    simp [pre, bd]
    omega
theorem ownB_len (n : Tx) : ∀ B : Bd, (ownB B n).length ≤ (B.map fun s => s.2.length).sum
  | [] => by simp [ownB]
  | s :: B => by
    have := ownB_len n B
    unfold ownB at this ⊢
    rw [List.flatMap_cons, List.length_append, List.map_cons, List.sum_cons]
    by_cases h : s.1 = n
    · rw [if_pos h]; omega
    · rw [if_neg h, List.length_nil]; omega
theorem bd_mem : ∀ {d : List Ln} {x : Ln}, x ∈ pre d ∨ (∃ s ∈ bd d, x ∈ s.2) → x ∈ d ∧ x.isI = true
  | [], x, h => by simp [pre, bd] at h
  | .hd n :: r, x, h => by
    have := bd_mem (d := r) (x := x) (by
      rcases h with h | ⟨s, h1, h2⟩
      · simp [pre] at h
      · rcases List.mem_cons.mp h1 with rfl | h1
        · exact .inl h2
        · exact .inr ⟨s, h1, h2⟩)
    exact ⟨List.mem_cons_of_mem _ this.1, this.2⟩
  | .pr t :: r, x, h => by
    have := bd_mem (d := r) (x := x) h
    exact ⟨List.mem_cons_of_mem _ this.1, this.2⟩
  | .us i n :: r, x, h => by
    have h : x ∈ Ln.us i n :: pre r ∨ ∃ s ∈ bd r, x ∈ s.2 := h
    by_cases e : x = .us i n
    · subst e; exact ⟨List.mem_cons_self, rfl⟩
    · have := bd_mem (d := r) (x := x) (h.imp_left fun z => (List.mem_cons.mp z).resolve_left e)
      exact ⟨List.mem_cons_of_mem _ this.1, this.2⟩
  | .co t :: r, x, h => by
    have h : x ∈ Ln.co t :: pre r ∨ ∃ s ∈ bd r, x ∈ s.2 := h
    by_cases e : x = .co t
    · subst e; exact ⟨List.mem_cons_self, rfl⟩
    · have := bd_mem (d := r) (x := x) (h.imp_left fun z => (List.mem_cons.mp z).resolve_left e)
      exact ⟨List.mem_cons_of_mem _ this.1, this.2⟩
theorem ownB_mem {d : List Ln} {n : Tx} {x : Ln} (h : x ∈ ownB (bd d) n) : x ∈ d ∧ x.isI = true := by
  obtain ⟨s, hs, hx⟩ := List.mem_flatMap.mp h
  split at hx
  · exact bd_mem (.inr ⟨s, hs, hx⟩)
  · cases hx
theorem sec_bd {d : List Ln} (hd : Doc d) : ∀ k, k ≤ d.length → (secsK d k).map (fun s => (s.1, (lnsS s).map fun i => d[i]?)) = (bd (d.take k)).map (fun s => (s.1, s.2.map some)) ∧ (∀ s ∈ secsK d k, s.2.1 < s.2.2) ∧
    (∀ j x, k = j + 1 → d[j]? = some x → x.isP = false → ∃ A s, secsK d k = A ++ [s] ∧ s.2.2 = k)
  | 0, _ => ⟨rfl, fun s h => by simp [secsK] at h, fun j x h => by omega⟩
  | k + 1, hk => by
    obtain ⟨i1, i2, i3⟩ := sec_bd hd k (by omega)
    obtain ⟨x, hx⟩ : ∃ x, d[k]? = some x := ⟨_, List.getElem?_eq_getElem (by omega)⟩
    have ht : d.take (k + 1) = d.take k ++ [x] := by rw [List.take_succ, hx]; rfl
    have q : secsK d (k + 1) = stepS (secsK d k) k x := by rw [secsK, hx]
    have item : x.isI = true → (∀ acc, stepS acc k x = match acc.getLast? with
        | some s => acc.dropLast ++ [(s.1, s.2.1, k + 1)]
        | none => acc) → pre [x] = [x] → bd [x] = [] → (secsK d (k + 1)).map (fun s => (s.1, (lnsS s).map fun i => d[i]?)) = (bd (d.take (k + 1))).map (fun s => (s.1, s.2.map some)) ∧ (∀ s ∈ secsK d (k + 1), s.2.1 < s.2.2) ∧
        (∀ j x, k + 1 = j + 1 → d[j]? = some x → x.isP = false → ∃ A s, secsK d (k + 1) = A ++ [s] ∧ s.2.2 = k + 1) := fun hi hst hp hb => by
      cases k with
      | zero =>
        obtain ⟨n, e⟩ := hd.h0
        rw [e] at hx
        cases hx
        simp [Ln.isI] at hi
      | succ k =>
        obtain ⟨y, hy⟩ : ∃ y, d[k]? = some y := ⟨_, List.getElem?_eq_getElem (by omega)⟩
        obtain ⟨A, s, e1, e2⟩ := i3 k y rfl hy (hd.hI k y x hy hx hi)
        have hs := i2 s (by rw [e1]; simp)
        have e3 : secsK d (k + 1 + 1) = A ++ [(s.1, s.2.1, k + 1 + 1)] := by
          rw [q, hst, e1]
          simp
        have e4 : lnsS (s.1, s.2.1, k + 1 + 1) = lnsS s ++ [k + 1] := by
          unfold lnsS
          rw [e2, show k + 1 + 1 - (s.2.1 + 1) = (k + 1 - (s.2.1 + 1)) + 1 by omega, List.range_succ, List.map_append]
          congr 1
          simp
          omega
        refine ⟨?_, ?_, fun j z _ _ _ => ⟨A, _, e3, rfl⟩⟩
        · rw [ht, bd_app, hp, hb, List.append_nil, addL_map, ← i1, e1, e3, List.map_append, List.map_append, List.map_singleton, List.map_singleton, List.map_singleton, addL_snoc, e4, List.map_append]
          simp [hx]
        · rw [e3]
          intro z hz
          rcases List.mem_append.mp hz with hz | hz
          · exact i2 z (by rw [e1]; exact List.mem_append_left _ hz)
          · rw [List.mem_singleton.mp hz]
            simp
            omega
    cases x with
    | hd n =>
      refine ⟨?_, ?_, fun j x _ _ _ => ⟨secsK d k, _, q, rfl⟩⟩
      · rw [q, ht, bd_app]
        show ((secsK d k) ++ [(n, k, k + 1)]).map _ = _
        rw [List.map_append, i1]
        have e : pre [Ln.hd n] = [] := rfl
        rw [e, addL_nil, List.map_append]
        simp [lnsS, bd, pre]
      · rw [q]
        intro z hz
        rcases List.mem_append.mp hz with hz | hz
        · exact i2 z hz
        · rw [List.mem_singleton.mp hz]
          simp
    | pr t =>
      refine ⟨?_, ?_, fun j x h1 h2 h3 => ?_⟩
      · rw [q, ht, bd_app]
        have e : pre [Ln.pr t] = [] := rfl
        have e2 : bd [Ln.pr t] = [] := rfl
        rw [e, e2, addL_nil, List.append_nil]
        exact i1
      · rw [q]
        exact i2
      · have : j = k := by omega
        subst this
        rw [hx] at h2
        cases h2
        simp [Ln.isP] at h3
    | us i n => exact item rfl (fun acc => rfl) rfl rfl
    | co t => exact item rfl (fun acc => rfl) rfl rfl
theorem secs_bd {d : List Ln} (hd : Doc d) : (secs d).map (fun s => (s.1, (lnsS s).map fun i => d[i]?)) = (bd d).map (fun s => (s.1, s.2.map some)) := by
  have := (sec_bd hd d.length (Nat.le_refl _)).1
  rwa [List.take_length] at this
theorem con_bd {d : List Ln} (hd : Doc d) : Con (hsB (bd d)) (ownB (bd d)) d := by
  have e := secs_bd hd
  refine ⟨fun n => ?_, fun n => ?_⟩
  · have e2 : (secs d).map (·.1) = (bd d).map (·.1) := by
      have := congrArg (List.map (·.1)) e
      rw [List.map_map, List.map_map] at this
      exact this
    rw [names_mem]
    unfold hsB
    rw [← e2, List.mem_map]
  · have h1 : (lnsOf (secs d) n).map (fun i => d[i]?) = ((secs d).map (fun s => (s.1, (lnsS s).map fun i => d[i]?))).flatMap fun p => if p.1 = n then p.2 else [] := by
      unfold lnsOf
      rw [List.map_flatMap, List.flatMap_map]
      congr 1
      funext s
      simp only
      split <;> simp
    rw [h1, e]
    unfold ownB
    rw [List.map_flatMap, List.flatMap_map]
    congr 1
    funext s
    simp only
    split <;> simp
theorem isI_LnI {l : Ln} (h : l.isI = true) (h2 : ∀ i n, l = .us i n → 0 ≤ i) : LnI l := by
  cases l with
  | us i n => exact h2 i n rfl
  | co t => trivial
  | hd n => simp [Ln.isI] at h
  | pr n => simp [Ln.isI] at h
theorem Con.congr {hs hs' : Tx → Prop} {own own' : Tx → List Ln} {d : List Ln} (c : Con hs own d) (h1 : ∀ n, hs n ↔ hs' n) (h2 : ∀ n, own n = own' n) : Con hs' own' d := ⟨fun n => (h1 n).symm.trans (c.hs n), fun n => by rw [← h2]; exact c.own n⟩
/-- documents of one content: one value for each root -/
theorem shown_same {d e : List Ln} {J : Nat} {Lf : Nat → Lm} (F : Fam Lf) (hJ : J ≤ 16) (Dd : DOk J d) (De : DOk J e) (hl : d.length ≤ 40) (hn : ∀ (i : Nat) (j : Int) (n : Tx), d[i]? = some (.us j n) → 0 ≤ j)
    (h1 : ∀ n, hsB (bd d) n ↔ hsB (bd e) n) (h2 : ∀ n, ownB (bd d) n = ownB (bd e) n) (root : Tx) (hr : root.length ≤ 1000) :
    ∃ s : Shw, ∀ n, (Lf (n + 5)).fn "_law_shown" [.tup (d.map vLn), .str root] = .ok (vSh s) [] ∧ (Lf (n + 5)).fn "_law_shown" [.tup (e.map vLn), .str root] = .ok (vSh s) [] := by
  have hb := bd_len d
  obtain ⟨s, hs⟩ := shown_ex (hs := hsB (bd d)) (own := ownB (bd d)) (names := (bd d).map Prod.fst) (M := d.length) (J := J) (fun n h => h) (by rw [List.length_map]; omega) (fun n => by have := ownB_len n (bd d); omega) hl
    (fun n l hl => by
      obtain ⟨h1, h2⟩ := ownB_mem hl
      obtain ⟨i, hi⟩ := List.getElem?_of_mem h1
      exact isI_LnI h2 fun j m e => hn i j m (by rw [hi, e])) hJ root hr
  exact ⟨s, fun n => ⟨hs d Lf F Dd (con_bd Dd.doc) n, hs e Lf F De ((con_bd De.doc).congr (fun n => (h1 n).symm) fun n => (h2 n).symm) n⟩⟩
theorem same_progs {d e : List Ln} {J : Nat} {Lf : Nat → Lm} (F : Fam Lf) (hJ : J ≤ 16) (Dd : DOk J d) (De : DOk J e) (hl : d.length ≤ 40) (hn : ∀ (i : Nat) (j : Int) (n : Tx), d[i]? = some (.us j n) → 0 ≤ j)
    (h1 : ∀ n, hsB (bd d) n ↔ hsB (bd e) n) (h2 : ∀ n, ownB (bd d) n = ownB (bd e) n) (n : Nat) :
    runD (Lf (n + 5)) D__law_same_programs [.tup (d.map vLn), .tup (e.map vLn)] = .ok (.bl true) [] := by
  have := fun r : {r : Tx // r ∈ roots} => shown_same F hJ Dd De hl hn h1 h2 r.1 (by
    obtain ⟨r, h⟩ := r
    simp only [roots, List.mem_cons, List.not_mem_nil, or_false] at h
    rcases h with rfl | rfl | rfl | rfl | rfl <;> simp)
  obtain ⟨s, hs⟩ := Classical.axiomOfChoice this
  refine same_run (s := fun r => if h : r ∈ roots then s ⟨r, h⟩ else .none) fun r h => ?_
  have e : (if h : r ∈ roots then s ⟨r, h⟩ else .none) = s ⟨r, h⟩ := dif_pos h
  rw [e]
  exact hs ⟨r, h⟩ n
end TG

set_option Elab.async false
set_option linter.all false
set_option maxRecDepth 100000
set_option maxHeartbeats 8000000
namespace N
open PySem PySem.Spec PyProof.Rows L2 G C
def S_is_name_sign : S :=
  (.seq (.ret (.or (.cons (.mth .isalnum (.var 0) .nil) (.cons (.cmp .in_ (.var 0) (.glob "NAME_SIGNS")) .nil))))
  .nil)
def D_is_name_sign : Df := ⟨["sign"], 1, S_is_name_sign⟩
def S_is_name : S :=
  (.seq (.ret (.and (.cons (.cmp2 .le .le (.int 1) (.bif .len false (.cons (.var 0) .nil)) (.glob "NAME_MOST")) (.cons (.allS "is_name_sign" [45, 95, 46] (.var 0)) .nil))))
  .nil)
def D_is_name : Df := ⟨["text", "sign"], 1, S_is_name⟩
def S_use_of : S :=
  (.seq (.set (.inl 1) (.mth .lstrip (.var 0) (.cons (.str [32]) .nil)))
  (.seq (.sif (.and (.cons (.cmp .eq (.sl false (.var 1) .nil (.int 1)) (.str [60])) (.cons (.cmp .eq (.sl false (.var 1) (.neg (.int 1)) .nil) (.str [62])) (.cons (.call "is_name" false (.cons (.sl false (.var 1) (.int 1) (.neg (.int 1))) .nil)) .nil))))
  (.seq (.ret (.tup (.cons (.str [117, 115, 101]) (.cons (.bin .sub false (.bif .len false (.cons (.var 0) .nil)) (.bif .len false (.cons (.var 1) .nil))) (.cons (.sl false (.var 1) (.int 1) (.neg (.int 1))) .nil)))))
  .nil)
  .nil)
  (.seq (.ret .non)
  .nil)))
def D_use_of : Df := ⟨["text", "rest"], 1, S_use_of⟩
def S_is_code : S :=
  (.seq (.ret (.and (.cons (.cmp .notIn (.str [10]) (.var 0)) (.cons (.cmp .is_ (.call "use_of" false (.cons (.var 0) .nil)) .non) .nil))))
  .nil)
def D_is_code : Df := ⟨["text"], 1, S_is_code⟩
def S_is_prose : S :=
  (.seq (.ret (.and (.cons (.cmp .notIn (.str [10]) (.var 0)) (.cons (.cmp .ne (.sl false (.var 0) .nil (.int 1)) (.str [61])) (.cons (.cmp .ne (.sl false (.var 0) .nil (.int 1)) (.str [124])) .nil)))))
  .nil)
def D_is_prose : Df := ⟨["text"], 1, S_is_prose⟩

/-! ### what texts are -/
def dashes : Tx := [45, 95, 46]
def nameP (t : Tx) : Bool := decide (1 ≤ t.length ∧ t.length ≤ 20) && t.all (sgV dashes)
def bare (t : Tx) : Tx := t.dropWhile (· == 32)
def inner (r : Tx) : Tx := cut r (some 1) (some (-1))
def useP (t : Tx) : Bool := decide (cut (bare t) none (some 1) = [60]) && (decide (cut (bare t) (some (-1)) none = [62]) && nameP (inner (bare t)))
theorem drop_while (p : Nat → Bool) : ∀ a : Tx, a.drop (a.takeWhile p).length = a.dropWhile p
  | [] => rfl
  | c :: a => by
    rw [List.takeWhile_cons, List.dropWhile_cons]
    cases p c with
    | true => simpa using drop_while p a
    | false => rfl
theorem strip_left (p : Nat → Bool) (a : Tx) : Txt.stripBy p true false (mkS a) = mkS (a.dropWhile p) := by
  have e1 : stripLo p true (mkS a) = (a.takeWhile p).length := by unfold stripLo; rw [if_pos rfl, tl_mkS]
  have e2 : ∀ n, stripHi p false (mkS a) n = a.length := fun n => by unfold stripHi; rw [if_neg Bool.false_ne_true, mkS_len]
  unfold Txt.stripBy stripSame stripped
  rw [e1, e2]
  split
  · rename_i h
    simp only [Bool.and_eq_true, beq_iff_eq] at h
    rw [← drop_while p a, h.1]
    rfl
  · apply TL.ext_tl
    show ((mkS a).cps.extract _ _).toList = (mkS (a.dropWhile p)).cps.toList
    rw [tl_mkS, ← drop_while p a]
    simp [mkS]
    exact List.take_of_length_le (by rw [List.length_drop]; exact Nat.le_refl _)
theorem lstrip_run (t : Tx) (ht : t.length ≤ sizeLine) (st : Sto) : lstripV (.str t) [.str [32]] st = .ok (.str (bare t)) st := by
  have e : Txt.lstripChars (mkS t) (mkS [32]) = mkS (bare t) := by
    unfold Txt.lstripChars bare
    rw [strip_left]
    congr 2
    funext c
    simp [mkS, Bool.beq_eq_decide_eq]
  simp [lstripV, tt1, ht, e, tl_mkS]
theorem bare_len (t : Tx) : (bare t).length ≤ t.length := by
  unfold bare
  exact (List.dropWhile_suffix _).length_le
theorem bare_sub {t : Tx} {c : Nat} (h : c ∈ bare t) : c ∈ t := (List.dropWhile_suffix _).subset h
theorem cut_sub {α : Type} {l : List α} {lo hi : Option Int} {c : α} (h : c ∈ cut l lo hi) : c ∈ l := List.mem_of_mem_drop (List.mem_of_mem_take h)
theorem cut_len {α : Type} (l : List α) (lo hi : Option Int) : (cut l lo hi).length ≤ l.length := by
  unfold cut
  rw [List.length_take, List.length_drop]
  omega
theorem slice_str {m : Bool} {z : Tx} {lo hi : Option Int} {st : Sto} (h : z.length ≤ sizeLine) : sliceV m (.str z) lo hi st = .ok (.str (cut z lo hi)) st := by simp [sliceV, h]
theorem in_sign (neg : Bool) (c : Nat) (z : Tx) (st : Sto) : inV' neg (.str [c]) (.str z) st = .ok (.bl (if neg then !decide (c ∈ z) else decide (c ∈ z))) st := by simp [inV']
theorem name_run {L : Lm} (hg : L.gl "NAME_MOST" = some (.int 20)) (t : Tx) (ht : t.length ≤ 1000) : runD L D_is_name [.str t] = .ok (.bl (nameP t)) [] := by
  have hs : t.length ≤ sizeLine := by simp [sizeLine]; omega
  refine runD_of (fun v s => v = .bl (nameP t)) [some (.str t), none] rfl rfl (fun v s h => by rw [h]; exact ret_free rfl) fun Q hr => ?_
  simp -implicitDefEqProofs [D_is_name, S_is_name, mVar, hg, lenV_str hs]
  by_cases h1 : (1 : Int) ≤ (t.length : Int)
  · by_cases h2 : (t.length : Int) ≤ 20
    · simp -implicitDefEqProofs [h1, h2]
      refine hr _ _ ?_
      unfold nameP dashes
      rw [show decide (1 ≤ t.length ∧ t.length ≤ 20) = true from decide_eq_true (by omega)]
      rfl
    · simp -implicitDefEqProofs [h1, h2]
      refine hr _ _ ?_
      unfold nameP
      rw [show decide (1 ≤ t.length ∧ t.length ≤ 20) = false from decide_eq_false (by omega)]
      rfl
  · simp -implicitDefEqProofs [h1]
    refine hr _ _ ?_
    unfold nameP
    rw [show decide (1 ≤ t.length ∧ t.length ≤ 20) = false from decide_eq_false (by omega)]
    rfl
def useT : Tx := [117, 115, 101]
def vUse (t : Tx) : Va := if useP t then .tup [.str useT, .int ((t.length : Int) - ((bare t).length : Int)), .str (inner (bare t))] else .non
theorem vUse_free (t : Tx) : free (vUse t) = true := by unfold vUse; split <;> rfl
theorem use_run {L : Lm} (t : Tx) (ht : t.length ≤ 1000) (hn : ∀ x : Tx, x.length ≤ 1000 → L.fn "is_name" [.str x] = .ok (.bl (nameP x)) []) : runD L D_use_of [.str t] = .ok (vUse t) [] := by
  have hs : t.length ≤ sizeLine := by simp [sizeLine]; omega
  have hb := bare_len t
  have hbs : (bare t).length ≤ sizeLine := by omega
  have hi : (inner (bare t)).length ≤ 1000 := Nat.le_trans (cut_len _ _ _) (by omega)
  refine runD_of (fun v s => v = vUse t) [some (.str t), none] rfl rfl (fun v s h => by rw [h]; exact ret_free (vUse_free t)) fun Q hr => ?_
  have hc : ∀ s, callP false (L.fn "is_name") [.str (cut (bare t) (some 1) (some (-1)))] s = .ok (.bl (nameP (inner (bare t)))) s := fun s => callP_free rfl (hn _ hi)
  have hv : vUse t = if useP t then .tup [.str useT, .int ((t.length : Int) - ((bare t).length : Int)), .str (inner (bare t))] else .non := rfl
  simp -implicitDefEqProofs [D_use_of, S_use_of, mVar, lenV_str hs, lenV_str hbs, lstrip_run t hs, slice_str hbs, mPart, hc]
  by_cases h1 : cut (bare t) none (some 1) = [60]
  · by_cases h2 : cut (bare t) (some (-1)) none = [62]
    · cases h3 : nameP (inner (bare t)) with
      | true =>
        simp -implicitDefEqProofs [h1, h2, mVar, lenV_str hs, lenV_str hbs, slice_str hbs, mPart, mkT, sizeLine]
        refine hr _ _ ?_
        rw [hv, show useP t = true by simp [useP, h1, h2, h3]]
        rfl
      | false =>
        simp -implicitDefEqProofs [h1, h2]
        refine hr _ _ ?_
        rw [hv, show useP t = false by simp [useP, h1, h2, h3]]
        rfl
    · simp -implicitDefEqProofs [h1, h2]
      refine hr _ _ ?_
      rw [hv, show useP t = false by simp [useP, h1, h2]]
      rfl
  · simp -implicitDefEqProofs [h1]
    refine hr _ _ ?_
    rw [hv, show useP t = false by simp [useP, h1]]
    rfl
def codeP (t : Tx) : Bool := !decide (10 ∈ t) && !useP t
def proseP (t : Tx) : Bool := !decide (10 ∈ t) && (!decide (cut t none (some 1) = [61]) && !decide (cut t none (some 1) = [124]))
theorem isN_use (t : Tx) (st : Sto) : isNV false (vUse t) .non st = .ok (.bl (!useP t)) st := by
  unfold vUse
  cases useP t <;> rfl
theorem code_run {L : Lm} (t : Tx) (hu : L.fn "use_of" [.str t] = .ok (vUse t) []) : runD L D_is_code [.str t] = .ok (.bl (codeP t)) [] := by
  refine runD_of (fun v s => v = .bl (codeP t)) [some (.str t)] rfl rfl (fun v s h => by rw [h]; exact ret_free rfl) fun Q hr => ?_
  have hc : ∀ s, callP false (L.fn "use_of") [.str t] s = .ok (vUse t) s := fun s => callP_free rfl hu
  simp -implicitDefEqProofs [D_is_code, S_is_code, mVar, in_sign, hc, isN_use]
  by_cases h : 10 ∈ t
  · simp -implicitDefEqProofs [h]
    exact hr _ _ (by simp [codeP, h])
  · simp -implicitDefEqProofs [h]
    refine hr _ _ ?_
    have e : G.isNon (vUse t) = !useP t := by
      unfold vUse
      cases useP t <;> rfl
    rw [e]
    simp [codeP, h]
theorem prose_run {L : Lm} (t : Tx) (ht : t.length ≤ sizeLine) : runD L D_is_prose [.str t] = .ok (.bl (proseP t)) [] := by
  refine runD_of (fun v s => v = .bl (proseP t)) [some (.str t)] rfl rfl (fun v s h => by rw [h]; exact ret_free rfl) fun Q hr => ?_
  simp -implicitDefEqProofs [D_is_prose, S_is_prose, mVar, in_sign, slice_str ht, mPart]
  by_cases h : 10 ∈ t
  · simp -implicitDefEqProofs [h]
    exact hr _ _ (by simp [proseP, h])
  · by_cases h1 : cut t none (some 1) = [61]
    · simp -implicitDefEqProofs [h, h1]
      exact hr _ _ (by simp [proseP, h, h1])
    · simp -implicitDefEqProofs [h, h1]
      exact hr _ _ (by simp [proseP, h, h1])
theorem ixS_pick {z : Tx} {i j : Int} {n : Nat} (hl : z.length = n) (hn : 0 < n) (hz : n ≤ 1000) (hj : j = (n : Nat)) : ∃ c, c ∈ z ∧ ∀ st, ixV (.str z) (.int (i.fmod j)) st = .ok (.str [c]) st := by
  subst hj
  obtain ⟨k, hk, e⟩ := fmod_at i hn
  obtain ⟨w, hw⟩ : ∃ w, z[k]? = some w := ⟨_, List.getElem?_eq_getElem (by omega)⟩
  exact ⟨w, List.mem_of_getElem? hw, fun st => ixV_str (by simp [sizeLine]; omega) hw e⟩
theorem strsOf_map : ∀ zs : List Tx, strsOf (zs.map Va.str) = some zs
  | [] => rfl
  | z :: zs => by
    have h := strsOf_map zs
    unfold strsOf at h ⊢
    rw [List.map_cons]
    unfold mapO
    rw [h]
    rfl
theorem joinL_signs : ∀ l : Tx, TL.joinL [] (l.map fun c => [c]) = l
  | [] => rfl
  | [c] => rfl
  | c :: d :: l => by
    have h := joinL_signs (d :: l)
    show [c] ++ ([] ++ TL.joinL [] ((d :: l).map fun c => [c])) = _
    rw [h]
    rfl
theorem join_lst {a : Tx} {zs : List Tx} {st : Sto} (h : (zs.map (·.length)).sum + zs.length * a.length ≤ 16777216) : joinV (.str a) [.lst (zs.map .str)] st = .ok (.str (TL.joinL a zs)) st := by
  have e := strsOf_map zs
  simp only [joinV, strOf_str, seqOf, lstOf, tupOf, e]
  simp [h]
theorem sum_signs (l : Tx) : ((l.map fun c => [c]).map (·.length)).sum = l.length := by
  rw [List.map_map]
  induction l with
  | nil => rfl
  | cons c l ih => simp at ih ⊢; omega
theorem join_signs {l : Tx} {st : Sto} (h : l.length ≤ 1000) : joinV (.str []) [.lst (l.map fun c => .str [c])] st = .ok (.str l) st := by
  have e : (l.map fun c => Va.str [c]) = (l.map fun c => [c]).map Va.str := by rw [List.map_map]; rfl
  rw [e, join_lst (by rw [sum_signs]; simp; omega), joinL_signs]
theorem mul_str {m : Bool} {z : Tx} {k : Nat} {st : Sto} (hz : z.length ≤ 100) (hk : k ≤ 1000) : mulV m (.str z) (.int (k : Nat)) st = .ok (.str (List.replicate k z).flatten) st := by
  have h1 : i63 (k : Int) = true := by unfold i63; exact decide_eq_true ⟨by omega, by omega⟩
  have h2 : z.length * k ≤ 100 * 1000 := Nat.mul_le_mul hz hk
  have h3 : z.length * k ≤ sizeLine := by unfold sizeLine; omega
  simp [mulV, h1, h3]
end N

set_option Elab.async false
set_option linter.all false
set_option maxRecDepth 100000
set_option maxHeartbeats 8000000
namespace N
open PySem PySem.Spec PyProof.Rows L2 G C D
def S_head_fault : S :=
  (.seq (.sif (.cmp .ne (.sl false (.var 0) (.int 1) (.int 2)) (.str [32]))
  (.seq (.ret (.tup (.cons (.int 2) (.cons (.str [115, 112, 97, 99, 101, 32, 105, 115, 32, 101, 120, 112, 101, 99, 116, 101, 100]) .nil))))
  .nil)
  .nil)
  (.seq (.set (.inl 1) (.sl false (.var 0) (.int 2) .nil))
  (.seq (.sif (.cmp .eq (.var 1) (.str []))
  (.seq (.ret (.tup (.cons (.int 3) (.cons (.str [110, 97, 109, 101, 32, 105, 115, 32, 101, 120, 112, 101, 99, 116, 101, 100]) .nil))))
  .nil)
  .nil)
  (.seq (.sfor (.inr [2, 3]) (.ienum (.cons (.var 1) .nil))
  (.seq (.sif (.not (.call "is_name_sign" false (.cons (.var 3) .nil)))
  (.seq (.ret (.tup (.cons (.bin .add false (.var 2) (.int 3)) (.cons (.str [99, 104, 97, 114, 97, 99, 116, 101, 114, 32, 99, 97, 110, 110, 111, 116, 32, 98, 101, 32, 105, 110, 32, 97, 32, 110, 97, 109, 101]) .nil))))
  .nil)
  .nil)
  (.seq (.sif (.cmp .eq (.var 2) (.glob "NAME_MOST"))
  (.seq (.ret (.tup (.cons (.bin .add false (.var 2) (.int 3)) (.cons (.str [110, 97, 109, 101, 32, 105, 115, 32, 108, 111, 110, 103, 101, 114, 32, 116, 104, 97, 110, 32, 50, 48]) .nil))))
  .nil)
  .nil)
  .nil)))
  (.seq (.ret .non)
  .nil)))))
def D_head_fault : Df := ⟨["text", "name", "at", "sign"], 1, S_head_fault⟩
def S_read_line : S :=
  (.seq (.sif (.cmp .eq (.sl false (.var 0) .nil (.int 1)) (.str [61]))
  (.seq (.ret (.tup (.cons (.str [104, 101, 97, 100]) (.cons (.sl false (.var 0) (.int 2) .nil) .nil))))
  .nil)
  .nil)
  (.seq (.sif (.cmp .ne (.sl false (.var 0) .nil (.int 1)) (.str [124]))
  (.seq (.ret (.tup (.cons (.str [112, 114, 111, 115, 101]) (.cons (.var 0) .nil))))
  .nil)
  .nil)
  (.seq (.set (.inl 1) (.call "use_of" false (.cons (.sl false (.var 0) (.int 1) .nil) .nil)))
  (.seq (.sif (.cmp .isNot (.var 1) .non)
  (.seq (.ret (.var 1))
  .nil)
  .nil)
  (.seq (.ret (.tup (.cons (.str [99, 111, 100, 101]) (.cons (.sl false (.var 0) (.int 1) .nil) .nil))))
  .nil)))))
def D_read_line : Df := ⟨["text", "use"], 1, S_read_line⟩
def S_read : S :=
  (.seq (.set (.inl 1) (.lst true .nil))
  (.seq (.set (.inl 2) (.bl false))
  (.seq (.sfor (.inr [3, 4]) (.ienum (.cons (.mth .split (.var 0) (.cons (.str [10]) .nil)) .nil))
  (.seq (.sif (.cmp .eq (.sl false (.var 4) .nil (.int 1)) (.str [61]))
  (.seq (.set (.inl 5) (.call "head_fault" false (.cons (.var 4) .nil)))
  (.seq (.sif (.cmp .isNot (.var 5) .non)
  (.seq (.raisI "BadDocument" (.cons (.bin .add false (.var 3) (.int 1)) (.cons (.ix (.var 5) (.int 0)) (.cons (.ix (.var 5) (.int 1)) .nil))))
  .nil)
  .nil)
  (.seq (.set (.inl 2) (.bl true))
  .nil)))
  (.seq (.sif (.cmp .ne (.sl false (.var 4) .nil (.int 1)) (.str [124]))
  (.seq (.set (.inl 2) (.bl false))
  .nil)
  (.seq (.sif (.not (.var 2))
  (.seq (.raisI "BadDocument" (.cons (.bin .add false (.var 3) (.int 1)) (.cons (.int 1) (.cons (.str [99, 111, 100, 101, 32, 119, 105, 116, 104, 111, 117, 116, 32, 97, 32, 104, 101, 97, 100]) .nil))))
  .nil)
  .nil)
  .nil))
  .nil))
  (.seq (.expr (.mth .append (.var 1) (.cons (.call "read_line" false (.cons (.var 4) .nil)) .nil)))
  .nil)))
  (.seq (.ret (.bif .tuple false (.cons (.var 1) .nil)))
  .nil))))
def D_read : Df := ⟨["text", "document", "in_section", "number", "line", "fault"], 1, S_read⟩
def S_write_line : S :=
  (.seq (.sif (.cmp .eq (.ix (.var 0) (.int 0)) (.str [104, 101, 97, 100]))
  (.seq (.ret (.bin .add false (.str [61, 32]) (.ix (.var 0) (.int 1))))
  .nil)
  .nil)
  (.seq (.sif (.cmp .eq (.ix (.var 0) (.int 0)) (.str [117, 115, 101]))
  (.seq (.ret (.bin .add false (.bin .add false (.bin .add false (.bin .add false (.str [124]) (.bin .mul false (.str [32]) (.ix (.var 0) (.int 1)))) (.str [60])) (.ix (.var 0) (.int 2))) (.str [62])))
  .nil)
  .nil)
  (.seq (.sif (.cmp .eq (.ix (.var 0) (.int 0)) (.str [99, 111, 100, 101]))
  (.seq (.ret (.bin .add false (.str [124]) (.ix (.var 0) (.int 1))))
  .nil)
  .nil)
  (.seq (.ret (.ix (.var 0) (.int 1)))
  .nil))))
def D_write_line : Df := ⟨["line"], 1, S_write_line⟩
def S_write : S :=
  (.seq (.ret (.mth .join (.str [10]) (.cons (.lc false [1] (.inl 1) (.var 0) .nil (.call "write_line" false (.cons (.var 1) .nil))) .nil)))
  .nil)
def D_write : Df := ⟨["document", "line"], 1, S_write⟩
def S__law_same : S :=
  (.seq (.sif (.isi "tuple" (.var 1))
  (.seq (.sif (.or (.cons (.not (.isi "tuple" (.var 0))) (.cons (.cmp .ne (.bif .len false (.cons (.var 0) .nil)) (.bif .len false (.cons (.var 1) .nil))) .nil)))
  (.seq (.ret (.bl false))
  .nil)
  .nil)
  (.seq (.sfor (.inl 2) (.irng (.cons (.bif .len false (.cons (.var 1) .nil)) .nil))
  (.seq (.sif (.not (.call "_law_same" false (.cons (.ix (.var 0) (.var 2)) (.cons (.ix (.var 1) (.var 2)) .nil))))
  (.seq (.ret (.bl false))
  .nil)
  .nil)
  .nil))
  (.seq (.ret (.bl true))
  .nil)))
  .nil)
  (.seq (.sif (.cmp .is_ (.var 1) .non)
  (.seq (.ret (.cmp .is_ (.var 0) .non))
  .nil)
  .nil)
  (.seq (.sif (.isi "str" (.var 1))
  (.seq (.ret (.and (.cons (.isi "str" (.var 0)) (.cons (.cmp .eq (.var 0) (.var 1)) .nil))))
  .nil)
  .nil)
  (.seq (.ret (.and (.cons (.isi "int" (.var 0)) (.cons (.not (.isi "bool" (.var 0))) (.cons (.cmp .eq (.var 0) (.var 1)) .nil)))))
  .nil))))
def D__law_same : Df := ⟨["_law_actual", "_law_expected", "_law_k"], 2, S__law_same⟩

/-! ### slices of texts -/
theorem cut_take {α : Type} (t : List α) (k : Nat) : cut t none (some (k : Int)) = t.take k := by
  unfold cut
  rw [HT.sIx_none, HT.sIx_nat, List.drop_zero, Nat.sub_zero]
  by_cases h : k ≤ t.length
  · rw [Nat.min_eq_left h]
  · rw [Nat.min_eq_right (by omega), List.take_of_length_le (Nat.le_refl _), List.take_of_length_le (by omega)]
theorem cut_drop {α : Type} (t : List α) (k : Nat) : cut t (some (k : Int)) none = t.drop k := by
  unfold cut
  rw [HT.sIx_none, HT.sIx_nat]
  by_cases h : k ≤ t.length
  · rw [Nat.min_eq_left h, List.take_of_length_le (by simp)]
  · rw [Nat.min_eq_right (by omega), Nat.sub_self, List.take_zero, List.drop_of_length_le (by omega)]
theorem cut_both {α : Type} (t : List α) (i j : Nat) : cut t (some (i : Int)) (some (j : Int)) = (t.drop i).take (j - i) := by
  unfold cut
  rw [HT.sIx_nat, HT.sIx_nat]
  apply List.ext_getElem?
  intro n
  simp only [List.getElem?_take, List.getElem?_drop]
  by_cases h1 : i ≤ t.length
  · rw [Nat.min_eq_left h1]
    by_cases h2 : j ≤ t.length
    · rw [Nat.min_eq_left h2]
    · rw [Nat.min_eq_right (by omega)]
      by_cases h3 : n < t.length - i
      · rw [if_pos h3, if_pos (by omega)]
      · rw [if_neg h3]
        split
        · rw [List.getElem?_eq_none (by omega)]
        · rfl
  · have e1 : min i t.length = t.length := Nat.min_eq_right (by omega)
    have e2 : min j t.length - t.length = 0 := by omega
    rw [e1, e2, List.getElem?_eq_none (show t.length ≤ i + n by omega)]
    simp
theorem sIx_neg (n d : Nat) : HT.sIx n d (some (-1)) = n - 1 := by
  show (if (-1 : Int) < 0 then (-1 + (n : Int)).toNat else min (-1 : Int).toNat n) = _
  rw [if_pos (by decide)]
  omega
theorem cut_last {α : Type} (t : List α) : cut t (some (-1)) none = t.drop (t.length - 1) := by
  unfold cut
  rw [HT.sIx_none, sIx_neg, List.take_of_length_le (by simp)]
theorem cut_inner {α : Type} (t : List α) : cut t (some 1) (some (-1)) = (t.drop 1).dropLast := by
  unfold cut
  rw [sIx_neg, show HT.sIx t.length 0 (some 1) = min 1 t.length from HT.sIx_nat _ _ 1, List.dropLast_eq_take, List.length_drop]
  cases t with
  | nil => rfl
  | cons a t => simp
/-! ### faults of heads -/
def spaceT : Tx := [115, 112, 97, 99, 101, 32, 105, 115, 32, 101, 120, 112, 101, 99, 116, 101, 100]
def nameT : Tx := [110, 97, 109, 101, 32, 105, 115, 32, 101, 120, 112, 101, 99, 116, 101, 100]
def charT : Tx := [99, 104, 97, 114, 97, 99, 116, 101, 114, 32, 99, 97, 110, 110, 111, 116, 32, 98, 101, 32, 105, 110, 32, 97, 32, 110, 97, 109, 101]
def longT : Tx := [110, 97, 109, 101, 32, 105, 115, 32, 108, 111, 110, 103, 101, 114, 32, 116, 104, 97, 110, 32, 50, 48]
def noHeadT : Tx := [99, 111, 100, 101, 32, 119, 105, 116, 104, 111, 117, 116, 32, 97, 32, 104, 101, 97, 100]
def faultN : Nat → Tx → Option (Nat × Tx)
  | _, [] => none
  | k, c :: r => if sgV dashes c = true then (if k = 20 then some (k + 3, longT) else faultN (k + 1) r) else some (k + 3, charT)
def fault (t : Tx) : Option (Nat × Tx) := if cut t (some 1) (some 2) = [32] then (if t.drop 2 = [] then some (3, nameT) else faultN 0 (t.drop 2)) else some (2, spaceT)
def vF : Option (Nat × Tx) → Va
  | none => .non
  | some p => .tup [.int (p.1 : Nat), .str p.2]
theorem free_vF (o : Option (Nat × Tx)) : free (vF o) = true := by cases o <;> rfl
theorem sign_run {L : Lm} (hg : L.gl "NAME_SIGNS" = some (.str dashes)) (c : Nat) : runD L D_is_name_sign [.str [c]] = .ok (.bl (sgV dashes c)) [] := by
  refine runD_of (fun v s => v = .bl (sgV dashes c)) [some (.str [c])] rfl rfl (fun v s h => by rw [h]; exact ret_free rfl) fun Q hr => ?_
  have e : ∀ st, isalnumV (.str [c]) [] st = .ok (.bl (Txt.isalnum ⟨#[c]⟩)) st := fun st => rfl
  simp -implicitDefEqProofs [D_is_name_sign, S_is_name_sign, mVar, hg, e, in_sign]
  cases h : Txt.isalnum ⟨#[c]⟩ with
  | true => simp -implicitDefEqProofs; exact hr _ _ (by simp [sgV, h])
  | false => simp -implicitDefEqProofs; exact hr _ _ (by simp [sgV, h])
theorem fault_run {L : Lm} (hg : L.gl "NAME_MOST" = some (.int 20)) (hs : ∀ c, L.fn "is_name_sign" [.str [c]] = .ok (.bl (sgV dashes c)) []) (t : Tx) (ht : t.length ≤ 1000) : runD L D_head_fault [.str t] = .ok (vF (fault t)) [] := by
  have hz : t.length ≤ sizeLine := by unfold sizeLine; omega
  obtain ⟨nm, hnm⟩ : ∃ nm, nm = t.drop 2 := ⟨_, rfl⟩
  have e2 : cut t (some 2) none = nm := by rw [hnm]; exact cut_drop t 2
  have hft : fault t = if cut t (some 1) (some 2) = [32] then (if nm = [] then some (3, nameT) else faultN 0 nm) else some (2, spaceT) := by rw [hnm]; rfl
  have hnl : nm.length ≤ t.length := by rw [hnm]; simp
  have hc : ∀ c st, callP false (L.fn "is_name_sign") [.str [c]] st = .ok (.bl (sgV dashes c)) st := fun c st => callP_free rfl (hs c)
  refine runD_of (fun v s => v = vF (fault t)) [some (.str t), none, none, none] rfl rfl (fun v s h => by rw [h]; exact ret_free (free_vF _)) fun Q hr => ?_
  simp -implicitDefEqProofs [D_head_fault, S_head_fault, mVar, slice_str hz, mPart, e2, hg]
  by_cases h1 : cut t (some 1) (some 2) = [32]
  · simp -implicitDefEqProofs [h1, mVar, slice_str hz, mPart, e2]
    by_cases h2 : nm = []
    · simp -implicitDefEqProofs [h2, mkT, sizeLine]
      refine hr _ _ ?_
      rw [hft, if_pos h1, if_pos h2]
      rfl
    · simp -implicitDefEqProofs [h2, mVar]
      have hf : fault t = faultN 0 nm := by rw [hft, if_pos h1, if_neg h2]
      refine wp_for (fun k env st => st = [] ∧ (∃ x2 x3, env = [some (.str t), some (.str (nm)), x2, x3]) ∧ fault t = faultN k ((nm).drop k)) ⟨rfl, ⟨_, _, rfl⟩, hf⟩ ?_ ?_
      · rintro k w env st Qb hw ⟨rfl, ⟨x2, x3, rfl⟩, hk⟩ hnx _ hrt _
        obtain ⟨x, hx, rfl⟩ := numbered_at hw
        unfold G.signs at hx
        rw [List.getElem?_map] at hx
        obtain ⟨c, hc', rfl⟩ := Option.map_eq_some_iff.mp hx
        have hkl : k < t.length := by
          have := (List.getElem?_eq_some_iff.mp hc').1
          omega
        have hd : (nm).drop k = c :: (nm).drop (k + 1) := by
          rw [List.drop_eq_getElem_cons (List.getElem?_eq_some_iff.mp hc').1]
          congr 1
          exact (List.getElem?_eq_some_iff.mp hc').2
        rw [hd, faultN] at hk
        refine ⟨rfl, _, rfl, ?_⟩
        simp -implicitDefEqProofs [mVar, hc, hg]
        cases hsg : sgV dashes c with
        | false =>
          simp -implicitDefEqProofs [mVar, mkT, sizeLine]
          refine hrt _ _ (hr _ _ ?_)
          rw [hk, hsg, if_neg Bool.false_ne_true]
          simp [vF, charT]
        | true =>
          rw [hsg, if_pos rfl] at hk
          simp -implicitDefEqProofs [mVar, hg]
          by_cases h3 : k = 20
          · subst h3
            simp -implicitDefEqProofs [mVar, mkT, sizeLine]
            refine hrt _ _ (hr _ _ ?_)
            rw [hk, if_pos rfl]
            simp [vF, longT]
          · simp -implicitDefEqProofs [mVar, show ((k : Int) = 20) = False from eq_false (by omega)]
            exact hnx _ _ ⟨rfl, ⟨_, _, rfl⟩, by rw [hk, if_neg h3]⟩
      · rintro env st ⟨rfl, ⟨x2, x3, rfl⟩, hk⟩
        refine ⟨rfl, ?_⟩
        simp -implicitDefEqProofs
        refine hr _ _ ?_
        rw [hk, List.drop_of_length_le (by simp [numbered_length, G.signs])]
        rfl
  · simp -implicitDefEqProofs [h1, mkT, sizeLine]
    refine hr _ _ ?_
    rw [hft, if_neg h1]
    rfl
end N

set_option Elab.async false
set_option linter.all false
set_option maxRecDepth 100000
set_option maxHeartbeats 8000000
/-! the run of split -/
namespace TG
open PySem PySem.Spec PyProof.Rows L2 G C D N
def S_split : S :=
  (.seq (.sfor (.inr [2, 3, 4]) (.call "sections" false (.cons (.var 0) .nil))
  (.seq (.sif (.cmp2 .lt .lt (.bin .add false (.var 3) (.int 1)) (.var 1) (.var 4))
  (.seq (.ret (.bin .add false (.bin .add false (.sl false (.var 0) .nil (.var 1)) (.tup (.cons (.tup (.cons (.str [112, 114, 111, 115, 101]) (.cons (.str []) .nil))) (.cons (.tup (.cons (.str [104, 101, 97, 100]) (.cons (.var 2) .nil))) .nil)))) (.sl false (.var 0) (.var 1) .nil)))
  .nil)
  .nil)
  .nil))
  (.seq (.rais "BadPlace" [116, 104, 101, 32, 108, 105, 110, 101, 32, 104, 97, 115, 32, 110, 111, 32, 108, 105, 110, 101, 32, 111, 102, 32, 105, 116, 115, 32, 115, 101, 99, 116, 105, 111, 110, 32, 98, 101, 102, 111, 114, 101, 32, 105, 116])
  .nil))
def D_split : Df := ⟨["document", "at", "name", "head", "end"], 2, S_split⟩
theorem slice_tt {m : Bool} {l : List Va} (k : Nat) (st : Sto) : sliceV m (.tup l) none (some (k : Nat)) st = .ok (.tup (l.take k)) st := by
  unfold sliceV
  simp only [strOf_tup, tupOf_tup, cut_take]
theorem slice_tf {m : Bool} {l : List Va} (k : Nat) (st : Sto) : sliceV m (.tup l) (some (k : Nat)) none st = .ok (.tup (l.drop k)) st := by
  unfold sliceV
  simp only [strOf_tup, tupOf_tup, cut_drop]
def inSec (a : Int) (s : Sec) : Bool := decide ((s.2.1 : Int) + 1 < a) && decide (a < (s.2.2 : Nat))
def splitD (d : List Ln) (a : Nat) (n : Tx) : List Ln := d.take a ++ [.pr [], .hd n] ++ d.drop a
theorem split_run {L : Lm} {d : List Ln} {a : Int} (hl : d.length ≤ 1000) (hs : L.fn "sections" [.tup (d.map vLn)] = .ok (.lst ((secs d).map vSec)) fresh) (hpl : L.xs.pl "BadPlace" = some badT) :
    runD L D_split [.tup (d.map vLn), .int a] = match (secs d).find? (inSec a) with
      | some s => .ok (.tup ((splitD d a.toNat s.1).map vLn)) []
      | none => .err ⟨badT, []⟩ [] := by
  have fd : free (.tup (d.map vLn)) = true := by rw [free_tup]; exact frees_map free_vLn
  have c1 : ∀ st, callP false (L.fn "sections") [.tup (d.map vLn)] st = .ok (.lst ((secs d).map vSec)) st := fun st => callP_free (by simp only [frees_cons, fd]; rfl) hs
  refine runD_any _ [some (.tup (d.map vLn)), some (.int a), none, none, none] rfl rfl fun Q hr he => ?_
  simp -implicitDefEqProofs [D_split, S_split, mVar, c1]
  refine wp_for (fun k env st => (∀ s ∈ (secs d).take k, inSec a s = false) ∧ ∃ x2 x3 x4, env = [some (.tup (d.map vLn)), some (.int a), x2, x3, x4]) ⟨by simp, _, _, _, rfl⟩ ?_ ?_
  · rintro k w env st Qb hw ⟨hno, x2, x3, x4, rfl⟩ hnx _ hrt _
    rw [List.getElem?_map] at hw
    obtain ⟨s, hs, rfl⟩ := Option.map_eq_some_iff.mp hw
    refine ⟨rfl, _, rfl, ?_⟩
    have htk : (secs d).take (k + 1) = (secs d).take k ++ [s] := by rw [List.take_succ, hs]; rfl
    cases hin : inSec a s with
    | false =>
      have h2 : (decide ((s.2.1 : Int) + 1 < a) && decide (a < (s.2.2 : Nat))) = false := hin
      have hnx2 := hnx [some (.tup (d.map vLn)), some (.int a), some (.str s.1), some (.int (s.2.1 : Nat)), some (.int (s.2.2 : Nat))] st ⟨by
        rw [htk]
        intro x hx
        rcases List.mem_append.mp hx with hx | hx
        · exact hno x hx
        · rw [List.mem_singleton.mp hx]; exact hin, _, _, _, rfl⟩
      by_cases h3 : (s.2.1 : Int) + 1 < a
      · have h4 : ¬ a < (s.2.2 : Nat) := by simpa [h3] using h2
        simp -implicitDefEqProofs [mVar, h3, h4]
        exact hnx2
      · simp -implicitDefEqProofs [mVar, h3]
        exact hnx2
    | true =>
      have h2 : (s.2.1 : Int) + 1 < a ∧ a < (s.2.2 : Nat) := by
        have : (decide ((s.2.1 : Int) + 1 < a) && decide (a < (s.2.2 : Nat))) = true := hin
        simpa using this
      obtain ⟨j, rfl⟩ : ∃ j : Nat, a = j := ⟨a.toNat, by omega⟩
      have hf : (secs d).find? (inSec (j : Nat)) = some s := by
        rw [List.find?_eq_some_iff_append]
        refine ⟨hin, (secs d).take k, (secs d).drop (k + 1), ?_, fun x hx => by rw [hno x hx]; rfl⟩
        have := List.take_append_drop (k + 1) (secs d)
        rw [htk, List.append_assoc] at this
        exact this.symm
      rw [hf] at hr
      have mk : ∀ (l : List Va) (st : Sto), l.length ≤ 2000 → mkT l st = .ok (.tup l) st := fun l st h => mkT_val (by unfold sizeLine; omega)
      have mk2 : ∀ (a b : Va) (st : Sto), mkT [a, b] st = .ok (.tup [a, b]) st := fun a b st => mk _ _ (by simp)
      have hfr : free (.tup ((splitD d j s.1).map vLn)) = true := by rw [free_tup]; exact frees_map free_vLn
      simp -implicitDefEqProofs [-List.map_take, -List.map_drop, mVar, h2, slice_tt, slice_tf, addV_tup, mk2]
      rw [mk _ _ (by simp; omega)]
      simp -implicitDefEqProofs [-List.map_take, -List.map_drop, slice_tf, addV_tup]
      rw [mk _ _ (by simp; omega)]
      simp -implicitDefEqProofs [-List.map_take, -List.map_drop]
      refine hrt _ _ (hr _ _ ?_)
      have e : Va.tup ((splitD d j s.1).map vLn) = .tup ((d.map vLn).take j ++ .tup [.str [112, 114, 111, 115, 101], .str []] :: .tup [.str [104, 101, 97, 100], .str s.1] :: (d.map vLn).drop j) := by
        unfold splitD
        simp [vLn, proseT, headT]
      rw [← e]
      exact ret_free hfr
  · rintro env st ⟨hno, x2, x3, x4, rfl⟩
    refine ⟨rfl, ?_⟩
    rw [List.length_map, List.take_length] at hno
    have : (secs d).find? (inSec a) = none := List.find?_eq_none.mpr fun s hs => by simp [hno s hs]
    rw [this] at he
    simp -implicitDefEqProofs [hpl]
    exact he _ _ _ rfl rfl
end TG

set_option Elab.async false
set_option linter.all false
set_option maxRecDepth 100000
set_option maxHeartbeats 8000000
/-! a document that is split: its content -/
namespace TG
open PySem PySem.Spec PyProof.Rows L2 G C D N
theorem tw_get {α : Type} {p : α → Bool} : ∀ {l : List α} {i : Nat}, i < (l.takeWhile p).length → ∃ y, l[i]? = some y ∧ p y = true
  | [], i, h => by simp at h
  | y :: l, i, h => by
    rw [List.takeWhile_cons] at h
    by_cases hp : p y = true
    · rw [if_pos hp] at h
      cases i with
      | zero => exact ⟨y, rfl, hp⟩
      | succ i =>
        obtain ⟨z, h1, h2⟩ := tw_get (l := l) (i := i) (by simpa using h)
        exact ⟨z, h1, h2⟩
    · rw [if_neg hp] at h
      simp at h
theorem sec_facts {d : List Ln} (hd : Doc d) {s : Sec} (h : s ∈ secs d) : d[s.2.1]? = some (.hd s.1) ∧ (∀ j, s.2.1 < j → j < s.2.2 → ∃ y, d[j]? = some y ∧ y.isI = true) ∧ s.2.2 ≤ d.length ∧ s.2.2 = endOf d s.2.1 := by
  rw [secs_eq hd] at h
  obtain ⟨j, hj, hs⟩ := List.mem_flatMap.mp h
  have hj := List.mem_range.mp hj
  unfold hdAt at hs
  cases e : d[j]? with
  | none => rw [e] at hs; cases hs
  | some l =>
    rw [e] at hs
    cases l with
    | hd n =>
      have hs := List.mem_singleton.mp hs
      subst hs
      refine ⟨e, fun i h1 h2 => ?_, end_len d hj, rfl⟩
      have h2 : i < endOf d j := h2
      have h1 : j < i := h1
      unfold endOf at h2
      obtain ⟨y, h3, h4⟩ := tw_get (p := Ln.isI) (l := d.drop (j + 1)) (i := i - (j + 1)) (by omega)
      refine ⟨y, ?_, h4⟩
      rw [List.getElem?_drop] at h3
      rwa [show j + 1 + (i - (j + 1)) = i by omega] at h3
    | pr t => cases hs
    | us i n => cases hs
    | co t => cases hs
theorem last_head {d : List Ln} (hd : Doc d) {j : Nat} {x : Ln} (hx : d[j]? = some x) (hp : x.isP = false) : ∃ t ∈ secs d, t.2.1 ≤ j ∧ j < t.2.2 := by
  have hj := (List.getElem?_eq_some_iff.mp hx).1
  obtain ⟨L, t, e1, e2, e3, e4⟩ := (secs_heads hd (j + 1) (by omega)).2 j x rfl hx hp
  have ht : t ∈ heads d (j + 1) := by rw [e1]; simp
  refine ⟨t, ?_, by omega, ?_⟩
  · rw [secs_eq hd]
    obtain ⟨i, hi, hs⟩ := List.mem_flatMap.mp ht
    exact List.mem_flatMap.mpr ⟨i, by have := List.mem_range.mp hi; exact List.mem_range.mpr (by omega), hs⟩
  · have := (heads_mem ht).2
    have := end_ge (d := d) (h := t.2.1) (k := j + 1) e3 e4
    omega
theorem isOwn_some {d : List Ln} {a : Int} (h : isOwn d a = true) : ∃ k : Nat, a = k ∧ ∃ y, d[k]? = some y ∧ y.isI = true := by
  unfold isOwn at h
  rw [Bool.and_eq_true] at h
  obtain ⟨h1, h2⟩ := h
  have h1 := of_decide_eq_true h1
  refine ⟨a.toNat, by omega, ?_⟩
  cases e : d[a.toNat]? with
  | none => rw [e] at h2; simp at h2
  | some y => rw [e] at h2; exact ⟨y, rfl, by simpa using h2⟩
theorem isOwn_of {d : List Ln} {k : Nat} {y : Ln} (h : d[k]? = some y) (hi : y.isI = true) : isOwn d (k : Int) = true := by
  simp [isOwn, h, hi]
theorem in_iff {d : List Ln} (hd : Doc d) (a : Int) : ((secs d).find? (inSec a)).isSome = (isOwn d a && isOwn d (a - 1)) := by
  rw [Bool.eq_iff_iff, List.find?_isSome, Bool.and_eq_true]
  constructor
  · rintro ⟨s, hs, hin⟩
    unfold inSec at hin
    rw [Bool.and_eq_true] at hin
    have h1 := of_decide_eq_true hin.1
    have h2 := of_decide_eq_true hin.2
    obtain ⟨f1, f2, f3, _⟩ := sec_facts hd hs
    obtain ⟨y, e1, e2⟩ := f2 a.toNat (by omega) (by omega)
    obtain ⟨z, e3, e4⟩ := f2 (a - 1).toNat (by omega) (by omega)
    have g1 := isOwn_of e1 e2
    have g2 := isOwn_of e3 e4
    rw [show ((a.toNat : Nat) : Int) = a by omega] at g1
    rw [show (((a - 1).toNat : Nat) : Int) = a - 1 by omega] at g2
    exact ⟨g1, g2⟩
  · rintro ⟨h1, h2⟩
    obtain ⟨k, rfl, y, e1, e2⟩ := isOwn_some h1
    obtain ⟨j, e0, z, e3, e4⟩ := isOwn_some h2
    have : k = j + 1 := by omega
    subst this
    obtain ⟨t, ht, g1, g2⟩ := last_head hd e1 (by cases y <;> simp [Ln.isI, Ln.isP] at e2 ⊢)
    obtain ⟨f1, f2, f3, _⟩ := sec_facts hd ht
    refine ⟨t, ht, ?_⟩
    have n1 : t.2.1 ≠ j + 1 := fun z => by
      rw [z, e1] at f1
      cases f1
      simp [Ln.isI] at e2
    have n2 : t.2.1 ≠ j := fun w => by
      rw [w, e3] at f1
      cases f1
      simp [Ln.isI] at e4
    unfold inSec
    rw [Bool.and_eq_true]
    exact ⟨decide_eq_true (by omega), decide_eq_true (by omega)⟩
theorem bd_items : ∀ {l : List Ln}, (∀ x ∈ l, x.isI = true) → bd l = [] ∧ pre l = l
  | [], _ => ⟨rfl, rfl⟩
  | x :: l, h => by
    obtain ⟨h1, h2⟩ := bd_items (l := l) fun y hy => h y (List.mem_cons_of_mem _ hy)
    have hx := h x List.mem_cons_self
    cases x with
    | hd n => simp [Ln.isI] at hx
    | pr n => simp [Ln.isI] at hx
    | us i n => exact ⟨h1, congrArg (Ln.us i n :: ·) h2⟩
    | co t => exact ⟨h1, congrArg (Ln.co t :: ·) h2⟩
theorem take_at {d : List Ln} (hd : Doc d) {s : Sec} (h : s ∈ secs d) {a : Nat} (h1 : s.2.1 < a) (h2 : a ≤ s.2.2) : d.take a = d.take s.2.1 ++ .hd s.1 :: (d.take a).drop (s.2.1 + 1) ∧ ∀ x ∈ (d.take a).drop (s.2.1 + 1), x.isI = true := by
  obtain ⟨f1, f2, f3, _⟩ := sec_facts hd h
  have hl := (List.getElem?_eq_some_iff.mp f1).1
  constructor
  · have e := List.take_append_drop s.2.1 (d.take a)
    rw [List.take_take, Nat.min_eq_left (by omega)] at e
    rw [List.drop_eq_getElem_cons (l := d.take a) (i := s.2.1) (by rw [List.length_take]; omega)] at e
    have e2 : (d.take a)[s.2.1]'(by rw [List.length_take]; omega) = .hd s.1 := by
      rw [List.getElem_take]
      rw [List.getElem?_eq_getElem hl] at f1
      exact Option.some.inj f1
    rw [e2] at e
    exact e.symm
  · intro x hx
    obtain ⟨i, hi⟩ := List.getElem?_of_mem hx
    rw [List.getElem?_drop] at hi
    have hlt : s.2.1 + 1 + i < a := by
      have := (List.getElem?_eq_some_iff.mp hi).1
      rw [List.length_take] at this
      omega
    rw [List.getElem?_take_of_lt hlt] at hi
    obtain ⟨y, e1, e2⟩ := f2 (s.2.1 + 1 + i) (by omega) (by omega)
    rw [hi] at e1
    cases e1
    exact e2
theorem bd_take {d : List Ln} (hd : Doc d) {s : Sec} (h : s ∈ secs d) {a : Nat} (h1 : s.2.1 < a) (h2 : a ≤ s.2.2) : ∃ A ls, bd (d.take a) = A ++ [(s.1, ls)] := by
  obtain ⟨e1, e2⟩ := take_at hd h h1 h2
  obtain ⟨e3, e4⟩ := bd_items e2
  rw [e1, bd_app]
  refine ⟨addL (bd (d.take s.2.1)) [], pre ((d.take a).drop (s.2.1 + 1)), ?_⟩
  show _ ++ (s.1, pre _) :: bd ((d.take a).drop (s.2.1 + 1)) = _
  rw [e3]
  rfl
theorem ownB_app (A B : Bd) (n : Tx) : ownB (A ++ B) n = ownB A n ++ ownB B n := by simp [ownB]
theorem bd_split {d : List Ln} (hd : Doc d) {s : Sec} (h : s ∈ secs d) {a : Nat} (h1 : s.2.1 < a) (h2 : a ≤ s.2.2) : (∀ n, hsB (bd d) n ↔ hsB (bd (splitD d a s.1)) n) ∧ ∀ n, ownB (bd d) n = ownB (bd (splitD d a s.1)) n := by
  obtain ⟨A, ls, e⟩ := bd_take hd h h1 h2
  have e1 : bd d = A ++ (s.1, ls ++ pre (d.drop a)) :: bd (d.drop a) := by
    conv => lhs; rw [← List.take_append_drop a d]
    rw [bd_app, e, addL_snoc]
    simp
  have e2 : bd (splitD d a s.1) = A ++ (s.1, ls) :: (s.1, pre (d.drop a)) :: bd (d.drop a) := by
    unfold splitD
    rw [List.append_assoc, bd_app, e]
    show addL (A ++ [(s.1, ls)]) [] ++ ((s.1, pre (d.drop a)) :: bd (d.drop a)) = _
    rw [addL_nil]
    simp
  rw [e1, e2]
  constructor
  · intro n
    simp [hsB]
  · intro n
    rw [ownB_app, ownB_app]
    congr 1
    by_cases hn : s.1 = n
    · simp [ownB, hn]
    · simp [ownB, hn]
theorem get_app3 {α : Type} (d : List α) (a : Nat) (ha : a ≤ d.length) (m : List α) (k : Nat) : (d.take a ++ m ++ d.drop a)[k]? = if k < a then d[k]? else if k < a + m.length then m[k - a]? else d[k - m.length]? := by
  have hl : (d.take a).length = a := by rw [List.length_take]; omega
  rw [List.append_assoc]
  by_cases h1 : k < a
  · rw [if_pos h1, List.getElem?_append_left (by omega), List.getElem?_take_of_lt h1]
  · rw [if_neg h1, List.getElem?_append_right (by omega), hl]
    by_cases h2 : k < a + m.length
    · rw [if_pos h2, List.getElem?_append_left (by omega)]
    · rw [if_neg h2, List.getElem?_append_right (by omega), List.getElem?_drop]
      congr 1
      omega
theorem doc_split {d : List Ln} (hd : Doc d) {a : Nat} (h0 : 0 < a) (ha : a ≤ d.length) (n : Tx) : Doc (splitD d a n) := by
  have g := get_app3 d a ha [Ln.pr [], .hd n]
  refine ⟨?_, fun k x y hx hy hi => ?_⟩
  · obtain ⟨m, e⟩ := hd.h0
    refine ⟨m, ?_⟩
    unfold splitD
    rw [g, if_pos h0]
    exact e
  · unfold splitD at hx hy
    rw [g] at hx hy
    simp only [List.length_cons, List.length_nil] at hx hy
    by_cases k1 : k + 1 < a
    · rw [if_pos k1] at hy
      rw [if_pos (by omega)] at hx
      exact hd.hI k x y hx hy hi
    · rw [if_neg k1] at hy
      by_cases k2 : k + 1 < a + 2
      · rw [if_pos (by omega)] at hy
        have : k + 1 = a ∨ k = a := by omega
        rcases this with h | h
        · rw [show k + 1 - a = 0 by omega] at hy
          cases hy
          simp [Ln.isI] at hi
        · rw [show k + 1 - a = 1 by omega] at hy
          cases hy
          simp [Ln.isI] at hi
      · rw [if_neg (by omega)] at hy
        rw [if_neg (by omega)] at hx
        by_cases k3 : k < a + 2
        · rw [if_pos (by omega), show k - a = 1 by omega] at hx
          cases hx
          rfl
        · rw [if_neg (by omega)] at hx
          have : k + 1 - (0 + 1 + 1) = (k - (0 + 1 + 1)) + 1 := by omega
          rw [this] at hy
          exact hd.hI _ x y hx hy hi
theorem dok_mem {J : Nat} {d : List Ln} (hd : Doc d) (hl : d.length ≤ 100) (h1 : ∀ j n, Ln.us j n ∈ d → j ≤ J ∧ n.length ≤ 1000) (h2 : ∀ t, Ln.co t ∈ d → t.length ≤ 1000) : DOk J d :=
  ⟨hd, hl, fun i j n h => h1 j n (List.mem_of_getElem? h), fun i t h => h2 t (List.mem_of_getElem? h)⟩
theorem split_mem {d : List Ln} {a : Nat} {n : Tx} {x : Ln} (h : x ∈ splitD d a n) : x ∈ d ∨ x = .pr [] ∨ x = .hd n := by
  unfold splitD at h
  rcases List.mem_append.mp h with h | h
  · rcases List.mem_append.mp h with h | h
    · exact .inl (List.mem_of_mem_take h)
    · simp at h
      exact .inr h
  · exact .inl (List.mem_of_mem_drop h)
/-- the lines that are drawn -/
theorem ok_us {d : List Ln} (h : ∀ l ∈ d, LnOk l) {j : Int} {n : Tx} (hm : Ln.us j n ∈ d) : 0 ≤ j ∧ j ≤ 4 ∧ n.length = 1 := by
  obtain ⟨h1, c, h2, rfl⟩ := h _ hm
  simp only [List.mem_cons, List.not_mem_nil, or_false] at h1
  rcases h1 with rfl | rfl | rfl | rfl | rfl <;> exact ⟨by decide, by decide, rfl⟩
theorem ok_co {d : List Ln} (h : ∀ l ∈ d, LnOk l) {t : Tx} (hm : Ln.co t ∈ d) : t.length ≤ 8 := by
  have : ∀ t ∈ codeTs, t.length ≤ 8 := by decide
  exact this t (h _ hm)
theorem dok_of {d : List Ln} (hd : Doc d) (hl : d.length ≤ 100) (h : ∀ l ∈ d, LnOk l) : DOk 4 d :=
  dok_mem hd hl (fun j n hm => by obtain ⟨_, h2, h3⟩ := ok_us h hm; exact ⟨h2, by omega⟩) fun t hm => by have := ok_co h hm; omega
theorem dok_split {d : List Ln} {J a : Nat} {n : Tx} (D : DOk J d) (h0 : 0 < a) (ha : a ≤ d.length) (hl : d.length ≤ 98) : DOk J (splitD d a n) := by
  refine dok_mem (doc_split D.doc h0 ha n) (by simp [splitD]; omega) (fun j m hm => ?_) fun t hm => ?_
  · rcases split_mem hm with h | h | h
    · obtain ⟨i, hi⟩ := List.getElem?_of_mem h
      exact D.us i j m hi
    · cases h
    · cases h
  · rcases split_mem hm with h | h | h
    · obtain ⟨i, hi⟩ := List.getElem?_of_mem h
      exact D.co i t hi
    · cases h
    · cases h
end TG

set_option Elab.async false
set_option linter.all false
set_option maxRecDepth 100000
set_option maxHeartbeats 8000000
/-! the run of join -/
namespace TG
open PySem PySem.Spec PyProof.Rows L2 G C D
def S_join : S :=
  (.seq (.sif (.or (.cons (.not (.cmp2 .le .lt (.int 0) (.var 1) (.bif .len false (.cons (.var 0) .nil)))) (.cons (.cmp .ne (.ix (.ix (.var 0) (.var 1)) (.int 0)) (.str [104, 101, 97, 100])) .nil)))
  (.seq (.rais "BadPlace" [116, 104, 101, 32, 108, 105, 110, 101, 32, 105, 115, 32, 110, 111, 32, 104, 101, 97, 100])
  .nil)
  .nil)
  (.seq (.set (.inl 2) (.var 1))
  (.seq (.swh (.and (.cons (.cmp .gt (.var 2) (.int 0)) (.cons (.cmp .eq (.ix (.var 0) (.bin .sub false (.var 2) (.int 1))) (.tup (.cons (.str [112, 114, 111, 115, 101]) (.cons (.str []) .nil)))) .nil)))
  (.seq (.set (.inl 2) (.bin .sub false (.var 2) (.int 1)))
  .nil))
  (.seq (.sfor (.inr [3, 4, 5]) (.call "sections" false (.cons (.var 0) .nil))
  (.seq (.sif (.and (.cons (.cmp .eq (.var 5) (.var 2)) (.cons (.cmp .lt (.var 4) (.var 1)) (.cons (.cmp .eq (.var 3) (.ix (.ix (.var 0) (.var 1)) (.int 1))) .nil))))
  (.seq (.ret (.bin .add false (.sl false (.var 0) .nil (.var 2)) (.sl false (.var 0) (.bin .add false (.var 1) (.int 1)) .nil)))
  .nil)
  .nil)
  .nil))
  (.seq (.rais "BadPlace" [116, 104, 101, 114, 101, 32, 105, 115, 32, 110, 111, 32, 115, 101, 99, 116, 105, 111, 110, 32, 111, 102, 32, 116, 104, 101, 32, 112, 105, 101, 99, 101, 32, 100, 105, 114, 101, 99, 116, 108, 121, 32, 98, 101, 102, 111, 114, 101, 32, 116, 104, 101, 32, 108, 105, 110, 101])
  .nil)))))
def D_join : Df := ⟨["document", "at", "end", "name", "head", "last"], 2, S_join⟩
def S__law_section_before : S :=
  (.seq (.set (.inl 2) (.var 1))
  (.seq (.swh (.and (.cons (.cmp .gt (.var 2) (.int 0)) (.cons (.cmp .eq (.ix (.var 0) (.bin .sub false (.var 2) (.int 1))) (.tup (.cons (.str [112, 114, 111, 115, 101]) (.cons (.str []) .nil)))) .nil)))
  (.seq (.set (.inl 2) (.bin .sub false (.var 2) (.int 1)))
  .nil))
  (.seq (.set (.inl 3) (.bin .sub false (.var 2) (.int 1)))
  (.seq (.swh (.and (.cons (.cmp .ge (.var 3) (.int 0)) (.cons (.cmp .in_ (.ix (.ix (.var 0) (.var 3)) (.int 0)) (.tup (.cons (.str [99, 111, 100, 101]) (.cons (.str [117, 115, 101]) .nil)))) .nil)))
  (.seq (.set (.inl 3) (.bin .sub false (.var 3) (.int 1)))
  .nil))
  (.seq (.sif (.and (.cons (.cmp .ge (.var 3) (.int 0)) (.cons (.cmp .eq (.ix (.var 0) (.var 3)) (.ix (.var 0) (.var 1))) .nil)))
  (.seq (.ret (.var 2))
  .nil)
  .nil)
  (.seq (.ret (.neg (.int 1)))
  .nil))))))
def D__law_section_before : Df := ⟨["_law_document_here", "_law_at", "_law_end", "_law_head"], 2, S__law_section_before⟩
instance decLn : DecidableEq Ln
  | .pr a, .pr b => if h : a = b then .isTrue (by rw [h]) else .isFalse (by intro z; cases z; exact h rfl)
  | .hd a, .hd b => if h : a = b then .isTrue (by rw [h]) else .isFalse (by intro z; cases z; exact h rfl)
  | .co a, .co b => if h : a = b then .isTrue (by rw [h]) else .isFalse (by intro z; cases z; exact h rfl)
  | .us i a, .us j b => if h : i = j ∧ a = b then .isTrue (by rw [h.1, h.2]) else .isFalse (by intro z; cases z; exact h ⟨rfl, rfl⟩)
  | .pr _, .hd _ => .isFalse (by intro z; cases z)
  | .pr _, .us _ _ => .isFalse (by intro z; cases z)
  | .pr _, .co _ => .isFalse (by intro z; cases z)
  | .hd _, .pr _ => .isFalse (by intro z; cases z)
  | .hd _, .us _ _ => .isFalse (by intro z; cases z)
  | .hd _, .co _ => .isFalse (by intro z; cases z)
  | .us _ _, .pr _ => .isFalse (by intro z; cases z)
  | .us _ _, .hd _ => .isFalse (by intro z; cases z)
  | .us _ _, .co _ => .isFalse (by intro z; cases z)
  | .co _, .pr _ => .isFalse (by intro z; cases z)
  | .co _, .hd _ => .isFalse (by intro z; cases z)
  | .co _, .us _ _ => .isFalse (by intro z; cases z)
theorem eqd_vLn (a b : Ln) : eqd (vLn a) (vLn b) = decide (a = b) := by
  cases a <;> cases b <;> simp [vLn, proseT, headT, useT, codeT, Bool.eq_iff_iff]
theorem eqV_Ln {neg : Bool} (a b : Ln) (st : Sto) : G.eqV neg (vLn a) (vLn b) st = .ok (.bl (if neg then !decide (a = b) else decide (a = b))) st := by
  rw [eqV_dat (dat_vLn a 39) (dat_vLn b 39), eqd_vLn]
/-- back over empty lines of prose -/
def backP (d : List Ln) : Nat → Nat
  | 0 => 0
  | k + 1 => if d[k]? = some (.pr []) then backP d k else k + 1
/-- back over lines of a section -/
def backI (d : List Ln) : Nat → Nat
  | 0 => 0
  | k + 1 => match d[k]? with
    | some l => if l.isI = true then backI d k else k + 1
    | none => k + 1
theorem backP_le (d : List Ln) : ∀ k, backP d k ≤ k
  | 0 => Nat.le_refl _
  | k + 1 => by
    have := backP_le d k
    unfold backP
    split <;> omega
theorem backP_in (d : List Ln) : ∀ k j, backP d k ≤ j → j < k → d[j]? = some (.pr [])
  | 0, j, _, h => by omega
  | k + 1, j, h1, h2 => by
    unfold backP at h1
    split at h1
    · rename_i e
      by_cases h : j = k
      · rw [h, e]
      · exact backP_in d k j h1 (by omega)
    · omega
theorem backP_end (d : List Ln) : ∀ k j, backP d k = j + 1 → d[j]? ≠ some (.pr [])
  | 0, j, h => by simp [backP] at h
  | k + 1, j, h => by
    unfold backP at h
    split at h
    · exact backP_end d k j h
    · rename_i e
      rw [show j = k by omega]
      exact e
theorem backI_le (d : List Ln) : ∀ k, backI d k ≤ k
  | 0 => Nat.le_refl _
  | k + 1 => by
    have := backI_le d k
    unfold backI
    split
    · split <;> omega
    · omega
theorem backI_in (d : List Ln) : ∀ k j, backI d k ≤ j → j < k → ∃ l, d[j]? = some l ∧ l.isI = true
  | 0, j, _, h => by omega
  | k + 1, j, h1, h2 => by
    unfold backI at h1
    split at h1
    · rename_i l e
      split at h1
      · rename_i hi
        by_cases h : j = k
        · exact ⟨l, by rw [h, e], hi⟩
        · exact backI_in d k j h1 (by omega)
      · omega
    · omega
theorem backI_eq {d : List Ln} {h : Nat} {x : Ln} (hx : d[h]? = some x) (hi : x.isI = false) : ∀ k, h < k → (∀ j, h < j → j < k → ∃ l, d[j]? = some l ∧ l.isI = true) → backI d k = h + 1
  | 0, h0, _ => by omega
  | k + 1, h0, a => by
    unfold backI
    by_cases e : k = h
    · subst e
      rw [hx]
      simp [hi]
    · obtain ⟨l, e1, e2⟩ := a k (by omega) (by omega)
      rw [e1]
      simp only [e2, if_true]
      exact backI_eq hx hi k (by omega) fun j h1 h2 => a j h1 (by omega)
/-- where the section before a head ends, if it is one of the same piece -/
def befD (d : List Ln) (a : Nat) (n : Tx) : Option Nat :=
  if 0 < backI d (backP d a) ∧ d[backI d (backP d a) - 1]? = some (.hd n) then some (backP d a) else none
def isBef (d : List Ln) (a : Nat) (n : Tx) (s : Sec) : Bool := decide (s.2.2 = backP d a) && (decide (s.2.1 < a) && decide (s.1 = n))
theorem bef_iff {d : List Ln} (hd : Doc d) {a : Nat} {n : Tx} (ha : d[a]? = some (.hd n)) : ((secs d).find? (isBef d a n)).isSome = (befD d a n).isSome := by
  have hbe := backP_le d a
  rw [Bool.eq_iff_iff, List.find?_isSome]
  constructor
  · rintro ⟨s, hs, hin⟩
    unfold isBef at hin
    simp only [Bool.and_eq_true, decide_eq_true_eq] at hin
    obtain ⟨h1, h2, rfl⟩ := hin
    obtain ⟨f1, f2, f3, f4⟩ := sec_facts hd hs
    have hlt : s.2.1 < backP d a := by
      rw [← h1, f4]
      unfold endOf
      omega
    have e := backI_eq f1 rfl (backP d a) hlt (by rw [← h1]; exact f2)
    unfold befD
    rw [e, if_pos ⟨by omega, f1⟩]
    rfl
  · intro h
    unfold befD at h
    split at h
    · rename_i hc
      obtain ⟨h1, h2⟩ := hc
      obtain ⟨t, ht, g1, g2⟩ := last_head hd h2 rfl
      obtain ⟨f1, f2, f3, f4⟩ := sec_facts hd ht
      have hb2 := backI_le d (backP d a)
      have e : t.2.1 = backI d (backP d a) - 1 := by
        by_cases e : t.2.1 = backI d (backP d a) - 1
        · exact e
        · obtain ⟨y, e1, e2⟩ := f2 _ (show t.2.1 < backI d (backP d a) - 1 by omega) g2
          rw [h2] at e1
          cases e1
          simp [Ln.isI] at e2
      have hge : backP d a ≤ t.2.2 := by
        rw [f4]
        exact end_ge (by omega) fun j h3 h4 => backI_in d (backP d a) j (by omega) h4
      have hle : t.2.2 ≤ backP d a := by
        rw [f4]
        by_cases e3 : backP d a = a
        · exact end_le (x := .hd n) (by omega) (by rw [e3]; exact ha) rfl
        · exact end_le (x := .pr []) (by omega) (backP_in d a _ (Nat.le_refl _) (by omega)) rfl
      refine ⟨t, ht, ?_⟩
      unfold isBef
      simp only [Bool.and_eq_true, decide_eq_true_eq]
      refine ⟨by omega, by omega, ?_⟩
      rw [e, h2] at f1
      cases f1
      rfl
    · simp at h
def joinD (d : List Ln) (e a : Nat) : List Ln := d.take e ++ d.drop (a + 1)
theorem join_mem {d : List Ln} {e a : Nat} {x : Ln} (h : x ∈ joinD d e a) : x ∈ d := by
  rcases List.mem_append.mp h with h | h
  · exact List.mem_of_mem_take h
  · exact List.mem_of_mem_drop h
theorem bef_sec {d : List Ln} (hd : Doc d) {a : Nat} {n : Tx} (ha : d[a]? = some (.hd n)) {e : Nat} (h : befD d a n = some e) : e = backP d a ∧ ∃ s ∈ secs d, s.1 = n ∧ s.2.1 < e ∧ s.2.2 = e := by
  have h1 := bef_iff hd ha
  rw [h] at h1
  obtain ⟨s, hs, hi⟩ := List.find?_isSome.mp h1
  unfold isBef at hi
  simp only [Bool.and_eq_true, decide_eq_true_eq] at hi
  obtain ⟨g1, g2, g3⟩ := hi
  unfold befD at h
  split at h
  · cases h
    refine ⟨rfl, s, hs, g3, ?_, g1⟩
    obtain ⟨_, _, _, f4⟩ := sec_facts hd hs
    rw [← g1, f4]
    unfold endOf
    omega
  · cases h
theorem drop_at {α : Type} {d : List α} {a : Nat} {x : α} (h : d[a]? = some x) : d.drop a = x :: d.drop (a + 1) := by
  have hl := (List.getElem?_eq_some_iff.mp h).1
  rw [List.drop_eq_getElem_cons hl]
  rw [List.getElem?_eq_getElem hl] at h
  rw [Option.some.inj h]
theorem bd_pr : ∀ (m : Nat) (r : List Ln), bd (List.replicate m (.pr []) ++ r) = bd r ∧ pre (List.replicate m (.pr []) ++ r) = pre r
  | 0, r => ⟨rfl, rfl⟩
  | m + 1, r => by
    obtain ⟨h1, h2⟩ := bd_pr m r
    exact ⟨h1, h2⟩
theorem mid_pr {d : List Ln} {a : Nat} {n : Tx} (ha : d[a]? = some (.hd n)) : d.drop (backP d a) = List.replicate (a - backP d a) (.pr []) ++ .hd n :: d.drop (a + 1) := by
  have hle := backP_le d a
  have hin := backP_in d a
  have hal := (List.getElem?_eq_some_iff.mp ha).1
  generalize backP d a = e at hle hin
  obtain ⟨m, rfl⟩ : ∃ m, a = e + m := ⟨a - e, by omega⟩
  rw [show e + m - e = m by omega]
  clear hle
  induction m generalizing e with
  | zero => exact drop_at ha
  | succ m ih =>
    rw [drop_at (hin e (Nat.le_refl _) (by omega)), List.replicate_succ, List.cons_append]
    congr 1
    have := ih (e + 1) (by rw [show e + 1 + m = e + (m + 1) by omega]; exact ha) (by omega) (fun j h1 h2 => hin j (by omega) (by omega))
    rw [this, show e + 1 + m = e + (m + 1) by omega]
theorem bd_join {d : List Ln} (hd : Doc d) {a : Nat} {n : Tx} (ha : d[a]? = some (.hd n)) {e : Nat} (h : befD d a n = some e) : (∀ n, hsB (bd d) n ↔ hsB (bd (joinD d e a)) n) ∧ ∀ n, ownB (bd d) n = ownB (bd (joinD d e a)) n := by
  obtain ⟨he, s, hs, rfl, g2, g3⟩ := bef_sec hd ha h
  obtain ⟨A, ls, eb⟩ := bd_take hd hs (a := e) (by omega) (by omega)
  obtain ⟨b1, b2⟩ := bd_pr (a - backP d a) (.hd s.1 :: d.drop (a + 1))
  have e1 : bd d = A ++ (s.1, ls) :: (s.1, pre (d.drop (a + 1))) :: bd (d.drop (a + 1)) := by
    conv => lhs; rw [← List.take_append_drop e d]
    rw [bd_app, eb, he, mid_pr ha, b1, b2]
    show addL (A ++ [(s.1, ls)]) [] ++ ((s.1, pre (d.drop (a + 1))) :: bd (d.drop (a + 1))) = _
    rw [addL_nil]
    simp
  have e2 : bd (joinD d e a) = A ++ (s.1, ls ++ pre (d.drop (a + 1))) :: bd (d.drop (a + 1)) := by
    unfold joinD
    rw [bd_app, eb, addL_snoc]
    simp
  rw [e1, e2]
  constructor
  · intro n
    simp [hsB]
  · intro n
    rw [ownB_app, ownB_app]
    congr 1
    by_cases hn : s.1 = n
    · simp [ownB, hn]
    · simp [ownB, hn]
theorem doc_join {d : List Ln} (hd : Doc d) {a : Nat} {n : Tx} (ha : d[a]? = some (.hd n)) {e : Nat} (h : befD d a n = some e) : Doc (joinD d e a) := by
  obtain ⟨he, s, hs, rfl, g2, g3⟩ := bef_sec hd ha h
  obtain ⟨f1, f2, f3, f4⟩ := sec_facts hd hs
  have hle := backP_le d a
  have hal := (List.getElem?_eq_some_iff.mp ha).1
  have hl : (d.take e).length = e := by rw [List.length_take]; omega
  have g : ∀ k, (joinD d e a)[k]? = if k < e then d[k]? else d[a + 1 + (k - e)]? := fun k => by
    unfold joinD
    by_cases hk : k < e
    · rw [if_pos hk, List.getElem?_append_left (by omega), List.getElem?_take_of_lt hk]
    · rw [if_neg hk, List.getElem?_append_right (by omega), List.getElem?_drop, hl]
  refine ⟨?_, fun k x y hx hy hi => ?_⟩
  · obtain ⟨m, e0⟩ := hd.h0
    exact ⟨m, by rw [g, if_pos (by omega)]; exact e0⟩
  · rw [g] at hx hy
    by_cases k1 : k + 1 < e
    · rw [if_pos k1] at hy
      rw [if_pos (by omega)] at hx
      exact hd.hI k x y hx hy hi
    · rw [if_neg k1] at hy
      by_cases k2 : k < e
      · rw [if_pos k2] at hx
        by_cases k3 : k = s.2.1
        · rw [k3, f1] at hx
          cases hx
          rfl
        · obtain ⟨z, e1, e2⟩ := f2 k (by omega) (by omega)
          rw [hx] at e1
          cases e1
          cases x <;> simp [Ln.isI, Ln.isP] at e2 ⊢
      · rw [if_neg k2] at hx
        rw [show a + 1 + (k + 1 - e) = (a + 1 + (k - e)) + 1 by omega] at hy
        exact hd.hI _ x y hx hy hi
end TG

set_option Elab.async false
set_option linter.all false
set_option maxRecDepth 100000
set_option maxHeartbeats 8000000
namespace TG
open PySem PySem.Spec PyProof.Rows L2 G C D
def hdAtI (d : List Ln) (a : Int) : Option (Nat × Tx) := if 0 ≤ a then (match d[a.toNat]? with
  | some (.hd n) => some (a.toNat, n)
  | _ => none) else none
theorem hdAtI_some {d : List Ln} {a : Int} {k : Nat} {n : Tx} (h : hdAtI d a = some (k, n)) : a = k ∧ d[k]? = some (.hd n) := by
  unfold hdAtI at h
  split at h
  · rename_i h0
    split at h
    · rename_i m e
      cases h
      exact ⟨by omega, e⟩
    · cases h
  · cases h
theorem hdAtI_none {d : List Ln} {a : Int} (h : hdAtI d a = none) : a < 0 ∨ (d.length : Nat) ≤ a ∨ ∃ k : Nat, a = k ∧ ∃ l, d[k]? = some l ∧ l.isH = false := by
  by_cases h0 : 0 ≤ a
  · by_cases h1 : a < (d.length : Nat)
    · refine .inr (.inr ⟨a.toNat, by omega, d[a.toNat]'(by omega), List.getElem?_eq_getElem (by omega), ?_⟩)
      unfold hdAtI at h
      rw [if_pos h0, List.getElem?_eq_getElem (show a.toNat < d.length by omega)] at h
      cases e : d[a.toNat]'(by omega) with
      | hd n => rw [e] at h; cases h
      | _ => rfl
    · exact .inr (.inl (by omega))
  · exact .inl (by omega)
theorem hdAtI_of {d : List Ln} {k : Nat} {n : Tx} (h : d[k]? = some (.hd n)) : hdAtI d (k : Int) = some (k, n) := by
  unfold hdAtI
  rw [if_pos (by omega), Int.toNat_natCast, h]
def joinR (d : List Ln) (a : Int) : Option (List Ln) := (hdAtI d a).bind fun x => (befD d x.1 x.2).map fun e => joinD d e x.1
section
variable {L : Lm} {d : List Ln}
theorem ixd {k : Nat} {l : Ln} (h : d[k]? = some l) (st : Sto) : ixV (.tup (d.map vLn)) (.int (k : Nat)) st = .ok (vLn l) st := ixV_int rfl (by rw [List.getElem?_map, h]; rfl)
theorem ixd1 {k : Nat} {l : Ln} (h : d[k]? = some l) (st : Sto) : ixV (.tup (d.map vLn)) (.int ((k : Int) + 1 - 1)) st = .ok (vLn l) st := by rw [show (k : Int) + 1 - 1 = (k : Nat) by omega]; exact ixd h st
theorem backP_succ (d : List Ln) (k : Nat) : backP d (k + 1) = if d[k]? = some (.pr []) then backP d k else k + 1 := rfl
theorem prE : (Va.tup [.str [112, 114, 111, 115, 101], .str []]) = vLn (.pr []) := rfl
theorem mk2 (a b : Va) (st : Sto) : mkT [a, b] st = .ok (.tup [a, b]) st := mkT_val (by simp [sizeLine])
/-- the walk back over empty lines of prose, for the slots of join and of section_before -/
theorem join_run {a : Int} (hd : Doc d) (hl : d.length ≤ 1000) (hs : L.fn "sections" [.tup (d.map vLn)] = .ok (.lst ((secs d).map vSec)) fresh) (hpl : L.xs.pl "BadPlace" = some badT) :
    runD L D_join [.tup (d.map vLn), .int a] = match joinR d a with
      | some e => .ok (.tup (e.map vLn)) []
      | none => .err ⟨badT, []⟩ [] := by
  have fd : free (.tup (d.map vLn)) = true := by rw [free_tup]; exact frees_map free_vLn
  have c1 : ∀ st, callP false (L.fn "sections") [.tup (d.map vLn)] st = .ok (.lst ((secs d).map vSec)) st := fun st => callP_free (by simp only [frees_cons, fd]; rfl) hs
  refine runD_any _ [some (.tup (d.map vLn)), some (.int a), none, none, none, none] rfl rfl fun Q hr he => ?_
  simp -implicitDefEqProofs [D_join, S_join, mVar]
  cases hh : hdAtI d a with
  | none =>
    have e : joinR d a = none := by unfold joinR; rw [hh]; rfl
    rw [e] at he
    rcases hdAtI_none hh with h | h | ⟨k, rfl, l, h1, h2⟩
    · have : ¬ 0 ≤ a := by omega
      simp -implicitDefEqProofs [this, hpl]
      exact he _ _ _ rfl rfl
    · have h0 : 0 ≤ a := by omega
      have : ¬ a < (d.length : Nat) := by omega
      simp -implicitDefEqProofs [h0, this, hpl]
      exact he _ _ _ rfl rfl
    · have hlt := (List.getElem?_eq_some_iff.mp h1).1
      have h4 : (k : Int) < (d.length : Nat) := by omega
      simp -implicitDefEqProofs [h4, mVar, ixd h1]
      cases l with
      | hd n => simp [Ln.isH] at h2
      | pr t => simp -implicitDefEqProofs [vLn, proseT, hpl]; exact he _ _ _ rfl rfl
      | us i t => simp -implicitDefEqProofs [vLn, useT, hpl]; exact he _ _ _ rfl rfl
      | co t => simp -implicitDefEqProofs [vLn, codeT, hpl]; exact he _ _ _ rfl rfl
  | some x =>
    obtain ⟨k, n⟩ := x
    obtain ⟨rfl, hk⟩ := hdAtI_some hh
    have hlt := (List.getElem?_eq_some_iff.mp hk).1
    have h4 : (k : Int) < (d.length : Nat) := by omega
    have e : joinR d (k : Int) = (befD d k n).map fun e => joinD d e k := by unfold joinR; rw [hh]; rfl
    rw [e] at hr he
    simp -implicitDefEqProofs [h4, mVar, ixd hk, vLn, headT]
    refine wp_cut (fun e st => e = [some (.tup (d.map vLn)), some (.int (k : Nat)), some (.int (backP d k : Nat)), none, none, none]) (fun R h _ _ _ => ?_) ?_
    · refine wp_whileN (fun m env st => ∃ j : Nat, m = j ∧ j ≤ k ∧ backP d j = backP d k ∧ env = [some (.tup (d.map vLn)), some (.int (k : Nat)), some (.int (j : Nat)), none, none, none]) ?_ k (by unfold fuel; omega) ⟨k, rfl, by omega, rfl, rfl⟩
      rintro m env st Qc ⟨j, rfl, hj, hb, rfl⟩ hcn _ _ _
      cases m with
      | zero =>
        refine ⟨false, st, ?_, ?_⟩
        · simp -implicitDefEqProofs [mVar]
        · rw [if_neg Bool.false_ne_true]
          exact h _ _ (by rw [← hb]; rfl)
      | succ j =>
        obtain ⟨y, hy⟩ : ∃ y, d[j]? = some y := ⟨_, List.getElem?_eq_getElem (by omega)⟩
        have hp : (0 : Int) < (j : Int) + 1 := by omega
        refine ⟨decide (y = .pr []), st, ?_, ?_⟩
        · simp -implicitDefEqProofs [mVar, hp, ixd hy, mk2]
          rw [prE, eqV_Ln]
          simp -implicitDefEqProofs
        · rw [backP_succ, hy] at hb
          by_cases hy2 : y = .pr []
          · subst hy2
            simp only [if_true] at hb
            simp -implicitDefEqProofs [mVar]
            exact hcn _ _ j (by omega) ⟨j, rfl, by omega, hb, by simp⟩
          · have : ¬ (some y = some (Ln.pr [])) := fun z => hy2 (Option.some.inj z)
            rw [if_neg this] at hb
            simp -implicitDefEqProofs [hy2]
            exact h _ _ (by rw [← hb]; simp)
    · rintro e st rfl
      have hbf := bef_iff hd hk
      simp -implicitDefEqProofs [mVar, c1]
      refine wp_for (fun i env st => (∀ s ∈ (secs d).take i, isBef d k n s = false) ∧ ∃ x3 x4 x5, env = [some (.tup (d.map vLn)), some (.int (k : Nat)), some (.int (backP d k : Nat)), x3, x4, x5]) ⟨by simp, _, _, _, rfl⟩ ?_ ?_
      · rintro i w env st Qb hw ⟨hno, x3, x4, x5, rfl⟩ hnx _ hrt _
        rw [List.getElem?_map] at hw
        obtain ⟨s, hs, rfl⟩ := Option.map_eq_some_iff.mp hw
        refine ⟨rfl, _, rfl, ?_⟩
        have htk : (secs d).take (i + 1) = (secs d).take i ++ [s] := by rw [List.take_succ, hs]; rfl
        have hv : ∀ st, ixV (Va.tup [.str [104, 101, 97, 100], .str n]) (.int 1) st = .ok (.str n) st := fun st => ix_tup1 _ _ _
        have hk2 : ∀ st, ixV (.tup (d.map vLn)) (.int (k : Nat)) st = .ok (Va.tup [.str [104, 101, 97, 100], .str n]) st := fun st => ixd hk st
        have hno2 : isBef d k n s = false → (∀ x ∈ (secs d).take (i + 1), isBef d k n x = false) := fun h x hx => by
          rw [htk] at hx
          rcases List.mem_append.mp hx with hx | hx
          · exact hno x hx
          · rw [List.mem_singleton.mp hx]; exact h
        by_cases g1 : s.2.2 = backP d k
        · have g1' : ((s.2.2 : Nat) : Int) = (backP d k : Nat) := by omega
          by_cases g2 : s.2.1 < k
          · have g2' : ((s.2.1 : Nat) : Int) < (k : Nat) := by omega
            by_cases g3 : s.1 = n
            · have hin : isBef d k n s = true := by simp [isBef, g1, g2, g3]
              have hsm : (befD d k n).isSome = true := by
                rw [← hbf]
                exact List.find?_isSome.mpr ⟨s, List.mem_of_getElem? hs, hin⟩
              obtain ⟨e2, he2⟩ := Option.isSome_iff_exists.mp hsm
              have e3 : e2 = backP d k := (bef_sec hd hk he2).1
              rw [he2] at hr
              have hfr : free (.tup ((joinD d e2 k).map vLn)) = true := by rw [free_tup]; exact frees_map free_vLn
              have sl1 : ∀ st, sliceV false (.tup (d.map vLn)) (some ((k : Int) + 1)) none st = .ok (.tup ((d.map vLn).drop (k + 1))) st := fun st => by
                rw [show (k : Int) + 1 = ((k + 1 : Nat) : Int) by omega]
                exact slice_tf (k + 1) st
              simp -implicitDefEqProofs [-List.map_take, -List.map_drop, mVar, g1', g2', g3, hk2, hv, slice_tt, sl1, addV_tup]
              rw [mkT_val (by simp [sizeLine]; omega)]
              simp -implicitDefEqProofs [-List.map_take, -List.map_drop]
              refine hrt _ _ (hr _ _ ?_)
              have e : Va.tup ((joinD d e2 k).map vLn) = .tup ((d.map vLn).take (backP d k) ++ (d.map vLn).drop (k + 1)) := by
                unfold joinD
                rw [e3]
                simp
              rw [← e]
              exact ret_free hfr
            · simp -implicitDefEqProofs [mVar, g1', g2', g3, hk2, hv]
              exact hnx _ _ ⟨hno2 (by simp [isBef, g3]), _, _, _, rfl⟩
          · have g2' : ¬ ((s.2.1 : Nat) : Int) < (k : Nat) := by omega
            simp -implicitDefEqProofs [mVar, g1', g2']
            exact hnx _ _ ⟨hno2 (by simp [isBef, g2]), _, _, _, rfl⟩
        · have g1' : ¬ ((s.2.2 : Nat) : Int) = (backP d k : Nat) := by omega
          simp -implicitDefEqProofs [mVar, g1']
          exact hnx _ _ ⟨hno2 (by simp [isBef, g1]), _, _, _, rfl⟩
      · rintro env st ⟨hno, x3, x4, x5, rfl⟩
        refine ⟨rfl, ?_⟩
        rw [List.length_map, List.take_length] at hno
        have : (secs d).find? (isBef d k n) = none := List.find?_eq_none.mpr fun s hs => by simp [hno s hs]
        rw [this] at hbf
        have hb2 : befD d k n = none := by
          cases e : befD d k n with
          | none => rfl
          | some x => rw [e] at hbf; cases hbf
        rw [hb2] at he
        simp -implicitDefEqProofs [hpl]
        exact he _ _ _ rfl rfl
end
end TG

set_option Elab.async false
set_option linter.all false
set_option maxRecDepth 100000
set_option maxHeartbeats 8000000
namespace TG
open PySem PySem.Spec PyProof.Rows L2 G C D
section
variable {L : Lm} {d : List Ln}
theorem backI_succ (d : List Ln) (k : Nat) : backI d (k + 1) = match d[k]? with
    | some l => if l.isI = true then backI d k else k + 1
    | none => k + 1 := rfl
theorem secb_run {k : Nat} {n : Tx} (hl : d.length ≤ 1000) (hk : d[k]? = some (.hd n)) : runD L D__law_section_before [.tup (d.map vLn), .int (k : Nat)] = .ok (match befD d k n with
      | some e => .int (e : Nat)
      | none => .int (-1)) [] := by
  have hlt := (List.getElem?_eq_some_iff.mp hk).1
  refine runD_of (fun v s => v = match befD d k n with
      | some e => .int (e : Nat)
      | none => .int (-1)) [some (.tup (d.map vLn)), some (.int (k : Nat)), none, none] rfl rfl (fun v s h => by rw [h]; cases befD d k n <;> exact ret_free rfl) fun Q hr => ?_
  simp -implicitDefEqProofs [D__law_section_before, S__law_section_before, mVar]
  refine wp_cut (fun e st => e = [some (.tup (d.map vLn)), some (.int (k : Nat)), some (.int (backP d k : Nat)), none]) (fun R h _ _ _ => ?_) ?_
  · refine wp_whileN (fun m env st => ∃ j : Nat, m = j ∧ j ≤ k ∧ backP d j = backP d k ∧ env = [some (.tup (d.map vLn)), some (.int (k : Nat)), some (.int (j : Nat)), none]) ?_ k (by unfold fuel; omega) ⟨k, rfl, by omega, rfl, rfl⟩
    rintro m env st Qc ⟨j, rfl, hj, hb, rfl⟩ hcn _ _ _
    cases m with
    | zero =>
      refine ⟨false, st, ?_, ?_⟩
      · simp -implicitDefEqProofs [mVar]
      · rw [if_neg Bool.false_ne_true]
        exact h _ _ (by rw [← hb]; rfl)
    | succ j =>
      obtain ⟨y, hy⟩ : ∃ y, d[j]? = some y := ⟨_, List.getElem?_eq_getElem (by omega)⟩
      have hp : (0 : Int) < (j : Int) + 1 := by omega
      refine ⟨decide (y = .pr []), st, ?_, ?_⟩
      · simp -implicitDefEqProofs [mVar, hp, ixd hy, mk2]
        rw [prE, eqV_Ln]
        simp -implicitDefEqProofs
      · rw [backP_succ, hy] at hb
        by_cases hy2 : y = .pr []
        · subst hy2
          simp only [if_true] at hb
          simp -implicitDefEqProofs [mVar]
          exact hcn _ _ j (by omega) ⟨j, rfl, by omega, hb, by simp⟩
        · have : ¬ (some y = some (Ln.pr [])) := fun z => hy2 (Option.some.inj z)
          rw [if_neg this] at hb
          simp -implicitDefEqProofs [hy2]
          exact h _ _ (by rw [← hb]; simp)
  rintro e st rfl
  have hble := backP_le d k
  generalize hB : backP d k = B at *
  simp -implicitDefEqProofs [mVar]
  refine wp_cut (fun e st => e = [some (.tup (d.map vLn)), some (.int (k : Nat)), some (.int (B : Nat)), some (.int ((backI d B : Nat) - 1))]) (fun R h _ _ _ => ?_) ?_
  · refine wp_whileN (fun m env st => ∃ j : Nat, m = j ∧ j ≤ B ∧ backI d j = backI d B ∧ env = [some (.tup (d.map vLn)), some (.int (k : Nat)), some (.int (B : Nat)), some (.int ((j : Nat) - 1))]) ?_ B (by unfold fuel; omega) ⟨B, rfl, by omega, rfl, rfl⟩
    rintro m env st Qc ⟨j, rfl, hj, hb, rfl⟩ hcn _ _ _
    cases m with
    | zero =>
      refine ⟨false, st, ?_, ?_⟩
      · simp -implicitDefEqProofs [mVar]
      · rw [if_neg Bool.false_ne_true]
        exact h _ _ (by rw [← hb]; rfl)
    | succ j =>
      obtain ⟨y, hy⟩ : ∃ y, d[j]? = some y := ⟨_, List.getElem?_eq_getElem (by omega)⟩
      have hp : (0 : Int) ≤ (j : Int) + 1 - 1 := by omega
      have hp1 : (1 : Int) ≤ (j : Int) + 1 := by omega
      have mt2 : ∀ st, mkT [.str [99, 111, 100, 101], .str [117, 115, 101]] st = .ok (.tup [.str [99, 111, 100, 101], .str [117, 115, 101]]) st := mk2 _ _
      refine ⟨y.isI, st, ?_, ?_⟩
      · simp -implicitDefEqProofs [-Int.add_sub_cancel, mVar, hp, ixd1 hy, mk2]
        cases y <;> simp -implicitDefEqProofs [vLn, headT, proseT, useT, codeT, inV_tup, Ln.isI, hp1]
      · rw [backI_succ, hy] at hb
        cases hi : y.isI with
        | true =>
          simp only [hi, if_true] at hb
          simp -implicitDefEqProofs [mVar]
          exact hcn _ _ j (by omega) ⟨j, rfl, by omega, hb, by simp⟩
        | false =>
          simp only [hi, Bool.false_eq_true, if_false] at hb
          simp -implicitDefEqProofs
          exact h _ _ (by rw [← hb]; simp)
  rintro e st rfl
  have hile := backI_le d B
  have hbd : befD d k n = if 0 < backI d B ∧ d[backI d B - 1]? = some (.hd n) then some B else none := by unfold befD; rw [hB]
  rw [hbd] at hr
  generalize backI d B = I at *
  cases I with
  | zero =>
    rw [if_neg (by simp)] at hr
    simp -implicitDefEqProofs [mVar]
    exact hr _ _ rfl
  | succ I =>
    obtain ⟨y, hy⟩ : ∃ y, d[I]? = some y := ⟨_, List.getElem?_eq_getElem (by omega)⟩
    have hp : (0 : Int) ≤ (I : Int) + 1 - 1 := by omega
    rw [show I + 1 - 1 = I by omega, hy] at hr
    have hp1 : (1 : Int) ≤ (I : Int) + 1 := by omega
    simp -implicitDefEqProofs [-Int.add_sub_cancel, mVar, hp, hp1, ixd1 hy, ixd hk, eqV_Ln]
    by_cases hyn : y = .hd n
    · subst hyn
      rw [if_pos ⟨by omega, rfl⟩] at hr
      simp -implicitDefEqProofs [mVar]
      exact hr _ _ rfl
    · rw [if_neg (by rintro ⟨_, z⟩; exact hyn (Option.some.inj z))] at hr
      simp -implicitDefEqProofs [hyn]
      exact hr _ _ rfl
end
end TG

set_option Elab.async false
set_option linter.all false
set_option maxRecDepth 100000
set_option maxHeartbeats 8000000
namespace TG
open PySem PySem.Spec PyProof.Rows L2 G C D
theorem split_get {d : List Ln} {a : Nat} (ha : a ≤ d.length) (n : Tx) (k : Nat) : (splitD d a n)[k]? = if k < a then d[k]? else if k < a + 2 then [Ln.pr [], .hd n][k - a]? else d[k - 2]? := get_app3 d a ha _ k
theorem join_split {d : List Ln} (hd : Doc d) {s : Sec} (hs : s ∈ secs d) {a : Nat} (h1 : s.2.1 + 1 < a) (h2 : a < s.2.2) : joinR (splitD d a s.1) ((a : Int) + 1) = some d := by
  obtain ⟨f1, f2, f3, f4⟩ := sec_facts hd hs
  have g := split_get (d := d) (a := a) (by omega) s.1
  have ha1 : (splitD d a s.1)[a + 1]? = some (.hd s.1) := by
    rw [g, if_neg (by omega), if_pos (by omega), show a + 1 - a = 1 by omega]
    rfl
  have ha0 : (splitD d a s.1)[a]? = some (.pr []) := by
    rw [g, if_neg (by omega), if_pos (by omega), Nat.sub_self]
    rfl
  have hp : backP (splitD d a s.1) (a + 1) = a := by
    rw [backP_succ, if_pos ha0]
    obtain ⟨b, rfl⟩ : ∃ b, a = b + 1 := ⟨a - 1, by omega⟩
    rw [backP_succ, if_neg]
    rw [g, if_pos (by omega)]
    obtain ⟨y, e1, e2⟩ := f2 b (by omega) (by omega)
    rw [e1]
    intro z
    cases z
    simp [Ln.isI] at e2
  have hi : backI (splitD d a s.1) a = s.2.1 + 1 := backI_eq (x := .hd s.1) (by rw [g, if_pos (by omega)]; exact f1) rfl a (by omega) fun j h3 h4 => by
    rw [g, if_pos h4]
    exact f2 j h3 (by omega)
  have hb : befD (splitD d a s.1) (a + 1) s.1 = some a := by
    unfold befD
    rw [hp, hi, if_pos]
    exact ⟨by omega, by rw [show s.2.1 + 1 - 1 = s.2.1 by omega, g, if_pos (by omega)]; exact f1⟩
  unfold joinR
  rw [show (a : Int) + 1 = ((a + 1 : Nat) : Int) by omega, hdAtI_of ha1]
  show (befD (splitD d a s.1) (a + 1) s.1).map _ = _
  rw [hb]
  show some (joinD (splitD d a s.1) a (a + 1)) = some d
  congr 1
  have hl : (d.take a).length = a := by rw [List.length_take]; omega
  unfold joinD splitD
  rw [List.append_assoc, List.take_left' hl, List.drop_append, List.drop_eq_nil_of_le (by omega), hl, show a + 1 + 1 - a = 2 by omega]
  exact List.take_append_drop a d
theorem ok_split {d : List Ln} (hd : Doc d) (h : ∀ l ∈ d, LnOk l) {s : Sec} (hs : s ∈ secs d) (a : Nat) : ∀ l ∈ splitD d a s.1, LnOk l := by
  intro l hl
  rcases split_mem hl with h1 | rfl | rfl
  · exact h l h1
  · exact (by decide : ([] : Tx) ∈ proseTs)
  · exact h _ (List.mem_of_getElem? (sec_facts hd hs).1)
end TG

set_option Elab.async false
set_option linter.all false
set_option maxRecDepth 100000
set_option maxHeartbeats 8000000
/-! the words of law_k55_joined_and_moved_sections, printed by gen.py -/
namespace K55_JOINED_AND_MOVED_SECTIONS
open PySem PySem.Spec PyProof.Rows L2 G
def S_sections : S :=
  (.seq (.set (.inl 1) (.lst true .nil))
  (.seq (.sfor (.inr [2, 3]) (.ienum (.cons (.var 0) .nil))
  (.seq (.sif (.cmp .eq (.ix (.var 3) (.int 0)) (.str [104, 101, 97, 100]))
  (.seq (.expr (.mth .append (.var 1) (.cons (.tup (.cons (.ix (.var 3) (.int 1)) (.cons (.var 2) (.cons (.bin .add false (.var 2) (.int 1)) .nil)))) .nil)))
  .nil)
  (.seq (.sif (.cmp .ne (.ix (.var 3) (.int 0)) (.str [112, 114, 111, 115, 101]))
  (.seq (.set (.inr [4, 5, 6]) (.ix (.var 1) (.neg (.int 1))))
  (.seq (.setIx (.var 1) (.neg (.int 1)) (.tup (.cons (.var 4) (.cons (.var 5) (.cons (.bin .add false (.var 2) (.int 1)) .nil)))))
  .nil))
  .nil)
  .nil))
  .nil))
  (.seq (.ret (.var 1))
  .nil)))
def D_sections : Df := ⟨["document", "found", "at", "line", "name", "head", "end"], 1, S_sections⟩
def S_table_of : S :=
  (.seq (.set (.inl 1) (.dnew true))
  (.seq (.sfor (.inr [2, 3, 4]) (.call "sections" false (.cons (.var 0) .nil))
  (.seq (.expr (.mth .extend (.mth .setdefault (.var 1) (.cons (.var 2) (.cons (.lst true .nil) .nil))) (.cons (.lrng false (.bin .add false (.var 3) (.int 1)) (.var 4)) .nil)))
  .nil))
  (.seq (.ret (.var 1))
  .nil)))
def D_table_of : Df := ⟨["document", "table", "name", "head", "end"], 1, S_table_of⟩
def S_ring_from : S :=
  (.seq (.ret (.bif .tuple false (.cons (.sl false (.var 0) (.mth .index (.var 0) (.cons (.var 1) .nil)) .nil) .nil)))
  .nil)
def D_ring_from : Df := ⟨["path", "name"], 2, S_ring_from⟩
def S_closure : S :=
  (.seq (.set (.inl 2) (.call "table_of" false (.cons (.var 0) .nil)))
  (.seq (.sif (.cmp .notIn (.var 1) (.var 2))
  (.seq (.raisI "NoPiece" (.cons (.var 1) .nil))
  .nil)
  .nil)
  (.seq (.set (.inl 3) (.lst true (.cons (.var 1) .nil)))
  (.seq (.set (.inl 4) (.lst true (.cons (.var 1) .nil)))
  (.seq (.set (.inl 5) (.lst true (.cons (.bif .list true (.cons (.ix (.var 2) (.var 1)) .nil)) .nil)))
  (.seq (.swh (.var 4)
  (.seq (.sif (.not (.ix (.var 5) (.neg (.int 1))))
  (.seq (.expr (.mth .pop (.var 4) .nil))
  (.seq (.expr (.mth .pop (.var 5) .nil))
  (.seq .cont
  .nil)))
  .nil)
  (.seq (.set (.inl 6) (.mth .pop (.ix (.var 5) (.neg (.int 1))) (.cons (.int 0) .nil)))
  (.seq (.sif (.cmp .ne (.ix (.ix (.var 0) (.var 6)) (.int 0)) (.str [117, 115, 101]))
  (.seq .cont
  .nil)
  .nil)
  (.seq (.set (.inl 7) (.ix (.ix (.var 0) (.var 6)) (.int 2)))
  (.seq (.sif (.cmp .notIn (.var 7) (.var 2))
  (.seq (.raisI "Missing" (.cons (.var 6) (.cons (.var 7) .nil)))
  .nil)
  .nil)
  (.seq (.sif (.cmp .in_ (.var 7) (.var 4))
  (.seq (.raisI "Ring" (.cons (.call "ring_from" false (.cons (.var 4) (.cons (.var 7) .nil))) .nil))
  .nil)
  .nil)
  (.seq (.sif (.cmp .notIn (.var 7) (.var 3))
  (.seq (.expr (.mth .append (.var 3) (.cons (.var 7) .nil)))
  (.seq (.expr (.mth .append (.var 4) (.cons (.var 7) .nil)))
  (.seq (.expr (.mth .append (.var 5) (.cons (.bif .list true (.cons (.ix (.var 2) (.var 7)) .nil)) .nil)))
  .nil)))
  .nil)
  .nil))))))))
  (.seq (.ret (.var 3))
  .nil)))))))
def D_closure : Df := ⟨["document", "root", "table", "order", "path", "left", "at", "name"], 2, S_closure⟩
def S_split : S :=
  (.seq (.sfor (.inr [2, 3, 4]) (.call "sections" false (.cons (.var 0) .nil))
  (.seq (.sif (.cmp2 .lt .lt (.bin .add false (.var 3) (.int 1)) (.var 1) (.var 4))
  (.seq (.ret (.bin .add false (.bin .add false (.sl false (.var 0) .nil (.var 1)) (.tup (.cons (.tup (.cons (.str [112, 114, 111, 115, 101]) (.cons (.str []) .nil))) (.cons (.tup (.cons (.str [104, 101, 97, 100]) (.cons (.var 2) .nil))) .nil)))) (.sl false (.var 0) (.var 1) .nil)))
  .nil)
  .nil)
  .nil))
  (.seq (.rais "BadPlace" [116, 104, 101, 32, 108, 105, 110, 101, 32, 104, 97, 115, 32, 110, 111, 32, 108, 105, 110, 101, 32, 111, 102, 32, 105, 116, 115, 32, 115, 101, 99, 116, 105, 111, 110, 32, 98, 101, 102, 111, 114, 101, 32, 105, 116])
  .nil))
def D_split : Df := ⟨["document", "at", "name", "head", "end"], 2, S_split⟩
def S_join : S :=
  (.seq (.sif (.or (.cons (.not (.cmp2 .le .lt (.int 0) (.var 1) (.bif .len false (.cons (.var 0) .nil)))) (.cons (.cmp .ne (.ix (.ix (.var 0) (.var 1)) (.int 0)) (.str [104, 101, 97, 100])) .nil)))
  (.seq (.rais "BadPlace" [116, 104, 101, 32, 108, 105, 110, 101, 32, 105, 115, 32, 110, 111, 32, 104, 101, 97, 100])
  .nil)
  .nil)
  (.seq (.set (.inl 2) (.var 1))
  (.seq (.swh (.and (.cons (.cmp .gt (.var 2) (.int 0)) (.cons (.cmp .eq (.ix (.var 0) (.bin .sub false (.var 2) (.int 1))) (.tup (.cons (.str [112, 114, 111, 115, 101]) (.cons (.str []) .nil)))) .nil)))
  (.seq (.set (.inl 2) (.bin .sub false (.var 2) (.int 1)))
  .nil))
  (.seq (.sfor (.inr [3, 4, 5]) (.call "sections" false (.cons (.var 0) .nil))
  (.seq (.sif (.and (.cons (.cmp .eq (.var 5) (.var 2)) (.cons (.cmp .lt (.var 4) (.var 1)) (.cons (.cmp .eq (.var 3) (.ix (.ix (.var 0) (.var 1)) (.int 1))) .nil))))
  (.seq (.ret (.bin .add false (.sl false (.var 0) .nil (.var 2)) (.sl false (.var 0) (.bin .add false (.var 1) (.int 1)) .nil)))
  .nil)
  .nil)
  .nil))
  (.seq (.rais "BadPlace" [116, 104, 101, 114, 101, 32, 105, 115, 32, 110, 111, 32, 115, 101, 99, 116, 105, 111, 110, 32, 111, 102, 32, 116, 104, 101, 32, 112, 105, 101, 99, 101, 32, 100, 105, 114, 101, 99, 116, 108, 121, 32, 98, 101, 102, 111, 114, 101, 32, 116, 104, 101, 32, 108, 105, 110, 101])
  .nil)))))
def D_join : Df := ⟨["document", "at", "end", "name", "head", "last"], 2, S_join⟩
def S_lengths_of : S :=
  (.seq (.set (.inl 2) (.call "table_of" false (.cons (.var 0) .nil)))
  (.seq (.set (.inl 3) (.dnew true))
  (.seq (.set (.inl 4) (.bif .list true (.cons (.var 1) .nil)))
  (.seq (.swh (.var 4)
  (.seq (.set (.inl 5) (.ix (.var 4) (.neg (.int 1))))
  (.seq (.set (.inl 6) (.lc false [8] (.inl 8) (.ix (.var 2) (.var 5)) (.cmp .eq (.ix (.ix (.var 0) (.var 8)) (.int 0)) (.str [117, 115, 101])) (.ix (.ix (.var 0) (.var 8)) (.int 2))))
  (.seq (.set (.inl 7) (.lc false [9] (.inl 9) (.var 6) (.cmp .notIn (.var 9) (.var 3)) (.var 9)))
  (.seq (.sif (.cmp .in_ (.var 5) (.var 3))
  (.seq (.expr (.mth .pop (.var 4) .nil))
  .nil)
  (.seq (.sif (.var 7)
  (.seq (.expr (.mth .append (.var 4) (.cons (.ix (.var 7) (.int 0)) .nil)))
  .nil)
  (.seq (.setIx (.var 3) (.var 5) (.bin .add false (.bin .sub false (.bif .len false (.cons (.ix (.var 2) (.var 5)) .nil)) (.bif .len false (.cons (.var 6) .nil))) (.cbf .sum false (.cons (.lc false [9] (.inl 9) (.var 6) .nil (.ix (.var 3) (.var 9))) .nil))))
  (.seq (.expr (.mth .pop (.var 4) .nil))
  .nil)))
  .nil))
  .nil)))))
  (.seq (.ret (.var 3))
  .nil)))))
def D_lengths_of : Df := ⟨["document", "order", "table", "known", "waiting", "name", "needed", "unknown", "at", "other"], 2, S_lengths_of⟩
def S_length : S :=
  (.seq (.ret (.ix (.call "lengths_of" false (.cons (.var 0) (.cons (.call "closure" false (.cons (.var 0) (.cons (.var 1) .nil))) .nil))) (.var 1)))
  .nil)
def D_length : Df := ⟨["document", "root"], 2, S_length⟩
def S_shown : S :=
  (.seq (.sif (.cmp .eq (.var 1) (.str []))
  (.seq (.ret (.str []))
  .nil)
  .nil)
  (.seq (.ret (.bin .add false (.bin .mul false (.str [32]) (.var 0)) (.var 1)))
  .nil))
def D_shown : Df := ⟨["indent", "text"], 2, S_shown⟩
def S_tangle : S :=
  (.seq (.set (.inl 2) (.call "lengths_of" false (.cons (.var 0) (.cons (.call "closure" false (.cons (.var 0) (.cons (.var 1) .nil))) .nil))))
  (.seq (.sif (.cmp .gt (.ix (.var 2) (.var 1)) (.glob "MOST_LINES"))
  (.seq .stk
  .nil)
  .nil)
  (.seq (.set (.inl 3) (.call "table_of" false (.cons (.var 0) .nil)))
  (.seq (.set (.inl 4) (.lst true .nil))
  (.seq (.set (.inl 5) (.lc true [7] (.inl 7) (.irev (.ix (.var 3) (.var 1))) .nil (.tup (.cons (.var 7) (.cons (.int 0) (.cons (.tup .nil) .nil))))))
  (.seq (.swh (.var 5)
  (.seq (.set (.inr [7, 8, 9]) (.mth .pop (.var 5) .nil))
  (.seq (.set (.inl 6) (.ix (.var 0) (.var 7)))
  (.seq (.sif (.cmp .eq (.ix (.var 6) (.int 0)) (.str [99, 111, 100, 101]))
  (.seq (.expr (.mth .append (.var 4) (.cons (.tup (.cons (.call "shown" false (.cons (.var 8) (.cons (.ix (.var 6) (.int 1)) .nil))) (.cons (.var 7) (.cons (.var 9) .nil)))) .nil)))
  .nil)
  (.seq (.sif (.cmp .gt (.ix (.var 2) (.ix (.var 6) (.int 2))) (.int 0))
  (.seq (.sfor (.inl 10) (.irev (.ix (.var 3) (.ix (.var 6) (.int 2))))
  (.seq (.expr (.mth .append (.var 5) (.cons (.tup (.cons (.var 10) (.cons (.bin .add false (.var 8) (.ix (.var 6) (.int 1))) (.cons (.bin .add false (.var 9) (.tup (.cons (.var 7) .nil))) .nil)))) .nil)))
  .nil))
  .nil)
  .nil)
  .nil))
  .nil))))
  (.seq (.ret (.var 4))
  .nil)))))))
def D_tangle : Df := ⟨["document", "root", "known", "table", "program", "waiting", "line", "at", "indent", "path", "inner"], 2, S_tangle⟩
def S_texts_of : S :=
  (.seq (.ret (.lc false [1] (.inl 1) (.var 0) .nil (.ix (.var 1) (.int 0))))
  .nil)
def D_texts_of : Df := ⟨["lines", "line"], 1, S_texts_of⟩
def S__law_cell : S :=
  (.seq (.sif (.cmp .lt (.var 1) (.bif .len false (.cons (.var 0) .nil)))
  (.seq (.ret (.ix (.var 0) (.var 1)))
  .nil)
  .nil)
  (.seq (.ret (.int 0))
  .nil))
def D__law_cell : Df := ⟨["_law_script", "_law_k"], 2, S__law_cell⟩
def S__law_draws : S :=
  (.seq (.set (.inl 2) (.lst true .nil))
  (.seq (.set (.inl 3) (.cmp .ge (.var 0) (.bin .pow false (.int 10) (.int 18))))
  (.seq (.sfor (.inl 4) (.irng (.cons (.var 1) .nil))
  (.seq (.sif (.var 3)
  (.seq (.expr (.mth .append (.var 2) (.cons (.bin .mod false (.var 0) (.int 1009)) .nil)))
  (.seq (.set (.inl 0) (.bin .fdiv false (.var 0) (.int 1009)))
  .nil))
  (.seq (.set (.inl 5) (.bin .mod false (.bin .add false (.bin .mul false (.var 0) (.int 48271)) (.bin .mul false (.var 4) (.int 69621))) (.int 2147483647)))
  (.seq (.expr (.mth .append (.var 2) (.cons (.bin .mod false (.bin .add false (.bin .add false (.bin .mul false (.var 5) (.var 5)) (.bin .mul false (.var 0) (.int 31))) (.var 4)) (.int 1000003)) .nil)))
  .nil)))
  .nil))
  (.seq (.ret (.var 2))
  .nil))))
def D__law_draws : Df := ⟨["_law_cell_here", "_law_count", "_law_found", "_law_is_wide", "_law_k", "_law_mixed"], 2, S__law_draws⟩
def S__law_text : S :=
  (.seq (.ret (.ix (.lst false (.cons (.str []) (.cons (.str [120]) (.cons (.str [32, 32, 121]) (.cons (.str [120, 32, 121]) (.cons (.str [60, 97]) (.cons (.str [122, 62]) (.cons (.str [32]) (.cons (.str [105, 102, 32, 60, 98, 62, 32, 120]) (.cons (.str [32, 32, 32, 32]) (.cons (.str [119]) (.cons (.str [120]) (.cons (.str [61, 113]) .nil))))))))))))) (.bin .mod false (.var 0) (.int 12))))
  .nil)
def D__law_text : Df := ⟨["_law_draw"], 1, S__law_text⟩
def S__law_line : S :=
  (.seq (.set (.inl 3) (.bin .mod false (.ix (.var 0) (.int 0)) (.int 11)))
  (.seq (.sif (.cmp .lt (.var 3) (.int 2))
  (.seq (.ret (.tup (.cons (.str [112, 114, 111, 115, 101]) (.cons (.ix (.lst false (.cons (.str []) (.cons (.str [119, 111, 114, 100, 115]) (.cons (.str [109, 111, 114, 101, 32, 119, 111, 114, 100, 115]) (.cons (.str [32, 60, 97, 62]) .nil))))) (.bin .mod false (.ix (.var 0) (.int 1)) (.int 4))) .nil))))
  .nil)
  .nil)
  (.seq (.sif (.cmp .lt (.var 3) (.int 4))
  (.seq (.ret (.tup (.cons (.str [104, 101, 97, 100]) (.cons (.ix (.str [97, 98, 99, 100, 101]) (.bin .mod false (.ix (.var 0) (.int 1)) (.int 5))) .nil))))
  .nil)
  .nil)
  (.seq (.sif (.cmp .lt (.var 3) (.int 7))
  (.seq (.set (.inl 4) (.bin .mod false (.ix (.var 0) (.int 2)) (.int 6)))
  (.seq (.sif (.var 2)
  (.seq (.set (.inl 4) (.bin .add false (.bin .add false (.var 1) (.int 1)) (.bin .mod false (.ix (.var 0) (.int 2)) (.int 2))))
  .nil)
  .nil)
  (.seq (.sif (.and (.cons (.cmp .lt (.var 4) (.int 6)) (.cons (.or (.cons (.cmp .lt (.var 4) (.int 5)) (.cons (.not (.var 2)) .nil))) .nil)))
  (.seq (.ret (.tup (.cons (.str [117, 115, 101]) (.cons (.ix (.lst false (.cons (.int 0) (.cons (.int 0) (.cons (.int 2) (.cons (.int 4) (.cons (.int 1) .nil)))))) (.bin .mod false (.ix (.var 0) (.int 3)) (.int 5))) (.cons (.ix (.str [97, 98, 99, 100, 101, 102]) (.var 4)) .nil)))))
  .nil)
  .nil)
  .nil)))
  .nil)
  (.seq (.ret (.tup (.cons (.str [99, 111, 100, 101]) (.cons (.call "_law_text" false (.cons (.ix (.var 0) (.int 4)) .nil)) .nil))))
  .nil)))))
def D__law_line : Df := ⟨["_law_draws_here", "_law_current", "_law_calm", "_law_kind", "_law_name"], 3, S__law_line⟩
def S__law_document : S :=
  (.seq (.set (.inl 4) (.lst true (.cons (.tup (.cons (.str [104, 101, 97, 100]) (.cons (.str [97]) .nil))) .nil)))
  (.seq (.set (.inl 5) (.int 0))
  (.seq (.set (.inl 6) (.bl true))
  (.seq (.sfor (.inl 7) (.irng (.cons (.var 2) .nil))
  (.seq (.set (.inl 8) (.call "_law_line" false (.cons (.call "_law_draws" false (.cons (.call "_law_cell" false (.cons (.var 0) (.cons (.bin .add false (.var 1) (.var 7)) .nil))) (.cons (.int 5) .nil))) (.cons (.var 5) (.cons (.var 3) .nil)))))
  (.seq (.sif (.and (.cons (.not (.var 6)) (.cons (.cmp .in_ (.ix (.var 8) (.int 0)) (.tup (.cons (.str [99, 111, 100, 101]) (.cons (.str [117, 115, 101]) .nil)))) .nil)))
  (.seq (.set (.inl 8) (.tup (.cons (.str [104, 101, 97, 100]) (.cons (.ix (.str [97, 98, 99, 100, 101]) (.bin .mod false (.call "_law_cell" false (.cons (.var 0) (.cons (.bin .add false (.var 1) (.var 7)) .nil))) (.int 5))) .nil))))
  .nil)
  .nil)
  (.seq (.set (.inl 6) (.cmp .ne (.ix (.var 8) (.int 0)) (.str [112, 114, 111, 115, 101])))
  (.seq (.sif (.cmp .eq (.ix (.var 8) (.int 0)) (.str [104, 101, 97, 100]))
  (.seq (.set (.inl 5) (.mth .find (.str [97, 98, 99, 100, 101]) (.cons (.ix (.var 8) (.int 1)) .nil)))
  .nil)
  .nil)
  (.seq (.expr (.mth .append (.var 4) (.cons (.var 8) .nil)))
  .nil))))))
  (.seq (.ret (.bif .tuple false (.cons (.var 4) .nil)))
  .nil)))))
def D__law_document : Df := ⟨["_law_script", "_law_at", "_law_count", "_law_calm", "_law_document_here", "_law_current", "_law_is_open", "_law_k", "_law_line_here"], 4, S__law_document⟩
def S__law_shown : S :=
  (.seq (.tryE
  (.seq (.sif (.cmp .gt (.call "length" false (.cons (.var 0) (.cons (.var 1) .nil))) (.int 150))
  (.seq (.ret (.tup (.cons (.str [108, 111, 110, 103]) .nil)))
  .nil)
  .nil)
  (.seq (.ret (.call "texts_of" false (.cons (.call "tangle" false (.cons (.var 0) (.cons (.var 1) .nil))) .nil)))
  .nil))
  (.hnd "NoPiece" none
  (.seq (.ret (.tup (.cons (.str [110, 111, 110, 101]) .nil)))
  .nil)
  (.hnd "Missing" none
  (.seq (.ret (.tup (.cons (.str [109, 105, 115, 115, 105, 110, 103]) .nil)))
  .nil)
  (.hnd "Ring" none
  (.seq (.ret (.tup (.cons (.str [114, 105, 110, 103]) .nil)))
  .nil)
  .hend))))
  .nil)
def D__law_shown : Df := ⟨["_law_document_here", "_law_root"], 2, S__law_shown⟩
def S__law_same_programs : S :=
  (.seq (.sfor (.inl 2) (.lst false (.cons (.str [97]) (.cons (.str [98]) (.cons (.str [99]) (.cons (.str [100]) (.cons (.str [101]) .nil))))))
  (.seq (.sif (.cmp .ne (.call "_law_shown" false (.cons (.var 0) (.cons (.var 2) .nil))) (.call "_law_shown" false (.cons (.var 1) (.cons (.var 2) .nil))))
  (.seq (.ret (.bl false))
  .nil)
  .nil)
  .nil))
  (.seq (.ret (.bl true))
  .nil))
def D__law_same_programs : Df := ⟨["_law_one", "_law_other", "_law_root"], 2, S__law_same_programs⟩
def S__law_is_own : S :=
  (.seq (.ret (.and (.cons (.cmp2 .le .lt (.int 0) (.var 1) (.bif .len false (.cons (.var 0) .nil))) (.cons (.cmp .in_ (.ix (.ix (.var 0) (.var 1)) (.int 0)) (.tup (.cons (.str [99, 111, 100, 101]) (.cons (.str [117, 115, 101]) .nil)))) .nil))))
  .nil)
def D__law_is_own : Df := ⟨["_law_document_here", "_law_at"], 2, S__law_is_own⟩
def S__law_section_before : S :=
  (.seq (.set (.inl 2) (.var 1))
  (.seq (.swh (.and (.cons (.cmp .gt (.var 2) (.int 0)) (.cons (.cmp .eq (.ix (.var 0) (.bin .sub false (.var 2) (.int 1))) (.tup (.cons (.str [112, 114, 111, 115, 101]) (.cons (.str []) .nil)))) .nil)))
  (.seq (.set (.inl 2) (.bin .sub false (.var 2) (.int 1)))
  .nil))
  (.seq (.set (.inl 3) (.bin .sub false (.var 2) (.int 1)))
  (.seq (.swh (.and (.cons (.cmp .ge (.var 3) (.int 0)) (.cons (.cmp .in_ (.ix (.ix (.var 0) (.var 3)) (.int 0)) (.tup (.cons (.str [99, 111, 100, 101]) (.cons (.str [117, 115, 101]) .nil)))) .nil)))
  (.seq (.set (.inl 3) (.bin .sub false (.var 3) (.int 1)))
  .nil))
  (.seq (.sif (.and (.cons (.cmp .ge (.var 3) (.int 0)) (.cons (.cmp .eq (.ix (.var 0) (.var 3)) (.ix (.var 0) (.var 1))) .nil)))
  (.seq (.ret (.var 2))
  .nil)
  .nil)
  (.seq (.ret (.neg (.int 1)))
  .nil))))))
def D__law_section_before : Df := ⟨["_law_document_here", "_law_at", "_law_end", "_law_head"], 2, S__law_section_before⟩
def S_law : S :=
  (.seq (.set (.inl 1) (.call "_law_document" false (.cons (.var 0) (.cons (.int 3) (.cons (.bin .add false (.int 1) (.bin .mod false (.call "_law_cell" false (.cons (.var 0) (.cons (.int 0) .nil))) (.int 25))) (.cons (.cmp .gt (.bin .mod false (.call "_law_cell" false (.cons (.var 0) (.cons (.int 1) .nil))) (.int 3)) (.int 0)) .nil))))))
  (.seq (.set (.inl 2) (.bin .sub false (.bin .mod false (.call "_law_cell" false (.cons (.var 0) (.cons (.int 2) .nil))) (.bin .add false (.bif .len false (.cons (.var 1) .nil)) (.int 2))) (.int 1)))
  (.seq (.sif (.and (.cons (.call "_law_is_own" false (.cons (.var 1) (.cons (.var 2) .nil))) (.cons (.call "_law_is_own" false (.cons (.var 1) (.cons (.bin .sub false (.var 2) (.int 1)) .nil))) .nil)))
  (.seq (.set (.inl 4) (.call "split" false (.cons (.var 1) (.cons (.var 2) .nil))))
  (.seq (.set (.inl 5) (.var 2))
  (.seq (.swh (.cmp .ne (.ix (.ix (.var 1) (.var 5)) (.int 0)) (.str [104, 101, 97, 100]))
  (.seq (.set (.inl 5) (.bin .sub false (.var 5) (.int 1)))
  .nil))
  (.seq (.set (.inl 6) (.bin .add false (.bin .add false (.sl false (.var 1) .nil (.var 2)) (.tup (.cons (.tup (.cons (.str [112, 114, 111, 115, 101]) (.cons (.str []) .nil))) (.cons (.ix (.var 1) (.var 5)) .nil)))) (.sl false (.var 1) (.var 2) .nil)))
  (.seq (.sif (.or (.cons (.cmp .ne (.var 4) (.var 6)) (.cons (.cmp .ne (.call "join" false (.cons (.var 4) (.cons (.bin .add false (.var 2) (.int 1)) .nil))) (.var 1)) .nil)))
  (.seq (.ret (.bl false))
  .nil)
  .nil)
  (.seq (.set (.inl 1) (.var 6))
  .nil))))))
  .nil)
  (.seq (.swh (.and (.cons (.cmp2 .lt .lt (.int 0) (.var 2) (.bif .len false (.cons (.var 1) .nil))) (.cons (.cmp .ne (.ix (.ix (.var 1) (.var 2)) (.int 0)) (.str [104, 101, 97, 100])) .nil)))
  (.seq (.set (.inl 2) (.bin .sub false (.var 2) (.int 1)))
  .nil))
  (.seq (.set (.inl 3) (.neg (.int 1)))
  (.seq (.sif (.and (.cons (.cmp2 .le .lt (.int 0) (.var 2) (.bif .len false (.cons (.var 1) .nil))) (.cons (.cmp .eq (.ix (.ix (.var 1) (.var 2)) (.int 0)) (.str [104, 101, 97, 100])) .nil)))
  (.seq (.set (.inl 3) (.call "_law_section_before" false (.cons (.var 1) (.cons (.var 2) .nil))))
  .nil)
  .nil)
  (.seq (.tryE
  (.seq (.set (.inl 4) (.call "join" false (.cons (.var 1) (.cons (.var 2) .nil))))
  .nil)
  (.hnd "BadPlace" none
  (.seq (.ret (.cmp .lt (.var 3) (.int 0)))
  .nil)
  .hend))
  (.seq (.sif (.or (.cons (.cmp .lt (.var 3) (.int 0)) (.cons (.not (.isi "tuple" (.var 4))) (.cons (.cmp .ne (.var 4) (.bin .add false (.sl false (.var 1) .nil (.var 3)) (.sl false (.var 1) (.bin .add false (.var 2) (.int 1)) .nil))) .nil))))
  (.seq (.ret (.bl false))
  .nil)
  .nil)
  (.seq (.ret (.call "_law_same_programs" false (.cons (.var 1) (.cons (.var 4) .nil))))
  .nil)))))))))
def D_law : Df := ⟨["_law_script", "_law_document_here", "_law_at", "_law_due", "_law_made", "_law_head", "_law_whole"], 1, S_law⟩
def ow_Missing : Ow := ⟨[77, 105, 115, 115, 105, 110, 103], 2, [.c "line ", .p 0, .c ": there is no piece ", .p 1], [("line", 0), ("name", 1)]⟩
def ow_NoPiece : Ow := ⟨[78, 111, 80, 105, 101, 99, 101], 1, [.c "there is no piece ", .p 0], [("name", 0)]⟩
def ow_Ring : Ow := ⟨[82, 105, 110, 103], 1, [.c "pieces need one another in a ring"], [("names", 0)]⟩
end K55_JOINED_AND_MOVED_SECTIONS

set_option Elab.async false
set_option linter.all false
set_option maxRecDepth 100000
set_option maxHeartbeats 8000000
namespace K55_JOINED_AND_MOVED_SECTIONS
open PySem PySem.Spec PyProof.Rows L2 G C D TG
theorem law_ok {L : Lm} (ns : List Int) (s1 : L.xs.sub badT "BadPlace" = some true) (hc : ∀ (k : Nat), L.fn "_law_cell" [.scr (ns.map .int), .int k] = .ok (.int (cell ns k)) [])
    (hdoc : ∀ (n : Nat) (calm : Bool), n < 100 → ∃ w, (∃ d : List Ln, Doc d ∧ d.length = n + 1 ∧ (∀ l ∈ d, LnOk l) ∧ w = .tup (d.map vLn)) ∧ L.fn "_law_document" [.scr (ns.map .int), .int 3, .int n, .bl calm] = .ok w [])
    (hown : ∀ {d : List Ln} (a : Int), L.fn "_law_is_own" [.tup (d.map vLn), .int a] = .ok (.bl (isOwn d a)) [])
    (hsp : ∀ {d : List Ln} (a : Int), Doc d → d.length ≤ 100 → L.fn "split" [.tup (d.map vLn), .int a] = match (secs d).find? (inSec a) with
      | some s => .ok (.tup ((splitD d a.toNat s.1).map vLn)) []
      | none => .err ⟨badT, []⟩ [])
    (hjn : ∀ {d : List Ln} (a : Int), Doc d → d.length ≤ 100 → L.fn "join" [.tup (d.map vLn), .int a] = match joinR d a with
      | some e => .ok (.tup (e.map vLn)) []
      | none => .err ⟨badT, []⟩ [])
    (hsb : ∀ {d : List Ln} {k : Nat} {n : Tx}, d.length ≤ 100 → d[k]? = some (.hd n) → L.fn "_law_section_before" [.tup (d.map vLn), .int (k : Nat)] = .ok (match befD d k n with
      | some e => .int (e : Nat)
      | none => .int (-1)) [])
    (hsame : ∀ {d e : List Ln}, DOk 4 d → DOk 4 e → d.length ≤ 40 → (∀ l ∈ d, LnOk l) → (∀ n, hsB (bd d) n ↔ hsB (bd e) n) → (∀ n, ownB (bd d) n = ownB (bd e) n) → L.fn "_law_same_programs" [.tup (d.map vLn), .tup (e.map vLn)] = .ok (.bl true) []) :
    runD L D_law [.scr (ns.map .int)] = .ok (.bl true) [] := by
  have hsc : frees (ns.map Va.int) = true := frees_map fun _ => rfl
  have hc0 : ∀ st, callP false (L.fn "_law_cell") [.scr (ns.map .int), .int 0] st = .ok (.int (cell ns 0)) st := fun st => callP_free (by simp [hsc]) (hc 0)
  have hc1 : ∀ st, callP false (L.fn "_law_cell") [.scr (ns.map .int), .int 1] st = .ok (.int (cell ns 1)) st := fun st => callP_free (by simp [hsc]) (hc 1)
  have hc2 : ∀ st, callP false (L.fn "_law_cell") [.scr (ns.map .int), .int 2] st = .ok (.int (cell ns 2)) st := fun st => callP_free (by simp [hsc]) (hc 2)
  obtain ⟨n, hn, en⟩ := fmod_at (cell ns 0) (n := 25) (by decide)
  have en' : (1 : Int) + (cell ns 0).fmod 25 = ((1 + n : Nat) : Int) := by
    have : (cell ns 0).fmod 25 = (n : Int) := en
    rw [this]
    omega
  obtain ⟨w, ⟨d, hd, hdl, hall, rfl⟩, ed⟩ := hdoc (1 + n) (decide (0 < (cell ns 1).fmod 3)) (by omega)
  have fd : ∀ d : List Ln, frees (d.map vLn) = true := fun d => frees_map free_vLn
  have cD : ∀ st, callP false (L.fn "_law_document") [.scr (ns.map .int), .int 3, .int ((1 + n : Nat) : Int), .bl (decide (0 < (cell ns 1).fmod 3))] st = .ok (.tup (d.map vLn)) st := fun st => callP_free (by simp [hsc]) ed
  obtain ⟨m, hm, em⟩ := fmod_at (cell ns 2) (n := d.length + 2) (by omega)
  obtain ⟨a, ha⟩ : ∃ a : Int, (cell ns 2).fmod ((d.length : Nat) + 2) - 1 = a := ⟨_, rfl⟩
  have hal : a ≤ (d.length : Nat) := by
    have : (cell ns 2).fmod ((d.length : Nat) + 2) = (m : Nat) := by rw [← em]; congr 1
    omega
  have cO : ∀ (a : Int) st, callP false (L.fn "_law_is_own") [.tup (d.map vLn), .int a] st = .ok (.bl (isOwn d a)) st := fun a st => callP_free (by simp [fd]) (hown a)
  have hz : ((d.length : Nat) : Int) + 2 ≠ 0 := by omega
  have hin := in_iff hd a
  have hs := hsp a hd (by omega)
  have hspo : ∀ s, (secs d).find? (inSec a) = some s → ∀ st, callP false (L.fn "split") [.tup (d.map vLn), .int a] st = .ok (.tup ((splitD d a.toNat s.1).map vLn)) st := fun s h st => callP_free (by simp [fd]) (by rw [hs, h])
  have mk : ∀ (l : List Va) (st : Sto), l.length ≤ 2000 → mkT l st = .ok (.tup l) st := fun l st h => mkT_val (by unfold sizeLine; omega)
  have qq : ∀ (l : List Ln) st, G.eqV true (.tup (l.map vLn)) (.tup (l.map vLn)) st = .ok (.bl false) st := fun l st => eqV_self (by rw [dat_tup]; exact dats_map fun l => dat_vLn l _)
  refine runD_of (fun v s => v = .bl true) [some (.scr (ns.map .int)), none, none, none, none, none, none] rfl rfl (fun v s h1 => by rw [h1]; exact ret_free rfl) fun Q hr => ?_
  simp -implicitDefEqProofs [-Int.natCast_add, D_law, S_law, mVar, hc0, hc1, hc2, modV_int, en', cD, modV_int hz, ha, cO]
  refine wp_cut (fun e st => ∃ (D : List Ln) (x4 x5 x6 : Option Va), Doc D ∧ D.length ≤ 30 ∧ (∀ l ∈ D, LnOk l) ∧ e = [some (.scr (ns.map .int)), some (.tup (D.map vLn)), some (.int a), none, x4, x5, x6]) (fun R h _ _ _ => ?_) ?_
  · cases hf : (secs d).find? (inSec a) with
    | none =>
      rw [hf] at hin
      have hin : (isOwn d a && isOwn d (a - 1)) = false := hin.symm
      have hfin := h [some (.scr (ns.map .int)), some (.tup (d.map vLn)), some (.int a), none, none, none, none] [] ⟨d, _, _, _, hd, by omega, hall, rfl⟩
      cases b1 : isOwn d a with
      | false =>
        simp -implicitDefEqProofs
        exact hfin
      | true =>
        have b2 : isOwn d (a - 1) = false := by simpa [b1] using hin
        simp -implicitDefEqProofs [b2]
        exact hfin
    | some s =>
      have ho := hspo s hf
      rw [hf] at hin
      have hin : (isOwn d a && isOwn d (a - 1)) = true := hin.symm
      rw [Bool.and_eq_true] at hin
      obtain ⟨b1, b2⟩ := hin
      have hse := List.mem_of_find?_eq_some hf
      have hii := List.find?_some hf
      unfold inSec at hii
      rw [Bool.and_eq_true] at hii
      have i1 := of_decide_eq_true hii.1
      have i2 := of_decide_eq_true hii.2
      obtain ⟨j, rfl⟩ : ∃ j : Nat, a = j := ⟨a.toNat, by omega⟩
      obtain ⟨f1, f2, f3, _⟩ := sec_facts hd hse
      have ho : ∀ st, callP false (L.fn "split") [.tup (d.map vLn), .int (j : Nat)] st = .ok (.tup ((splitD d j s.1).map vLn)) st := ho
      have hW := doc_split hd (a := j) (by omega) (by omega) s.1
      have hWl : (splitD d j s.1).length ≤ 30 := by simp [splitD]; omega
      have cJ : ∀ st, callP false (L.fn "join") [.tup ((splitD d j s.1).map vLn), .int ((j : Int) + 1)] st = .ok (.tup (d.map vLn)) st := fun st => callP_free (by simp only [frees_cons, free_tup, fd]; rfl) (by
        rw [hjn _ hW (by omega), join_split hd hse (by omega) (by omega)])
      simp -implicitDefEqProofs [mVar, b1, b2, ho]
      refine wp_cut (fun e st => e = [some (.scr (ns.map .int)), some (.tup (d.map vLn)), some (.int (j : Nat)), none, some (.tup ((splitD d j s.1).map vLn)), some (.int (s.2.1 : Nat)), none]) (fun R h _ _ _ => ?_) ?_
      · refine wp_whileN (fun m env st => ∃ k : Nat, m = k - s.2.1 ∧ s.2.1 ≤ k ∧ k ≤ j ∧ env = [some (.scr (ns.map .int)), some (.tup (d.map vLn)), some (.int (j : Nat)), none, some (.tup ((splitD d j s.1).map vLn)), some (.int (k : Nat)), none]) ?_ (j - s.2.1) (by unfold fuel; omega) ⟨j, rfl, by omega, by omega, rfl⟩
        rintro m env st Qc ⟨k, rfl, hk1, hk2, rfl⟩ hcn _ _ _
        by_cases hk : k = s.2.1
        · subst hk
          refine ⟨false, st, ?_, ?_⟩
          · simp -implicitDefEqProofs [mVar, ixd f1, vLn, headT]
          · rw [if_neg Bool.false_ne_true]
            exact h _ _ rfl
        · obtain ⟨y, e1, e2⟩ := f2 k (by omega) (by omega)
          refine ⟨true, st, ?_, ?_⟩
          · simp -implicitDefEqProofs [mVar, ixd e1]
            cases y <;> simp -implicitDefEqProofs [vLn, useT, codeT, Ln.isI] at e2 ⊢
          · rw [if_pos rfl]
            simp -implicitDefEqProofs [mVar]
            refine hcn _ _ (k - 1 - s.2.1) (by omega) ⟨k - 1, rfl, by omega, by omega, ?_⟩
            rw [show ((k - 1 : Nat) : Int) = (k : Int) - 1 by omega]
      · rintro e st rfl
        have e : (.tup ((d.map vLn).take j ++ .tup [.str [112, 114, 111, 115, 101], .str []] :: vLn (.hd s.1) :: (d.map vLn).drop j) : Va) = .tup ((splitD d j s.1).map vLn) := by
          unfold splitD
          simp [vLn, proseT, headT]
        simp -implicitDefEqProofs [-List.map_take, -List.map_drop, mVar, slice_tt, slice_tf, addV_tup, mk2, ixd f1]
        rw [mk _ _ (by simp; omega)]
        simp -implicitDefEqProofs [-List.map_take, -List.map_drop, slice_tf, addV_tup]
        rw [mk _ _ (by simp; omega)]
        simp -implicitDefEqProofs [-List.map_take, -List.map_drop]
        rw [e]
        simp -implicitDefEqProofs [mVar, qq, cJ]
        exact h _ _ ⟨splitD d j s.1, _, _, _, hW, hWl, ok_split hd hall hse j, rfl⟩
  rintro e st ⟨D, x4, x5, x6, hD, hDl, hDa, rfl⟩
  clear hspo hs hin cO ha hz
  simp -implicitDefEqProofs
  refine wp_cut (fun e st => ∃ b : Int, e = [some (.scr (ns.map .int)), some (.tup (D.map vLn)), some (.int b), none, x4, x5, x6]) (fun R h _ _ _ => ?_) ?_
  · refine wp_whileN (fun m env st => ∃ b : Int, m = b.toNat ∧ env = [some (.scr (ns.map .int)), some (.tup (D.map vLn)), some (.int b), none, x4, x5, x6]) ?_ a.toNat (by unfold fuel; omega) ⟨a, rfl, rfl⟩
    rintro m env st Qc ⟨b, rfl, rfl⟩ hcn _ _ _
    by_cases h0 : 0 < b
    · by_cases hlt : b < (D.length : Nat)
      · obtain ⟨k, rfl⟩ : ∃ k : Nat, b = k := ⟨b.toNat, by omega⟩
        obtain ⟨y, hy⟩ : ∃ y, D[k]? = some y := ⟨_, List.getElem?_eq_getElem (by omega)⟩
        have h0n : 0 < k := by omega
        refine ⟨!y.isH, st, ?_, ?_⟩
        · simp -implicitDefEqProofs [mVar, h0, h0n, hlt, ixd hy]
          cases y <;> simp -implicitDefEqProofs [vLn, headT, proseT, useT, codeT, Ln.isH]
        · cases hh : y.isH with
          | true =>
            rw [if_neg (by simp)]
            exact h _ _ ⟨_, rfl⟩
          | false =>
            rw [if_pos (by simp)]
            simp -implicitDefEqProofs [mVar]
            exact hcn _ _ ((k : Int) - 1).toNat (by omega) ⟨_, rfl, rfl⟩
      · refine ⟨false, st, ?_, ?_⟩
        · simp -implicitDefEqProofs [mVar, h0, hlt]
        · rw [if_neg Bool.false_ne_true]
          exact h _ _ ⟨_, rfl⟩
    · refine ⟨false, st, ?_, ?_⟩
      · simp -implicitDefEqProofs [mVar, h0]
      · rw [if_neg Bool.false_ne_true]
        exact h _ _ ⟨_, rfl⟩
  rintro e st ⟨b, rfl⟩
  have hj := hjn b hD (by omega)
  simp -implicitDefEqProofs [mVar]
  cases hh : hdAtI D b with
  | none =>
    have e : joinR D b = none := by unfold joinR; rw [hh]; rfl
    rw [e] at hj
    have cJ : ∀ st, callP false (L.fn "join") [.tup (D.map vLn), .int b] st = .err ⟨badT, []⟩ st := fun st => callP_err (by simp only [frees_cons, free_tup, fd]; rfl) hj
    refine wp_cut (fun e st => e = [some (.scr (ns.map .int)), some (.tup (D.map vLn)), some (.int b), some (.int (-1)), x4, x5, x6]) (fun R h _ _ _ => ?_) ?_
    · rcases hdAtI_none hh with g | g | ⟨k, rfl, l, g1, g2⟩
      · have : ¬ 0 ≤ b := by omega
        simp -implicitDefEqProofs [mVar, this]
        exact h _ _ rfl
      · have h0 : 0 ≤ b := by omega
        have : ¬ b < (D.length : Nat) := by omega
        simp -implicitDefEqProofs [mVar, h0, this]
        exact h _ _ rfl
      · have hlt := (List.getElem?_eq_some_iff.mp g1).1
        have h4 : (k : Int) < (D.length : Nat) := by omega
        simp -implicitDefEqProofs [h4, mVar, ixd g1]
        cases l with
        | hd n => simp [Ln.isH] at g2
        | pr t => simp -implicitDefEqProofs [vLn, proseT]; exact h _ _ rfl
        | us i t => simp -implicitDefEqProofs [vLn, useT]; exact h _ _ rfl
        | co t => simp -implicitDefEqProofs [vLn, codeT]; exact h _ _ rfl
    · rintro e st rfl
      simp -implicitDefEqProofs [mVar, cJ, s1]
      exact hr _ _ rfl
  | some x =>
    obtain ⟨k, n⟩ := x
    obtain ⟨rfl, hk⟩ := hdAtI_some hh
    have hlt := (List.getElem?_eq_some_iff.mp hk).1
    have h4 : (k : Int) < (D.length : Nat) := by omega
    have e : joinR D (k : Int) = (befD D k n).map fun e => joinD D e k := by unfold joinR; rw [hh]; rfl
    rw [e] at hj
    have hsb' := hsb (d := D) (by omega) hk
    cases hb : befD D k n with
    | none =>
      rw [hb] at hj hsb'
      have cJ : ∀ st, callP false (L.fn "join") [.tup (D.map vLn), .int (k : Nat)] st = .err ⟨badT, []⟩ st := fun st => callP_err (by simp only [frees_cons, free_tup, fd]; rfl) hj
      have cB : ∀ st, callP false (L.fn "_law_section_before") [.tup (D.map vLn), .int (k : Nat)] st = .ok (.int (-1)) st := fun st => callP_free (by simp only [frees_cons, free_tup, fd]; rfl) hsb'
      simp -implicitDefEqProofs [h4, mVar, ixd hk, vLn, headT, cB, cJ, s1]
      exact hr _ _ rfl
    | some e =>
      rw [hb] at hj hsb'
      have cJ : ∀ st, callP false (L.fn "join") [.tup (D.map vLn), .int (k : Nat)] st = .ok (.tup ((joinD D e k).map vLn)) st := fun st => callP_free (by simp only [frees_cons, free_tup, fd]; rfl) hj
      have cB : ∀ st, callP false (L.fn "_law_section_before") [.tup (D.map vLn), .int (k : Nat)] st = .ok (.int (e : Nat)) st := fun st => callP_free (by simp only [frees_cons, free_tup, fd]; rfl) hsb'
      have hbd := bd_join hD hk hb
      have hdj := doc_join hD hk hb
      have hjl : (joinD D e k).length ≤ 60 := by simp [joinD]; omega
      have cS : ∀ st, callP false (L.fn "_law_same_programs") [.tup (D.map vLn), .tup ((joinD D e k).map vLn)] st = .ok (.bl true) st := fun st => callP_free (by simp only [frees_cons, free_tup, fd]; rfl)
        (hsame (dok_of hD (by omega) hDa) (dok_of hdj (by omega) fun l hl => hDa l (join_mem hl)) (by omega) hDa hbd.1 hbd.2)
      have hne : ¬ ((e : Nat) : Int) < 0 := by omega
      have sl1 : ∀ st, sliceV false (.tup (D.map vLn)) (some ((k : Int) + 1)) none st = .ok (.tup ((D.map vLn).drop (k + 1))) st := fun st => by
        rw [show (k : Int) + 1 = ((k + 1 : Nat) : Int) by omega]
        exact slice_tf (k + 1) st
      have ee : Va.tup ((D.map vLn).take e ++ (D.map vLn).drop (k + 1)) = .tup ((joinD D e k).map vLn) := by
        unfold joinD
        simp
      simp -implicitDefEqProofs [-List.map_take, -List.map_drop, h4, mVar, ixd hk, vLn, headT, cB, cJ, hne, isi_tup_tup, slice_tt, sl1, addV_tup]
      rw [mk _ _ (by simp; omega)]
      simp -implicitDefEqProofs [-List.map_take, -List.map_drop]
      rw [ee, qq]
      simp -implicitDefEqProofs [mVar, cS]
      exact hr _ _ rfl
end K55_JOINED_AND_MOVED_SECTIONS

set_option Elab.async false
set_option linter.all false
set_option maxRecDepth 100000
set_option maxHeartbeats 8000000
namespace K55_JOINED_AND_MOVED_SECTIONS
open PySem PySem.Spec PyProof.Rows L2 G
def topS (i : Nat) : Stmt := PySem.Challenge.pw_weft_k55_joined_and_moved_sections.main.body.getD i (.Pass ⟨0, 0, 0, 0⟩)
abbrev e_sections : De := ⟨"sections", ["document"], D_sections, topS 8, []⟩
abbrev e_table_of : De := ⟨"table_of", ["document"], D_table_of, topS 9, []⟩
abbrev e_ring_from : De := ⟨"ring_from", ["path", "name"], D_ring_from, topS 10, []⟩
abbrev e_closure : De := ⟨"closure", ["document", "root"], D_closure, topS 11, []⟩
abbrev e_split : De := ⟨"split", ["document", "at"], D_split, topS 13, []⟩
abbrev e_join : De := ⟨"join", ["document", "at"], D_join, topS 14, []⟩
abbrev e_lengths_of : De := ⟨"lengths_of", ["document", "order"], D_lengths_of, topS 17, []⟩
abbrev e_length : De := ⟨"length", ["document", "root"], D_length, topS 18, []⟩
abbrev e_shown : De := ⟨"shown", ["indent", "text"], D_shown, topS 19, []⟩
abbrev e_tangle : De := ⟨"tangle", ["document", "root"], D_tangle, topS 20, []⟩
abbrev e_texts_of : De := ⟨"texts_of", ["lines"], D_texts_of, topS 21, []⟩
abbrev e__law_cell : De := ⟨"_law_cell", ["_law_script", "_law_k"], D__law_cell, topS 23, []⟩
abbrev e__law_draws : De := ⟨"_law_draws", ["_law_cell_here", "_law_count"], D__law_draws, topS 24, []⟩
abbrev e__law_text : De := ⟨"_law_text", ["_law_draw"], D__law_text, topS 25, []⟩
abbrev e__law_line : De := ⟨"_law_line", ["_law_draws_here", "_law_current", "_law_calm"], D__law_line, topS 26, []⟩
abbrev e__law_document : De := ⟨"_law_document", ["_law_script", "_law_at", "_law_count", "_law_calm"], D__law_document, topS 27, []⟩
abbrev e__law_shown : De := ⟨"_law_shown", ["_law_document_here", "_law_root"], D__law_shown, topS 28, []⟩
abbrev e__law_same_programs : De := ⟨"_law_same_programs", ["_law_one", "_law_other"], D__law_same_programs, topS 29, []⟩
abbrev e__law_is_own : De := ⟨"_law_is_own", ["_law_document_here", "_law_at"], D__law_is_own, topS 30, []⟩
abbrev e__law_section_before : De := ⟨"_law_section_before", ["_law_document_here", "_law_at"], D__law_section_before, topS 31, []⟩
abbrev e_law : De := ⟨"law", ["_law_script"], D_law, topS 32, []⟩
def es : List De := [e_sections, e_table_of, e_ring_from, e_closure, e_split, e_join, e_lengths_of, e_length, e_shown, e_tangle, e_texts_of, e__law_cell, e__law_draws, e__law_text, e__law_line, e__law_document, e__law_shown, e__law_same_programs, e__law_is_own, e__law_section_before]
def cs : List (Str × Gc) := [("MOST_LINES", .int 2000)]
def bs : List Str := ["enumerate", "isinstance", "len", "list", "range", "reversed", "sum", "tuple"]
def gns : List Str := []
def sgn : List (Str × Tx) := []
abbrev i_Missing : Ie := ⟨"Missing", ow_Missing, ["line", "name"], "Missing.__init__", clsDef (topS 3) 0⟩
theorem ini_Missing : IeOk PySem.Challenge.pw_weft_k55_joined_and_moved_sections i_Missing := ⟨scs_by rfl rfl rfl (by decide +kernel) (by decide +kernel), by decide +kernel, fun _ _ _ _ _ _ _ _ us hl => match us, hl with | [_, _, _], _ => rfl, ⟨_, rfl, rfl⟩, ⟨rfl, by decide, by decide, by decide +kernel, rfl⟩, by decide +kernel⟩
abbrev i_NoPiece : Ie := ⟨"NoPiece", ow_NoPiece, ["name"], "NoPiece.__init__", clsDef (topS 2) 0⟩
theorem ini_NoPiece : IeOk PySem.Challenge.pw_weft_k55_joined_and_moved_sections i_NoPiece := ⟨scs_by rfl rfl rfl (by decide +kernel) (by decide +kernel), by decide +kernel, fun _ _ _ _ _ _ _ _ us hl => match us, hl with | [_, _], _ => rfl, ⟨_, rfl, rfl⟩, ⟨rfl, by decide, by decide, by decide +kernel, rfl⟩, by decide +kernel⟩
abbrev i_Ring : Ie := ⟨"Ring", ow_Ring, ["names"], "Ring.__init__", clsDef (topS 4) 0⟩
theorem ini_Ring : IeOk PySem.Challenge.pw_weft_k55_joined_and_moved_sections i_Ring := ⟨scs_by rfl rfl rfl (by decide +kernel) (by decide +kernel), by decide +kernel, fun _ _ _ _ _ _ _ _ us hl => match us, hl with | [_, _], _ => rfl, ⟨_, rfl, rfl⟩, ⟨rfl, by decide, by decide, by decide +kernel, rfl⟩, by decide +kernel⟩
def xt : Xt := { cs := ["BadPlace", "Missing", "NoPiece", "Ring"], subs := [("BadPlace", "BadPlace", true), ("BadPlace", "Missing", false), ("BadPlace", "NoPiece", false), ("BadPlace", "Ring", false), ("Missing", "BadPlace", false), ("Missing", "Missing", true), ("Missing", "NoPiece", false), ("Missing", "Ring", false), ("NoPiece", "BadPlace", false), ("NoPiece", "Missing", false), ("NoPiece", "NoPiece", true), ("NoPiece", "Ring", false), ("Ring", "BadPlace", false), ("Ring", "Missing", false), ("Ring", "NoPiece", false), ("Ring", "Ring", true)], flds := [], pls := ["BadPlace"], inis := [i_Missing, i_NoPiece, i_Ring] }
theorem allI : ∀ e ∈ xt.inis, IeOk PySem.Challenge.pw_weft_k55_joined_and_moved_sections e := List.forall_mem_cons.2 ⟨ini_Missing, List.forall_mem_cons.2 ⟨ini_NoPiece, List.forall_mem_cons.2 ⟨ini_Ring, (fun _ h => nomatch h)⟩⟩⟩
theorem ok_sections : DeOk (tabOf es) (cs.map (·.1)) (es.map De.fk) bs xt.xn gns sgn e_sections := ⟨rfl, ⟨rfl, rfl, rfl, by decide +kernel, rfl, by decide +kernel, by decide +kernel⟩, rfl, bi0 rfl fun _ _ _ _ _ _ us hl => match us, hl with | [_], _ => rfl, by decide +kernel⟩
theorem ok_table_of : DeOk (tabOf es) (cs.map (·.1)) (es.map De.fk) bs xt.xn gns sgn e_table_of := ⟨rfl, ⟨rfl, rfl, rfl, by decide +kernel, rfl, by decide +kernel, by decide +kernel⟩, rfl, bi0 rfl fun _ _ _ _ _ _ us hl => match us, hl with | [_], _ => rfl, by decide +kernel⟩
theorem ok_ring_from : DeOk (tabOf es) (cs.map (·.1)) (es.map De.fk) bs xt.xn gns sgn e_ring_from := ⟨rfl, ⟨rfl, rfl, rfl, by decide +kernel, rfl, by decide +kernel, by decide +kernel⟩, rfl, bi0 rfl fun _ _ _ _ _ _ us hl => match us, hl with | [_, _], _ => rfl, by decide +kernel⟩
theorem ok_closure : DeOk (tabOf es) (cs.map (·.1)) (es.map De.fk) bs xt.xn gns sgn e_closure := ⟨rfl, ⟨rfl, rfl, rfl, by decide +kernel, rfl, by decide +kernel, by decide +kernel⟩, rfl, bi0 rfl fun _ _ _ _ _ _ us hl => match us, hl with | [_, _], _ => rfl, by decide +kernel⟩
theorem ok_split : DeOk (tabOf es) (cs.map (·.1)) (es.map De.fk) bs xt.xn gns sgn e_split := ⟨rfl, ⟨rfl, rfl, rfl, by decide +kernel, rfl, by decide +kernel, by decide +kernel⟩, rfl, bi0 rfl fun _ _ _ _ _ _ us hl => match us, hl with | [_, _], _ => rfl, by decide +kernel⟩
theorem ok_join : DeOk (tabOf es) (cs.map (·.1)) (es.map De.fk) bs xt.xn gns sgn e_join := ⟨rfl, ⟨rfl, rfl, rfl, by decide +kernel, rfl, by decide +kernel, by decide +kernel⟩, rfl, bi0 rfl fun _ _ _ _ _ _ us hl => match us, hl with | [_, _], _ => rfl, by decide +kernel⟩
theorem ok_lengths_of : DeOk (tabOf es) (cs.map (·.1)) (es.map De.fk) bs xt.xn gns sgn e_lengths_of := ⟨rfl, ⟨rfl, rfl, rfl, by decide +kernel, rfl, by decide +kernel, by decide +kernel⟩, rfl, bi0 rfl fun _ _ _ _ _ _ us hl => match us, hl with | [_, _], _ => rfl, by decide +kernel⟩
theorem ok_length : DeOk (tabOf es) (cs.map (·.1)) (es.map De.fk) bs xt.xn gns sgn e_length := ⟨rfl, ⟨rfl, rfl, rfl, by decide +kernel, rfl, by decide +kernel, by decide +kernel⟩, rfl, bi0 rfl fun _ _ _ _ _ _ us hl => match us, hl with | [_, _], _ => rfl, by decide +kernel⟩
theorem ok_shown : DeOk (tabOf es) (cs.map (·.1)) (es.map De.fk) bs xt.xn gns sgn e_shown := ⟨rfl, ⟨rfl, rfl, rfl, by decide +kernel, rfl, by decide +kernel, by decide +kernel⟩, rfl, bi0 rfl fun _ _ _ _ _ _ us hl => match us, hl with | [_, _], _ => rfl, by decide +kernel⟩
theorem ok_tangle : DeOk (tabOf es) (cs.map (·.1)) (es.map De.fk) bs xt.xn gns sgn e_tangle := ⟨rfl, ⟨rfl, rfl, rfl, by decide +kernel, rfl, by decide +kernel, by decide +kernel⟩, rfl, bi0 rfl fun _ _ _ _ _ _ us hl => match us, hl with | [_, _], _ => rfl, by decide +kernel⟩
theorem ok_texts_of : DeOk (tabOf es) (cs.map (·.1)) (es.map De.fk) bs xt.xn gns sgn e_texts_of := ⟨rfl, ⟨rfl, rfl, rfl, by decide +kernel, rfl, by decide +kernel, by decide +kernel⟩, rfl, bi0 rfl fun _ _ _ _ _ _ us hl => match us, hl with | [_], _ => rfl, by decide +kernel⟩
theorem ok__law_cell : DeOk (tabOf es) (cs.map (·.1)) (es.map De.fk) bs xt.xn gns sgn e__law_cell := ⟨rfl, ⟨rfl, rfl, rfl, by decide +kernel, rfl, by decide +kernel, by decide +kernel⟩, rfl, bi0 rfl fun _ _ _ _ _ _ us hl => match us, hl with | [_, _], _ => rfl, by decide +kernel⟩
theorem ok__law_draws : DeOk (tabOf es) (cs.map (·.1)) (es.map De.fk) bs xt.xn gns sgn e__law_draws := ⟨rfl, ⟨rfl, rfl, rfl, by decide +kernel, rfl, by decide +kernel, by decide +kernel⟩, rfl, bi0 rfl fun _ _ _ _ _ _ us hl => match us, hl with | [_, _], _ => rfl, by decide +kernel⟩
theorem ok__law_text : DeOk (tabOf es) (cs.map (·.1)) (es.map De.fk) bs xt.xn gns sgn e__law_text := ⟨rfl, ⟨rfl, rfl, rfl, by decide +kernel, rfl, by decide +kernel, by decide +kernel⟩, rfl, bi0 rfl fun _ _ _ _ _ _ us hl => match us, hl with | [_], _ => rfl, by decide +kernel⟩
theorem ok__law_line : DeOk (tabOf es) (cs.map (·.1)) (es.map De.fk) bs xt.xn gns sgn e__law_line := ⟨rfl, ⟨rfl, rfl, rfl, by decide +kernel, rfl, by decide +kernel, by decide +kernel⟩, rfl, bi0 rfl fun _ _ _ _ _ _ us hl => match us, hl with | [_, _, _], _ => rfl, by decide +kernel⟩
theorem ok__law_document : DeOk (tabOf es) (cs.map (·.1)) (es.map De.fk) bs xt.xn gns sgn e__law_document := ⟨rfl, ⟨rfl, rfl, rfl, by decide +kernel, rfl, by decide +kernel, by decide +kernel⟩, rfl, bi0 rfl fun _ _ _ _ _ _ us hl => match us, hl with | [_, _, _, _], _ => rfl, by decide +kernel⟩
theorem ok__law_shown : DeOk (tabOf es) (cs.map (·.1)) (es.map De.fk) bs xt.xn gns sgn e__law_shown := ⟨rfl, ⟨rfl, rfl, rfl, by decide +kernel, rfl, by decide +kernel, by decide +kernel⟩, rfl, bi0 rfl fun _ _ _ _ _ _ us hl => match us, hl with | [_, _], _ => rfl, by decide +kernel⟩
theorem ok__law_same_programs : DeOk (tabOf es) (cs.map (·.1)) (es.map De.fk) bs xt.xn gns sgn e__law_same_programs := ⟨rfl, ⟨rfl, rfl, rfl, by decide +kernel, rfl, by decide +kernel, by decide +kernel⟩, rfl, bi0 rfl fun _ _ _ _ _ _ us hl => match us, hl with | [_, _], _ => rfl, by decide +kernel⟩
theorem ok__law_is_own : DeOk (tabOf es) (cs.map (·.1)) (es.map De.fk) bs xt.xn gns sgn e__law_is_own := ⟨rfl, ⟨rfl, rfl, rfl, by decide +kernel, rfl, by decide +kernel, by decide +kernel⟩, rfl, bi0 rfl fun _ _ _ _ _ _ us hl => match us, hl with | [_, _], _ => rfl, by decide +kernel⟩
theorem ok__law_section_before : DeOk (tabOf es) (cs.map (·.1)) (es.map De.fk) bs xt.xn gns sgn e__law_section_before := ⟨rfl, ⟨rfl, rfl, rfl, by decide +kernel, rfl, by decide +kernel, by decide +kernel⟩, rfl, bi0 rfl fun _ _ _ _ _ _ us hl => match us, hl with | [_, _], _ => rfl, by decide +kernel⟩
theorem all : ∀ e ∈ es, DeOk (tabOf es) (cs.map (·.1)) (es.map De.fk) bs xt.xn gns sgn e := List.forall_mem_cons.2 ⟨ok_sections, List.forall_mem_cons.2 ⟨ok_table_of, List.forall_mem_cons.2 ⟨ok_ring_from, List.forall_mem_cons.2 ⟨ok_closure, List.forall_mem_cons.2 ⟨ok_split, List.forall_mem_cons.2 ⟨ok_join, List.forall_mem_cons.2 ⟨ok_lengths_of, List.forall_mem_cons.2 ⟨ok_length, List.forall_mem_cons.2 ⟨ok_shown, List.forall_mem_cons.2 ⟨ok_tangle, List.forall_mem_cons.2 ⟨ok_texts_of, List.forall_mem_cons.2 ⟨ok__law_cell, List.forall_mem_cons.2 ⟨ok__law_draws, List.forall_mem_cons.2 ⟨ok__law_text, List.forall_mem_cons.2 ⟨ok__law_line, List.forall_mem_cons.2 ⟨ok__law_document, List.forall_mem_cons.2 ⟨ok__law_shown, List.forall_mem_cons.2 ⟨ok__law_same_programs, List.forall_mem_cons.2 ⟨ok__law_is_own, List.forall_mem_cons.2 ⟨ok__law_section_before, (fun _ h => nomatch h)⟩⟩⟩⟩⟩⟩⟩⟩⟩⟩⟩⟩⟩⟩⟩⟩⟩⟩⟩⟩
theorem sg_ok : ∀ p ∈ sgn, ∃ e ∈ es, e.f = p.1 ∧ e.ks = [] ∧ ∃ y g, e.ps = [y] ∧ signB y g (defScope e.st) (defBody e.st) = true ∧ g ∈ cs.map (·.1) ∧ glOf cs g = some (.str p.2) := (fun _ h => nomatch h)
end K55_JOINED_AND_MOVED_SECTIONS

set_option Elab.async false
set_option linter.all false
set_option maxRecDepth 100000
set_option maxHeartbeats 8000000
namespace K55_JOINED_AND_MOVED_SECTIONS
open PySem PySem.Spec PyProof.Rows L2 G
def depth : Nat := 7
theorem lk {f : Str} {d : Df} (n : Nat) (h : (tabOf es).lookup f = some d) : (⟨glOf cs, den (glOf cs) xt.xsC (tabOf es) (n + 1), xt.xsC, none⟩ : Lm).fn f = runD ⟨glOf cs, den (glOf cs) xt.xsC (tabOf es) n, xt.xsC, none⟩ d := den_succ h
def Lf (n : Nat) : Lm := ⟨glOf cs, den (glOf cs) xt.xsC (tabOf es) n, xt.xsC, none⟩
theorem fam : TG.Fam Lf where
  sec := fun n => lk n ok_sections.lk
  tab := fun n => lk n ok_table_of.lk
  ring := fun n => lk n ok_ring_from.lk
  clo := fun n => lk n ok_closure.lk
  les := fun n => lk n ok_lengths_of.lk
  len := fun n => lk n ok_length.lk
  shn := fun n => lk n ok_shown.lk
  tan := fun n => lk n ok_tangle.lk
  txs := fun n => lk n ok_texts_of.lk
  lsh := fun n => lk n ok__law_shown.lk
  gl := fun _ => rfl
  o1 := fun _ => rfl
  o2 := fun _ => rfl
  o3 := fun _ => rfl
  s1 := fun _ => rfl
  s2 := fun _ => rfl
  s3 := fun _ => rfl
  s4 := fun _ => rfl
  s5 := fun _ => rfl
  s6 := fun _ => rfl
theorem law_is (ns : List Int) (h : ns.length ≤ 63) : runD ⟨glOf cs, den (glOf cs) xt.xsC (tabOf es) depth, xt.xsC, none⟩ e_law.d [.scr (ns.map Va.int)] = .ok (.bl true) [] := by
  rw [show depth = 6 + 1 from rfl]
  refine law_ok ns rfl ?_ ?_ ?_ ?_ ?_ ?_ ?_
  · intro k
    rw [lk 6 ok__law_cell.lk]
    exact C.cell_ok ns k
  · intro n calm hn
    rw [lk 6 ok__law_document.lk]
    refine TG.document_ok (fun k => ?_) (fun c m hm => ?_) (fun ds hl cur hcur calm => ?_) 3 n calm hn (by decide)
    · rw [lk 5 ok__law_cell.lk]
      exact C.cell_ok ns k
    · rw [lk 5 ok__law_draws.lk]
      exact TG.draws_ok c m hm
    · rw [lk 5 ok__law_line.lk]
      refine TG.line_ok (fun i => ?_) ds hl cur hcur calm
      rw [lk 4 ok__law_text.lk]
      exact TG.text_ok i
  · intro d a
    rw [lk 6 ok__law_is_own.lk]
    exact TG.isown_ok a
  · intro d a hd hl
    rw [lk 6 ok_split.lk]
    exact TG.split_run (by omega) (by rw [lk 5 ok_sections.lk]; exact D.sections_ok hd (by omega)) rfl
  · intro d a hd hl
    rw [lk 6 ok_join.lk]
    exact TG.join_run hd (by omega) (by rw [lk 5 ok_sections.lk]; exact D.sections_ok hd (by omega)) rfl
  · intro d k n hl hk
    rw [lk 6 ok__law_section_before.lk]
    exact TG.secb_run (by omega) hk
  · intro d e hd he hl hall h1 h2
    rw [lk 6 ok__law_same_programs.lk]
    exact TG.same_progs (Lf := Lf) fam (by decide) hd he hl (fun i j n hm => (TG.ok_us hall (List.mem_of_getElem? hm)).1) h1 h2 1
end K55_JOINED_AND_MOVED_SECTIONS
namespace K55_JOINED_AND_MOVED_SECTIONS
open PySem PySem.Spec PyProof.Rows L2 G
abbrev R : PySem.W.OpenRow := PySem.W.OpenLaw.row PySem.Challenge.rw_weft_k55_joined_and_moved_sections
def fa : List He.Fa := fasOf es e_law bs
def fn : List He.DefD := fnsOf es e_law
abbrev hk : PySem.W.Hook := hookY 5 fa fn (tfOf gns) (xgs PySem.Challenge.pw_weft_k55_joined_and_moved_sections.main.file xt cs) xt.inis
def ob (s : PySem.W.SharedT) : AlY := obsY 5 fa fn (tfOf gns) (xgs PySem.Challenge.pw_weft_k55_joined_and_moved_sections.main.file xt cs) xt.inis (HandSHeadRun.getT s)
theorem ob_eq (s : PySem.W.SharedT) : ob s = hk.obs s.abs := obsY_eq (HandSHeadRun.getT_eq s)
def loose : List Str := ["__name__", "WeftError", "NoPiece", "Missing", "Ring", "TooLong", "BadPlace", "sections", "table_of", "ring_from", "closure", "split", "join", "MOST_LINES", "lengths_of", "length", "shown", "tangle", "texts_of", "_law_cell", "_law_draws", "_law_text", "_law_line", "_law_document", "_law_shown", "_law_same_programs", "_law_is_own", "_law_section_before"]
theorem run (w : World) : HandSHeadRun.RunEq R (PySem.W.view R.prog [32]) hk ob 4000 loose w := by
  intro os
  kernel_rfl
end K55_JOINED_AND_MOVED_SECTIONS
open PySem PySem.W PySem.Calls PyProof.Rows
set_option maxHeartbeats 0 in
theorem PySem.Challenge.cw_weft_k55_joined_and_moved_sections_holds : PySem.Challenge.rw_weft_k55_joined_and_moved_sections.Holds := by
  w_on; o_law
  refine HandSHeadRun.head_any (r := OpenLaw.row PySem.Challenge.rw_weft_k55_joined_and_moved_sections) (q := view (OpenLaw.row PySem.Challenge.rw_weft_k55_joined_and_moved_sections).prog [32]) (H := K55_JOINED_AND_MOVED_SECTIONS.hk) (ob := K55_JOINED_AND_MOVED_SECTIONS.ob) (M := 4000) (loose := K55_JOINED_AND_MOVED_SECTIONS.loose) (d := HandSHeadRun.topDef (OpenLaw.row PySem.Challenge.rw_weft_k55_joined_and_moved_sections).prog 32) (kwd := []) K55_JOINED_AND_MOVED_SECTIONS.ob_eq
    (by kernel_rfl) (fun s => by kernel_rfl) K55_JOINED_AND_MOVED_SECTIONS.run (by kernel_rfl) (by kernel_rfl) (by kernel_rfl) (by rfl) (by first | assumption | decide +kernel) (by decide +kernel) ⟨rfl, rfl, rfl, rfl, rfl, by decide +kernel⟩ ?hw ?hc
  case hw => w_witness2
  case hc =>
    refine G.walk_g (l := PySem.Challenge.rw_weft_k55_joined_and_moved_sections) (n := 63) (k := 3 * K55_JOINED_AND_MOVED_SECTIONS.depth + 3) (x := "_law_script") (CX := fun w => L2.CX (PySem.Challenge.rw_weft_k55_joined_and_moved_sections).prog w) rfl (by decide) (by kernel_rfl) ⟨rfl, by decide, by decide⟩ ?F G.noCX
    intro w mg fa h Y N hmg0
    obtain ⟨K, KX, c⟩ := Y
    have hmg : mg ("law" : PySem.Str) = some (.ref fa) := by
      have e : (HandSHeadRun.topDef (OpenLaw.row PySem.Challenge.rw_weft_k55_joined_and_moved_sections).prog 32).name = ("law" : PySem.Str) := by kernel_rfl
      rw [← e]
      exact hmg0
    exact G.law_end (es := K55_JOINED_AND_MOVED_SECTIONS.es) (law := K55_JOINED_AND_MOVED_SECTIONS.e_law) (cs := K55_JOINED_AND_MOVED_SECTIONS.cs) (xt := K55_JOINED_AND_MOVED_SECTIONS.xt) (bs := K55_JOINED_AND_MOVED_SECTIONS.bs) (n := K55_JOINED_AND_MOVED_SECTIONS.depth) (P := PySem.Challenge.pw_weft_k55_joined_and_moved_sections) c K55_JOINED_AND_MOVED_SECTIONS.allI KX N hmg rfl K55_JOINED_AND_MOVED_SECTIONS.all ⟨rfl, rfl, rfl, by decide +kernel, rfl, by decide +kernel, by decide +kernel⟩ rfl (fun _ _ _ _ _ _ us hl => match us, hl with | [_], _ => rfl) (by decide +kernel) K55_JOINED_AND_MOVED_SECTIONS.sg_ok K55_JOINED_AND_MOVED_SECTIONS.law_is
