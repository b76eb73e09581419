import PyProof.Rows.All
import HandS.ForMost
import HandS.ForExc
import HandS.Text
import HandS.AnyAll
import HandS.TupAny
import HandS.StrMore
import HandS.IsInst
import HandS.FStr
import HandS.CallSlots
import HandS.DictEq
import HandS.More
import KE.DataEq
import HandS.Deep
import HandS.Flow
import HandS.Iter
import KE.GoesMore
import HandS.TryOnly
import HandS.Conv
import HandS.SortInts
import HandS.TupLe
import HandS.TupSets
import KE.DataMinMax
import PyProof.GenCompD
import HandS.Codes
import HandS.Defaults
import HandS.SetKeys
import HandS.Rev
import HandS.Nested
import HandS.SortKw
import KE.GoesRaise
import KE.KAsSuite
import HandS.Zip
import KE.GoesZip
import HandS.ExcInit
import HandS.ExcSuper
import KE.KExcSuper
import HandS.Exc
import HandS.ExcOwn
import HandS.ExcIs
import HandS.ExcField
import HandS.HeadHook1
import HandS.Flt
import HandS.TryMany
import HandS.RaiseMore
import HandS.Head0
import HandS.Head1
import HandS.Head2
import HandS.HeadEnd
import HandS.HeadHook2
import HandS.HeadHook3
import HandS.HeadHook4
import HandS.EndTab
import PySem.Challenge.RW_weft_k84_bad_patches
import KE.IntTextLaws
import KE.KIntText
import KE.OsScanText
set_option Elab.async false
set_option linter.all false
set_option maxRecDepth 100000
set_option maxHeartbeats 4000000
namespace G
open PySem PySem.Spec PyProof.Rows L2

/-- texts by their codes -/
abbrev Tx := List Nat
def mkS (l : Tx) : Str := ⟨l.toArray⟩
theorem mkS_len (l : Tx) : (mkS l).length = l.length := by simp [mkS, Str.length]
theorem tl_mkS (l : Tx) : (mkS l).cps.toList = l := by simp [mkS]
theorem mkS_inj {a b : Tx} (h : mkS a = mkS b) : a = b := by rw [← tl_mkS a, h, tl_mkS]
theorem mkS_tl (x : Str) : mkS x.cps.toList = x := by cases x; simp [mkS]
theorem mkS_app (a b : Tx) : mkS a ++ mkS b = mkS (a ++ b) := by
  apply TL.ext_tl
  rw [TL.tl_append]
  simp [TL.tl, mkS]
/-- a written text -/
def tx (s : String) : Tx := s.toList.map Char.toNat
theorem mkS_tx (s : String) : Str.ofString s = mkS (tx s) := by
  rw [← mkS_tl (Str.ofString s)]
  exact congrArg mkS (TL.tl_ofString s)
/-- a key: an int, a text -/
abbrev Ky := Sum Int Tx
def kyK : Ky → Key
  | .inl i => .inl i
  | .inr x => .inr (mkS x)
theorem kyK_inj {a b : Ky} (h : kyK a = kyK b) : a = b := by
  cases a <;> cases b <;> simp [kyK] at h
  · rw [h]
  · rw [mkS_inj h]
/-- a value of the small machine: tuples, lists, dicts by value; a thing that is changed lies in the store -/
inductive Va where
  | non | bl (b : Bool) | int (i : Int) | str (s : Tx)
  | tup (l : List Va) | lst (l : List Va) | dic (ks : List Ky) (l : List Va)
  | scr (l : List Va) | ref (p : Nat)
  deriving Inhabited
inductive Ob where
  | lst (l : List Va) | dic (ks : List Ky) (l : List Va) | ins (c : Tx) (fs : List (Tx × Va))
  deriving Inhabited
abbrev Sto := List (Option Ob)
structure Exc where
  cls : Tx
  fs : List (Tx × Va)
inductive R (α : Type) where
  | ok (a : α) (st : Sto)
  | err (x : Exc) (st : Sto)
  | stuck
abbrev Ev := List (Option Va)

/-- what stands in F stands in H; a dict there may be locked -/
def Wk (F H : Hp) : Prop := ∀ b o, F b = some o → H b = some o ∨ ∃ ob kvs, o = .dK kvs ∧ H b = some (.frz ob (.dK kvs))
theorem Wk.sub {F H : Hp} (e : Wk F H) (b : Addr) (o : HO) (h : F b = some o) (n : ∀ kvs, o ≠ .dK kvs := by nofun) : H b = some o := by
  rcases e b o h with q | ⟨_, kvs, q, _⟩
  · exact q
  · exact absurd q (n kvs)
theorem Wk.any {F H : Hp} (e : Wk F H) {b : Addr} {o : HO} (h : F b = some o) : ∃ u, H b = some u := by
  rcases e b o h with q | ⟨_, _, _, q⟩
  · exact ⟨_, q⟩
  · exact ⟨_, q⟩
theorem Wk.rd {F H : Hp} (e : Wk F H) {b : Addr} {kvs : List (Key × V)} (h : F b = some (.dK kvs)) : Rd H b (.dK kvs) := by
  rcases e b _ h with q | ⟨ob, kvs', q, q2⟩
  · exact .inl q
  · cases q; exact .inr ⟨ob, q2⟩
theorem Wk.tupl {K : PySem.W.Frag} {F H : Hp} {a : Addr} {xs : List V} (e : Wk F H) (h : SqT K F a xs) : SqT K H a xs := by
  rcases h with (h | ⟨o, h⟩) | h
  · exact .inl (.inl (e.sub _ _ h))
  · exact .inl (.inr ⟨o, e.sub _ _ h⟩)
  · exact .inr h
theorem Wk.seq {K : PySem.W.Frag} {F H : Hp} {a : Addr} {xs : List V} (e : Wk F H) (h : SqL K F a xs) : SqL K H a xs := by
  rcases h with (h | ⟨o, h⟩) | h
  · exact .inl (.inl (e.sub _ _ h))
  · exact .inl (.inr ⟨o, e.sub _ _ h⟩)
  · exact .inr h
theorem Wk.refl (F : Hp) : Wk F F := fun _ _ h => .inl h
theorem Wk.of {F H : Hp} (e : Same F H) : Wk F H := fun b o h => .inl (e b o h)
theorem Wk.right {F H : Hp} {p : Addr} {o : HO} (e : Wk F H) (h : ∀ b u, F b = some u → b ≠ p) : Wk F (upd H p o) := fun b u q => by
  rw [upd_ne (h b u q)]
  exact e b u q
theorem Wk.left {F H : Hp} {a : Addr} {o : HO} (e : Wk F H) (h : H a = some o) : Wk (upd F a o) H := fun b u q => by
  by_cases hb : b = a
  · rw [hb, upd_same] at q
    cases q
    rw [hb]
    exact .inl h
  · rw [upd_ne hb] at q
    exact e b u q
theorem Wk.both {F H : Hp} {a : Addr} {o : HO} (e : Wk F H) : Wk (upd F a o) (upd H a o) := fun b u q => by
  by_cases hb : b = a
  · rw [hb] at q ⊢
    rw [upd_same] at q ⊢
    exact .inl q
  · rw [upd_ne hb] at q ⊢
    exact e b u q
theorem Wk.trans {F G H : Hp} (e : Wk F G) (e' : Wk G H) : Wk F H := fun b o h => by
  rcases e b o h with q | ⟨ob, kvs, rfl, q⟩
  · exact e' b o q
  · exact .inr ⟨ob, kvs, rfl, e'.sub b _ q⟩
theorem Wk.rd2 {F H : Hp} (e : Wk F H) {b : Addr} {kvs : List (Key × V)} (h : Rd F b (.dK kvs)) : Rd H b (.dK kvs) := by
  rcases h with h | ⟨ob, h⟩
  · exact e.rd h
  · exact .inr ⟨ob, e.sub b _ h⟩
theorem Wk.none {F H : Hp} (e : Wk F H) {b : Addr} (h : H b = none) : F b = none := by
  cases q : F b with
  | none => rfl
  | some o =>
    obtain ⟨u, hu⟩ := e.any q
    rw [h] at hu
    cases hu
/-- what is known of the classes; what is known of the slots -/
structure Ct where
  tab : Tx → Option Addr
  tps : List Addr := []
  own : Tx → Option Addr := fun _ => none
  inv : L2.St → Hp → Prop
  mono : ∀ σ F F', Wk F F' → inv σ F → inv σ F'
/-- slot j may be written -/
def Ct.Bears (ct : Ct) (j : Nat) : Prop := ∀ σ v F, ct.inv σ F → ct.inv (σ.set j v) F
mutual
inductive RV (K : PySem.W.Frag) (F : Hp) (μ : List Addr) : Va → V → Prop
  | non : RV K F μ .non .non
  | bl (b : Bool) : RV K F μ (.bl b) (.bl b)
  | int (i : Int) : RV K F μ (.int i) (.int i)
  | str (x : Tx) : RV K F μ (.str x) (.str (mkS x))
  | tup {a : Addr} {ws : List Va} {vs : List V} : SqT K F a vs → RVs K F μ ws vs → RV K F μ (.tup ws) (.ref a)
  | lst {a : Addr} {ws : List Va} {vs : List V} : F a = some (.lst vs) → RVs K F μ ws vs → RV K F μ (.lst ws) (.ref a)
  | scr {a : Addr} {ws : List Va} {vs : List V} : SqL K F a vs → RVs K F μ ws vs → RV K F μ (.scr ws) (.ref a)
  | dic {a : Addr} {ks : List Ky} {ws : List Va} {kvs : List (Key × V)} : Rd F a (.dK kvs) → kvs.map (·.1) = ks.map kyK → RVs K F μ ws (kvs.map (·.2)) → RV K F μ (.dic ks ws) (.ref a)
  | ref {p : Nat} {a : Addr} : μ[p]? = some a → RV K F μ (.ref p) (.ref a)
inductive RVs (K : PySem.W.Frag) (F : Hp) (μ : List Addr) : List Va → List V → Prop
  | nil : RVs K F μ [] []
  | cons {w : Va} {ws : List Va} {v : V} {vs : List V} : RV K F μ w v → RVs K F μ ws vs → RVs K F μ (w :: ws) (v :: vs)
end

section
variable {K : PySem.W.Frag} {F F' : Hp} {μ μ' : List Addr}
theorem Same.tupl {a : Addr} {xs : List V} (e : Same F F') (h : SqT K F a xs) : SqT K F' a xs := by
  rcases h with (h | ⟨o, h⟩) | h
  · exact .inl (.inl (e _ _ h))
  · exact .inl (.inr ⟨o, e _ _ h⟩)
  · exact .inr h
theorem pre_get {p : Nat} {a : Addr} (hp : μ <+: μ') (h : μ[p]? = some a) : μ'[p]? = some a := by
  obtain ⟨r, rfl⟩ := hp
  rw [List.getElem?_append_left (List.getElem?_eq_some_iff.mp h).1]
  exact h
mutual
theorem RV.mono (e : Wk F F') (hp : μ <+: μ') : ∀ {w : Va} {v : V}, RV K F μ w v → RV K F' μ' w v
  | _, _, .non => .non
  | _, _, .bl b => .bl b
  | _, _, .int i => .int i
  | _, _, .str x => .str x
  | _, _, .tup h r => .tup (e.tupl h) (RVs.mono e hp r)
  | _, _, .lst h r => .lst (e.sub _ _ h) (RVs.mono e hp r)
  | _, _, .scr h r => .scr (e.seq h) (RVs.mono e hp r)
  | _, _, .dic h k r => .dic (e.rd2 h) k (RVs.mono e hp r)
  | _, _, .ref h => .ref (pre_get hp h)
theorem RVs.mono (e : Wk F F') (hp : μ <+: μ') : ∀ {ws : List Va} {vs : List V}, RVs K F μ ws vs → RVs K F' μ' ws vs
  | _, _, .nil => .nil
  | _, _, .cons r t => .cons (RV.mono e hp r) (RVs.mono e hp t)
end
theorem RVs.length : ∀ {ws : List Va} {vs : List V}, RVs K F μ ws vs → ws.length = vs.length
  | _, _, .nil => rfl
  | _, _, .cons _ t => by simp [RVs.length t]
theorem RVs.append : ∀ {ws ws' : List Va} {vs vs' : List V}, RVs K F μ ws vs → RVs K F μ ws' vs' → RVs K F μ (ws ++ ws') (vs ++ vs')
  | _, _, _, _, .nil, h => h
  | _, _, _, _, .cons r t, h => .cons r (RVs.append t h)
theorem RVs.get : ∀ {ws : List Va} {vs : List V} {i : Nat} {w : Va}, RVs K F μ ws vs → ws[i]? = some w → ∃ v, vs[i]? = some v ∧ RV K F μ w v
  | _, _, _, _, .nil, h => by simp at h
  | _, _, 0, w, .cons r t, h => by simp at h; subst h; exact ⟨_, rfl, r⟩
  | _, _, i + 1, w, .cons r t, h => by
    obtain ⟨v, h1, h2⟩ := RVs.get (i := i) t (by simpa using h)
    exact ⟨v, by simpa using h1, h2⟩
theorem RVs.take : ∀ {ws : List Va} {vs : List V} (n : Nat), RVs K F μ ws vs → RVs K F μ (ws.take n) (vs.take n)
  | _, _, 0, _ => .nil
  | _, _, _ + 1, .nil => .nil
  | _, _, n + 1, .cons r t => .cons r (RVs.take n t)
theorem RVs.drop : ∀ {ws : List Va} {vs : List V} (n : Nat), RVs K F μ ws vs → RVs K F μ (ws.drop n) (vs.drop n)
  | _, _, 0, r => r
  | _, _, _ + 1, .nil => .nil
  | _, _, n + 1, .cons _ t => RVs.drop n t
theorem RVs.set {w : Va} {v : V} (r : RV K F μ w v) : ∀ {ws : List Va} {vs : List V} (n : Nat), RVs K F μ ws vs → RVs K F μ (ws.set n w) (vs.set n v)
  | _, _, _, .nil => .nil
  | _, _, 0, .cons _ t => .cons r t
  | _, _, n + 1, .cons q t => .cons q (RVs.set r n t)
theorem RVs.dropLast : ∀ {ws : List Va} {vs : List V}, RVs K F μ ws vs → RVs K F μ ws.dropLast vs.dropLast
  | _, _, .nil => .nil
  | _, _, .cons r .nil => .nil
  | _, _, .cons r (.cons r' t) => .cons r (RVs.dropLast (.cons r' t))
theorem RVs.eraseIdx : ∀ {ws : List Va} {vs : List V} (n : Nat), RVs K F μ ws vs → RVs K F μ (ws.eraseIdx n) (vs.eraseIdx n)
  | _, _, _, .nil => .nil
  | _, _, 0, .cons _ t => t
  | _, _, n + 1, .cons q t => .cons q (RVs.eraseIdx n t)
theorem RVs.reverse {ws : List Va} {vs : List V} (h : RVs K F μ ws vs) : RVs K F μ ws.reverse vs.reverse := by
  induction ws generalizing vs with
  | nil => cases h; exact .nil
  | cons w ws ih =>
    cases h with
    | cons r t =>
      rw [List.reverse_cons, List.reverse_cons]
      exact (ih t).append (.cons r .nil)
theorem RVs.rep {ws : List Va} {vs : List V} (h : RVs K F μ ws vs) : ∀ n : Nat, RVs K F μ (List.replicate n ws).flatten (List.replicate n vs).flatten
  | 0 => .nil
  | n + 1 => by
    rw [List.replicate_succ, List.replicate_succ, List.flatten_cons, List.flatten_cons]
    exact h.append (RVs.rep h n)
end

/-- an object of the store, as it lies -/
inductive RO (K : PySem.W.Frag) (ct : Ct) (F : Hp) (μ : List Addr) (H : Hp) (a : Addr) : Ob → Prop
  | lst {ws : List Va} {vs : List V} : H a = some (.lst vs) → RVs K F μ ws vs → RO K ct F μ H a (.lst ws)
  | dic {ks : List Ky} {ws : List Va} {kvs : List (Key × V)} : H a = some (.dK kvs) → kvs.map (·.1) = ks.map kyK → RVs K F μ ws (kvs.map (·.2)) → RO K ct F μ H a (.dic ks ws)
  | ins {c : Tx} {C dx : Addr} {fs : List (Tx × Va)} {fvs : List (Str × V)} : ct.own c = some C → H a = some (.ins C dx fvs) → fvs.map (·.1) = fs.map (fun p => mkS p.1) → RVs K F μ (fs.map (·.2)) (fvs.map (·.2)) → RO K ct F μ H a (.ins c fs)
theorem RO.there {K : PySem.W.Frag} {ct : Ct} {F : Hp} {μ : List Addr} {H : Hp} {a : Addr} {o : Ob} (h : RO K ct F μ H a o) : ∃ u, H a = some u ∧ Mut (some u) := by
  cases h with
  | lst h _ => exact ⟨_, h, trivial⟩
  | dic h _ _ => exact ⟨_, h, trivial⟩
  | ins _ h _ _ => exact ⟨_, h, trivial⟩
theorem RO.mono {K : PySem.W.Frag} {ct : Ct} {F F' : Hp} {μ μ' : List Addr} {H H' : Hp} {a : Addr} {o : Ob} (e : Wk F F') (hp : μ <+: μ') (hH : H' a = H a) (h : RO K ct F μ H a o) : RO K ct F' μ' H' a o := by
  cases h with
  | lst h r => exact .lst (hH.trans h) (r.mono e hp)
  | dic h k r => exact .dic (hH.trans h) k (r.mono e hp)
  | ins c h k r => exact .ins c (hH.trans h) k (r.mono e hp)

/-- the store, as it lies in the heap: F what is frozen, μ where the store's objects lie -/
structure Rel (K : PySem.W.Frag) (ct : Ct) (F : Hp) (μ : List Addr) (st : Sto) (H : Hp) : Prop where
  sub0 : Wk F H
  len : st.length = μ.length
  obj : ∀ (p : Nat) (o : Ob) (a : Addr), st[p]? = some (some o) → μ[p]? = some a → RO K ct F μ H a o
  dis : ∀ (p : Nat) (o : Ob) (a : Addr), st[p]? = some (some o) → μ[p]? = some a → F a = none
  inj : ∀ (p q : Nat) (o o' : Ob) (a : Addr), st[p]? = some (some o) → st[q]? = some (some o') → μ[p]? = some a → μ[q]? = some a → p = q
  mtr : ∀ a, a ∈ μ → H a ≠ none
  tabs : ∀ P, P ∈ ct.tps → GxR.TabG H P ∧ F P = none

structure Ext (F : Hp) (μ : List Addr) (H F' : Hp) (μ' : List Addr) (H' : Hp) : Prop where
  fr : Wk F F'
  pre : μ <+: μ'
  keep0 : ∀ a o, H a = some o → a ∉ μ → (∀ ps, o ≠ .tbl ps) → H' a = some o ∨ ∃ ob kvs, o = .dK kvs ∧ F a = some (.dK kvs) ∧ H' a = some (.frz ob (.dK kvs))
  tab : ∀ P, GxR.TabG H P → GxR.TabG H' P
  new : ∀ a, F' a ≠ none → F a ≠ none ∨ H a = none ∨ a ∈ μ
  mnew : ∀ a, a ∈ μ' → a ∈ μ ∨ H a = none
  there : ∀ a, H a ≠ none → H' a ≠ none
theorem Rel.sub {K : PySem.W.Frag} {ct : Ct} {F : Hp} {μ : List Addr} {st : Sto} {H : Hp} (r : Rel K ct F μ st H) (b : Addr) (o : HO) (h : F b = some o) (n : ∀ kvs, o ≠ .dK kvs := by nofun) : H b = some o := r.sub0.sub b o h n
theorem Ext.keep {F : Hp} {μ : List Addr} {H F' : Hp} {μ' : List Addr} {H' : Hp} (x : Ext F μ H F' μ' H') (a : Addr) (o : HO) (h : H a = some o) (n : a ∉ μ) (nt : ∀ ps, o ≠ .tbl ps) (hF : F a = none ∨ ∀ kvs, o ≠ .dK kvs := by exact .inr nofun) : H' a = some o := by
  rcases x.keep0 a o h n nt with q | ⟨_, kvs, q, q2, _⟩
  · exact q
  · rcases hF with z | z
    · rw [q2] at z; cases z
    · exact absurd q (z kvs)

section
variable {K : PySem.W.Frag} {ct : Ct} {F F1 F2 F' : Hp} {μ μ1 μ2 μ' : List Addr} {H H1 H2 H' : Hp} {st : Sto}
theorem Ext.refl : Ext F μ H F μ H := ⟨.refl _, List.prefix_rfl, fun _ _ h _ _ => .inl h, fun _ h => h, fun _ h => .inl h, fun _ h => .inl h, fun _ h => h⟩
theorem Ext.trans (x : Ext F μ H F1 μ1 H1) (y : Ext F1 μ1 H1 F2 μ2 H2) : Ext F μ H F2 μ2 H2 where
  fr := x.fr.trans y.fr
  pre := x.pre.trans y.pre
  keep0 := fun a o h n nt => by
    have n1 : a ∉ μ1 := fun m => (x.mnew a m).elim n fun z => by rw [h] at z; cases z
    rcases x.keep0 a o h n nt with q | ⟨ob, kvs, rfl, qF, q⟩
    · rcases y.keep0 a o q n1 nt with q2 | ⟨ob, kvs, rfl, qF, q2⟩
      · exact .inl q2
      · refine .inr ⟨ob, kvs, rfl, ?_, q2⟩
        rcases x.new a (by rw [qF]; exact fun z => nomatch z) with z | z | z
        · cases e : F a with
          | none => exact absurd e z
          | some u =>
            rcases x.fr a u e with q9 | ⟨_, _, q8, q9⟩
            · rw [q9] at qF; exact qF
            · rw [q9] at qF; cases qF
        · rw [h] at z; cases z
        · exact absurd z n
    · rcases y.keep0 a _ q n1 (fun _ => nofun) with q2 | ⟨_, _, z, _⟩
      · exact .inr ⟨ob, kvs, rfl, qF, q2⟩
      · cases z
  tab := fun P h => y.tab P (x.tab P h)
  new := fun a h => by
    rcases y.new a h with h | h | h
    · exact x.new a h
    · refine .inr (.inl ?_)
      cases q : H a with
      | none => rfl
      | some o => exact absurd h (x.there a (by rw [q]; exact fun z => nomatch z))
    · exact (x.mnew a h).elim (fun z => .inr (.inr z)) fun z => .inr (.inl z)
  mnew := fun a h => by
    rcases y.mnew a h with h | h
    · exact x.mnew a h
    · refine .inr ?_
      cases q : H a with
      | none => rfl
      | some o => exact absurd h (x.there a (by rw [q]; exact fun z => nomatch z))
  there := fun a h => y.there a (x.there a h)
theorem Ext.rv {w : Va} {v : V} (x : Ext F μ H F' μ' H') (r : RV K F μ w v) : RV K F' μ' w v := r.mono x.fr x.pre
theorem Ext.rvs {w : List Va} {v : List V} (x : Ext F μ H F' μ' H') (r : RVs K F μ w v) : RVs K F' μ' w v := r.mono x.fr x.pre

theorem Rel.nofrz {p : Addr} (x : Rel K ct F μ st H) (h : H p = none) : F p = none := by
  cases q : F p with
  | none => rfl
  | some o =>
    obtain ⟨u, hu⟩ := x.sub0.any q
    rw [hu] at h
    cases h
theorem same_upd0 {p : Addr} {o : HO} (h : H p = none) : Same H (upd H p o) := fun b x e => by
  rw [upd_ne (ne_of_none e h)]
  exact e
theorem same_upd {p : Addr} {o : HO} (h : H p = none) : Wk H (upd H p o) := .of (same_upd0 h)
theorem upd_there {H : Hp} {a p : Addr} {o : HO} (h : H a ≠ none) : upd H p o a ≠ none := by
  by_cases e : a = p
  · subst e; rw [upd_same]; exact fun z => nomatch z
  · rw [upd_ne e]; exact h
theorem tabG_ne {P p : Addr} (h : GxR.TabG H P) (e : ∀ ps, H p ≠ some (.tbl ps)) : P ≠ p := fun z => by
  obtain ⟨ps, h1, _⟩ := h
  rw [z] at h1
  exact e ps h1
theorem tabG_upd {P p : Addr} {o : HO} (h : GxR.TabG H P) (e : ∀ ps, H p ≠ some (.tbl ps)) : GxR.TabG (upd H p o) P := by
  have n := tabG_ne h e
  obtain ⟨ps, h1, h2⟩ := h
  exact ⟨ps, by rw [upd_ne n]; exact h1, h2⟩
theorem nt_none {p : Addr} (h : H p = none) : ∀ ps, H p ≠ some (.tbl ps) := fun ps e => by rw [h] at e; cases e
theorem nt_mut {p : Addr} {u : HO} (h : H p = some u) (m : Mut (some u)) : ∀ ps, H p ≠ some (.tbl ps) := fun ps e => by
  rw [h] at e
  cases e
  exact m
/-- a new frozen object -/
theorem Rel.frz {p : Addr} (x : Rel K ct F μ st H) (h : H p = none) (o : HO) : Rel K ct (upd F p o) μ st (upd H p o) := by
  have hF := x.nofrz h
  refine ⟨x.sub0.both, x.len, fun q ob a e1 e2 => ?_, fun q ob a e1 e2 => ?_, x.inj, fun a m => upd_there (x.mtr a m), fun P m => ⟨tabG_upd (x.tabs P m).1 (nt_none h), by rw [upd_ne (tabG_ne (x.tabs P m).1 (nt_none h))]; exact (x.tabs P m).2⟩⟩
  · have r := x.obj q ob a e1 e2
    obtain ⟨u, hu, _⟩ := r.there
    exact r.mono (same_upd hF) List.prefix_rfl (upd_ne (ne_of_none hu h))
  · have r := x.obj q ob a e1 e2
    obtain ⟨u, hu, _⟩ := r.there
    rw [upd_ne (ne_of_none hu h)]
    exact x.dis q ob a e1 e2
theorem Ext.frz {p : Addr} (x : Rel K ct F μ st H) (h : H p = none) (o : HO) : Ext F μ H (upd F p o) μ (upd H p o) := by
  have hF := x.nofrz h
  refine ⟨same_upd hF, List.prefix_rfl, fun a u e _ _ => .inl (same_upd0 h a u e), fun P t => tabG_upd t (nt_none h), fun a e => ?_, fun _ m => .inl m, fun a e => ?_⟩
  · by_cases ha : a = p
    · subst ha; exact .inr (.inl h)
    · rw [upd_ne ha] at e; exact .inl e
  · cases q : H a with
    | none => exact absurd q e
    | some u => rw [same_upd0 h a u q]; exact fun z => nomatch z
theorem pre_app {r : List Addr} : μ <+: μ ++ r := ⟨r, rfl⟩
theorem get_app {α : Type} {l : List α} {x y : α} {i : Nat} (h : (l ++ [x])[i]? = some y) : (l[i]? = some y) ∨ (i = l.length ∧ y = x) := by
  by_cases hi : i < l.length
  · rw [List.getElem?_append_left hi] at h; exact .inl h
  · rw [List.getElem?_append_right (by omega)] at h
    have : i - l.length = 0 := by
      cases q : i - l.length with
      | zero => rfl
      | succ n => rw [q] at h; simp at h
    rw [this] at h
    simp at h
    exact .inr ⟨by omega, h.symm⟩
/-- a new object of the store -/
theorem Rel.put {p : Addr} (x : Rel K ct F μ st H) (h : H p = none) {o : HO} {ob : Ob} (r : RO K ct F μ (upd H p o) p ob) : Rel K ct F (μ ++ [p]) (st ++ [some ob]) (upd H p o) := by
  have hF := x.nofrz h
  have hl := x.len
  refine ⟨x.sub0.right fun a u e => let ⟨_, hu⟩ := x.sub0.any e; ne_of_none hu h, by simp [hl], fun q ob' a e1 e2 => ?_, fun q ob' a e1 e2 => ?_, fun q q' ob1 ob2 a e1 e2 e3 e4 => ?_, fun a m => ?_, fun P m => ⟨tabG_upd (x.tabs P m).1 (nt_none h), (x.tabs P m).2⟩⟩
  · rcases get_app e1 with e1 | ⟨rfl, e1'⟩
    · have hq := (List.getElem?_eq_some_iff.mp e1).1
      rw [List.getElem?_append_left (by omega)] at e2
      have r' := x.obj q ob' a e1 e2
      obtain ⟨u, hu, _⟩ := r'.there
      exact r'.mono (.refl _) pre_app (upd_ne (ne_of_none hu h))
    · rw [hl, List.getElem?_append_right (Nat.le_refl _)] at e2
      simp at e2
      subst e2
      rw [Option.some.inj e1']
      exact r.mono (.refl _) pre_app rfl
  · rcases get_app e1 with e1 | ⟨rfl, e1⟩
    · have hq := (List.getElem?_eq_some_iff.mp e1).1
      rw [List.getElem?_append_left (by omega)] at e2
      exact x.dis q ob' a e1 e2
    · rw [hl, List.getElem?_append_right (Nat.le_refl _)] at e2
      simp at e2
      subst e2
      exact hF
  · have old : ∀ {q : Nat} {ob' : Ob} {a : Addr}, st[q]? = some (some ob') → (μ ++ [p])[q]? = some a → μ[q]? = some a ∧ a ≠ p := fun {q ob' a} e1 e2 => by
      have hq := (List.getElem?_eq_some_iff.mp e1).1
      rw [List.getElem?_append_left (by omega)] at e2
      obtain ⟨u, hu, _⟩ := (x.obj q ob' a e1 e2).there
      exact ⟨e2, ne_of_none hu h⟩
    have new : ∀ {q : Nat} {a : Addr}, q = st.length → (μ ++ [p])[q]? = some a → a = p := fun {q a} e1 e2 => by
      rw [e1, hl, List.getElem?_append_right (Nat.le_refl _)] at e2
      simp at e2
      exact e2.symm
    rcases get_app e1 with e1 | ⟨h1, e1⟩ <;> rcases get_app e2 with e2 | ⟨h2, e2⟩
    · exact x.inj q q' ob1 ob2 a e1 e2 (old e1 e3).1 (old e2 e4).1
    · exact absurd (new h2 e4) (old e1 e3).2
    · exact absurd (new h1 e3) (old e2 e4).2
    · rw [h1, h2]
  · rcases List.mem_append.mp m with m | m
    · exact upd_there (x.mtr a m)
    · rw [List.mem_singleton.mp m, upd_same]; exact fun z => nomatch z
theorem Ext.put {p : Addr} (x : Rel K ct F μ st H) (h : H p = none) (o : HO) : Ext F μ H F (μ ++ [p]) (upd H p o) := by
  refine ⟨.refl _, pre_app, fun a u e _ _ => .inl (same_upd0 h a u e), fun P t => tabG_upd t (nt_none h), fun a e => .inl e, fun a m => ?_, fun a e => ?_⟩
  · rcases List.mem_append.mp m with m | m
    · exact .inl m
    · rw [List.mem_singleton.mp m]; exact .inr h
  · cases q : H a with
    | none => exact absurd q e
    | some u => rw [same_upd0 h a u q]; exact fun z => nomatch z
/-- an object of the store is written -/
theorem Rel.write {p : Nat} {a : Addr} {ob ob' : Ob} {o : HO} (x : Rel K ct F μ st H) (h1 : st[p]? = some (some ob)) (h2 : μ[p]? = some a) (r : RO K ct F μ (upd H a o) a ob') : Rel K ct F μ (st.set p (some ob')) (upd H a o) := by
  have hF := x.dis p ob a h1 h2
  have hp := (List.getElem?_eq_some_iff.mp h1).1
  have old : ∀ {q : Nat} {ob1 : Ob}, (st.set p (some ob'))[q]? = some (some ob1) → (q = p ∧ ob1 = ob') ∨ (q ≠ p ∧ st[q]? = some (some ob1)) := fun {q ob1} e => by
    by_cases hq : p = q
    · subst hq
      rw [List.getElem?_set_self hp] at e
      cases e
      exact .inl ⟨rfl, rfl⟩
    · rw [List.getElem?_set_ne hq] at e
      exact .inr ⟨fun z => hq z.symm, e⟩
  have live : ∀ {q : Nat} {ob1 : Ob}, (st.set p (some ob'))[q]? = some (some ob1) → ∃ ob2, st[q]? = some (some ob2) := fun {q ob1} e => by
    rcases old e with ⟨rfl, _⟩ | ⟨_, e⟩
    · exact ⟨_, h1⟩
    · exact ⟨_, e⟩
  refine ⟨x.sub0.right fun b u e => ne_of_none e hF, by rw [List.length_set]; exact x.len, fun q ob1 b e1 e2 => ?_, fun q ob1 b e1 e2 => ?_, fun q q' ob1 ob2 b e1 e2 e3 e4 => ?_, fun b m => upd_there (x.mtr b m), fun P m => ⟨tabG_upd (x.tabs P m).1 (let ⟨_, hu, mu⟩ := (x.obj p ob a h1 h2).there; nt_mut hu mu), (x.tabs P m).2⟩⟩
  · rcases old e1 with ⟨rfl, rfl⟩ | ⟨hq, e1⟩
    · rw [h2] at e2; cases e2; exact r
    · have r' := x.obj q ob1 b e1 e2
      refine r'.mono (.refl _) List.prefix_rfl (upd_ne fun z => hq ?_)
      subst z
      exact x.inj q p ob1 ob b e1 h1 e2 h2
  · obtain ⟨ob2, e⟩ := live e1
    exact x.dis q ob2 b e e2
  · obtain ⟨o1, f1⟩ := live e1
    obtain ⟨o2, f2⟩ := live e2
    exact x.inj q q' o1 o2 b f1 f2 e3 e4
theorem Ext.write {p : Nat} {a : Addr} {ob : Ob} (x : Rel K ct F μ st H) (h1 : st[p]? = some (some ob)) (h2 : μ[p]? = some a) (o : HO) : Ext F μ H F μ (upd H a o) := by
  obtain ⟨u, hu, mu⟩ := (x.obj p ob a h1 h2).there
  refine ⟨.refl _, List.prefix_rfl, fun b u e n _ => ?_, fun P t => tabG_upd t (nt_mut hu mu), fun b e => .inl e, fun b m => .inl m, fun b e => ?_⟩
  · rw [upd_ne (show b ≠ a from fun z => n (by rw [z]; exact List.mem_of_getElem? h2))]; exact .inl e
  · by_cases hb : b = a
    · subst hb; rw [upd_same]; exact fun z => nomatch z
    · rw [upd_ne hb]; exact e
/-- an object of the store is frozen -/
theorem Rel.freeze {p : Nat} {a : Addr} {ob : Ob} {o : HO} (x : Rel K ct F μ st H) (h1 : st[p]? = some (some ob)) (h2 : μ[p]? = some a) (h3 : H a = some o) : Rel K ct (upd F a o) μ (st.set p none) H := by
  have hF := x.dis p ob a h1 h2
  have hp := (List.getElem?_eq_some_iff.mp h1).1
  have old : ∀ {q : Nat} {ob1 : Ob}, (st.set p none)[q]? = some (some ob1) → q ≠ p ∧ st[q]? = some (some ob1) := fun {q ob1} e => by
    by_cases hq : p = q
    · subst hq
      rw [List.getElem?_set_self hp] at e
      cases e
    · rw [List.getElem?_set_ne hq] at e
      exact ⟨fun z => hq z.symm, e⟩
  refine ⟨x.sub0.left h3, by rw [List.length_set]; exact x.len, fun q ob1 b e1 e2 => ?_, fun q ob1 b e1 e2 => ?_, fun q q' ob1 ob2 b e1 e2 e3 e4 => ?_, x.mtr, fun P m => ⟨(x.tabs P m).1, by rw [upd_ne (tabG_ne (x.tabs P m).1 (let ⟨_, hu, mu⟩ := (x.obj p ob a h1 h2).there; nt_mut hu mu))]; exact (x.tabs P m).2⟩⟩
  · exact (x.obj q ob1 b (old e1).2 e2).mono (same_upd hF) List.prefix_rfl rfl
  · obtain ⟨hq, e⟩ := old e1
    rw [upd_ne (show b ≠ a from fun z => hq (x.inj q p ob1 ob b e h1 e2 (by rw [z]; exact h2)))]
    exact x.dis q ob1 b e e2
  · exact x.inj q q' ob1 ob2 b (old e1).2 (old e2).2 e3 e4
theorem Ext.freeze {p : Nat} {a : Addr} {ob : Ob} (x : Rel K ct F μ st H) (h1 : st[p]? = some (some ob)) (h2 : μ[p]? = some a) (o : HO) : Ext F μ H (upd F a o) μ H := by
  have hF := x.dis p ob a h1 h2
  refine ⟨same_upd hF, List.prefix_rfl, fun b u e _ _ => .inl e, fun P t => t, fun b e => ?_, fun b m => .inl m, fun b e => e⟩
  by_cases hb : b = a
  · subst hb; exact .inr (.inr (List.mem_of_getElem? h2))
  · rw [upd_ne hb] at e; exact .inl e
end

/-- the slots -/
structure REnv (K : PySem.W.Frag) (ct : Ct) (F : Hp) (μ : List Addr) (env : Ev) (σ : L2.St) : Prop where
  len : env.length = σ.length
  get : ∀ (i : Nat) (w : Va), env[i]? = some (some w) → ∃ v, σ[i]? = some (some v) ∧ RV K F μ w v
  inv : ct.inv σ F
theorem REnv.mono {K : PySem.W.Frag} {ct : Ct} {F F' H H' : Hp} {μ μ' : List Addr} {env : Ev} {σ : L2.St} (x : Ext F μ H F' μ' H') (r : REnv K ct F μ env σ) : REnv K ct F' μ' env σ :=
  ⟨r.len, fun i w e => let ⟨v, h1, h2⟩ := r.get i w e; ⟨v, h1, x.rv h2⟩, ct.mono _ _ _ x.fr r.inv⟩
theorem REnv.set {K : PySem.W.Frag} {ct : Ct} {F : Hp} {μ : List Addr} {env : Ev} {σ : L2.St} {w : Va} {v : V} (r : REnv K ct F μ env σ) (i : Nat) (hb : ct.Bears i) (h : RV K F μ w v) : REnv K ct F μ (env.set i (some w)) (σ.set i (some v)) := by
  refine ⟨by simp [r.len], fun j u e => ?_, hb _ _ _ r.inv⟩
  by_cases hj : i = j
  · subst hj
    by_cases hi : i < env.length
    · rw [List.getElem?_set_self hi] at e
      cases e
      exact ⟨v, List.getElem?_set_self (by rw [← r.len]; exact hi), h⟩
    · rw [List.getElem?_eq_none (by simpa using hi)] at e; cases e
  · rw [List.getElem?_set_ne hj] at e ⊢
    exact r.get j u e
end G

set_option Elab.async false
set_option linter.all false
set_option maxRecDepth 100000
set_option maxHeartbeats 4000000
namespace G
open PySem PySem.Spec PyProof.Rows L2

def R.bind {α β : Type} (m : R α) (k : α → Sto → R β) : R β := match m with
  | .ok a st => k a st
  | .err x st => .err x st
  | .stuck => .stuck
@[simp] theorem R.bind_ok {α β : Type} (a : α) (st : Sto) (k : α → Sto → R β) : (R.ok a st).bind k = k a st := rfl
@[simp] theorem R.bind_err {α β : Type} (x : Exc) (st : Sto) (k : α → Sto → R β) : (R.err x st : R α).bind k = .err x st := rfl
@[simp] theorem R.bind_stuck {α β : Type} (k : α → Sto → R β) : (R.stuck : R α).bind k = .stuck := rfl
abbrev Mx (α : Type) := Ev → Sto → R α

/-- an exception, as it lies -/
structure RX (K : PySem.W.Frag) (ct : Ct) (F : Hp) (μ : List Addr) (x : Exc) (cls : Value) (d : Option Addr) : Prop where
  cls : ∃ C, ct.tab x.cls = some C ∧ cls = .ref C
  fs : ∀ n w, x.fs.lookup n = some w → ∃ d' fvs v, d = some d' ∧ F d' = some (.xd fvs) ∧ fvs.lookup (mkS n) = some v ∧ RV K F μ w v
  dd : d = none ∨ ∃ d' fvs, d = some d' ∧ F d' = some (.xd fvs)

def GPost {α β : Type} (K : PySem.W.Frag) (ct : Ct) (W : WX) (RA : Hp → List Addr → α → β → Prop) (σ : L2.St) (F : Hp) (μ : List Addr) (H : Hp) (Q : β → Hp → Prop) : R α → Prop
  | .ok a st => ∀ F' μ' H' v, Ext F μ H F' μ' H' → Rel K ct F' μ' st H' → RA F' μ' a v → Q v H'
  | .err x st => ∀ F' μ' H' cls d, Ext F μ H F' μ' H' → Rel K ct F' μ' st H' → RX K ct F' μ' x cls d → W cls d σ H'
  | .stuck => False
def TOf {α β : Type} (K : PySem.W.Frag) (ct : Ct) (W : WX) (RA : Hp → List Addr → α → β → Prop) (m : Mx α) : L2.St → Hp → (β → Hp → Prop) → Prop := fun σ H Q =>
  ∃ F μ env st, Rel K ct F μ st H ∧ REnv K ct F μ env σ ∧ GPost K ct W RA σ F μ H Q (m env st)
abbrev RB : Hp → List Addr → Bool → Bool → Prop := fun _ _ a b => a = b

section
variable {K : PySem.W.Frag} {ct : Ct} {W : WX} {F F1 : Hp} {μ μ1 : List Addr} {H H1 : Hp} {σ : L2.St} {st : Sto} {α β γ δ : Type} {RA : Hp → List Addr → α → β → Prop} {RC : Hp → List Addr → γ → δ → Prop}
theorem GPost.at {Q : β → Hp → Prop} {m : R α} (x : Ext F μ H F1 μ1 H1) (h : GPost K ct W RA σ F μ H Q m) : GPost K ct W RA σ F1 μ1 H1 Q m := by
  cases m with
  | ok a st => exact fun F' μ' H' v e r ra => h F' μ' H' v (x.trans e) r ra
  | err y st => exact fun F' μ' H' c d e r rx => h F' μ' H' c d (x.trans e) r rx
  | stuck => exact h
theorem GPost.mono {Q Q' : β → Hp → Prop} {m : R α} (h : GPost K ct W RA σ F μ H Q m) (q : ∀ v H', Q v H' → Q' v H') : GPost K ct W RA σ F μ H Q' m := by
  cases m with
  | ok a st => exact fun F' μ' H' v e r ra => q _ _ (h F' μ' H' v e r ra)
  | err y st => exact h
  | stuck => exact h
/-- one step, then the rest -/
theorem GPost.bind {Q : δ → Hp → Prop} {N : β → Hp → Prop} {m : R α} {k : α → Sto → R γ} (h : GPost K ct W RC σ F μ H Q (m.bind k))
    (n : ∀ a st1 F1 μ1 H1 v, m = .ok a st1 → Ext F μ H F1 μ1 H1 → Rel K ct F1 μ1 st1 H1 → RA F1 μ1 a v → GPost K ct W RC σ F1 μ1 H1 Q (k a st1) → N v H1) : GPost K ct W RA σ F μ H N m := by
  cases m with
  | ok a st => exact fun F' μ' H' v e r ra => n a st F' μ' H' v rfl e r ra (h.at e)
  | err y st => exact h
  | stuck => exact h
/-- the value is here -/
theorem GPost.here {Q : β → Hp → Prop} {a : α} {v : β} (h : GPost K ct W RA σ F μ H Q (.ok a st)) (r : Rel K ct F μ st H) (ra : RA F μ a v) : Q v H := h F μ H v .refl r ra

/-! ### sequences -/
def lstOf (x : Va) (st : Sto) : Option (List Va) := match x with
  | .lst l => some l
  | .ref p => match st[p]? with
    | some (some (.lst l)) => some l
    | _ => none
  | _ => none
def dicOf (x : Va) (st : Sto) : Option (List Ky × List Va) := match x with
  | .dic k l => some (k, l)
  | .ref p => match st[p]? with
    | some (some (.dic k l)) => some (k, l)
    | _ => none
  | _ => none
/-- a list, a tuple that is read -/
def seqOf (x : Va) (st : Sto) : Option (List Va) := match x with
  | .tup l => some l
  | .scr l => some l
  | _ => lstOf x st
theorem lstOf_ok {x : Va} {v : V} {l : List Va} (r : Rel K ct F μ st H) (rv : RV K F μ x v) (h : lstOf x st = some l) : ∃ a vs, v = .ref a ∧ H a = some (.lst vs) ∧ RVs K F μ l vs := by
  cases rv with
  | lst hf rs =>
    cases h
    exact ⟨_, _, rfl, r.sub _ _ hf, rs⟩
  | @ref p a hp =>
    unfold lstOf at h
    simp only at h
    split at h
    · rename_i l' e
      cases h
      cases r.obj p _ a e hp with
      | lst h1 h2 => exact ⟨a, _, rfl, h1, h2⟩
    · cases h
  | _ => cases h
theorem dget_rd {H : Hp} {a : Addr} {kvs : List (Key × V)} {k : Key} (e : Rd H a (.dK kvs)) : DGet H a (kV k) (valV kvs k) := .inl ⟨kvs, k, e, rfl, rfl⟩
theorem dicOf_ok {x : Va} {v : V} {ks : List Ky} {l : List Va} (r : Rel K ct F μ st H) (rv : RV K F μ x v) (h : dicOf x st = some (ks, l)) : ∃ a kvs, v = .ref a ∧ Rd H a (.dK kvs) ∧ kvs.map (·.1) = ks.map kyK ∧ RVs K F μ l (kvs.map (·.2)) := by
  cases rv with
  | dic hf hk rs =>
    cases h
    exact ⟨_, _, rfl, r.sub0.rd2 hf, hk, rs⟩
  | @ref p a hp =>
    unfold dicOf at h
    simp only at h
    split at h
    · rename_i k' l' e
      cases h
      cases r.obj p _ a e hp with
      | dic h1 h2 h3 => exact ⟨a, _, rfl, .inl h1, h2, h3⟩
    · cases h
  | _ => cases h
theorem seqOf_ok {x : Va} {v : V} {l : List Va} (r : Rel K ct F μ st H) (rv : RV K F μ x v) (h : seqOf x st = some l) : ∃ a vs, v = .ref a ∧ (SqL K H a vs ∨ SqT K H a vs) ∧ RVs K F μ l vs := by
  cases rv with
  | tup hf rs =>
    cases h
    exact ⟨_, _, rfl, .inr (r.sub0.tupl hf), rs⟩
  | scr hf rs =>
    cases h
    exact ⟨_, _, rfl, .inl (r.sub0.seq hf), rs⟩
  | lst hf rs =>
    obtain ⟨a, vs, e, h1, h2⟩ := lstOf_ok r (.lst hf rs) h
    exact ⟨a, vs, e, .inl (.of h1), h2⟩
  | ref hp =>
    obtain ⟨a, vs, e, h1, h2⟩ := lstOf_ok r (.ref hp) h
    exact ⟨a, vs, e, .inl (.of h1), h2⟩
  | _ => cases h

/-! ### new things -/
def mkL (m : Bool) (l : List Va) (st : Sto) : R Va := if l.length ≤ sizeLine then (if m then .ok (.ref st.length) (st ++ [some (.lst l)]) else .ok (.lst l) st) else .stuck
def mkT (l : List Va) (st : Sto) : R Va := if l.length ≤ sizeLine then .ok (.tup l) st else .stuck
theorem mkL_ok {m : Bool} {l : List Va} {vs : List V} {Q : VK} (r : Rel K ct F μ st H) (rs : RVs K F μ l vs) (h : GPost K ct W (RV K) σ F μ H Q (mkL m l st)) : vs.length ≤ sizeLine ∧ ∀ p, H p = none → Q (.ref p) (upd H p (.lst vs)) := by
  unfold mkL at h
  split at h
  · rename_i hz
    refine ⟨by rw [← rs.length]; exact hz, fun p hp => ?_⟩
    cases m with
    | false =>
      exact h _ _ _ _ (.frz r hp _) (r.frz hp _) (.lst upd_same (rs.mono (same_upd (r.nofrz hp)) List.prefix_rfl))
    | true =>
      refine h _ _ _ _ (.put r hp _) (r.put hp (.lst upd_same rs)) (.ref ?_)
      rw [r.len, List.getElem?_append_right (Nat.le_refl _)]
      simp
  · exact h.elim
theorem mkT_ok {l : List Va} {vs : List V} {Q : VK} (r : Rel K ct F μ st H) (rs : RVs K F μ l vs) (h : GPost K ct W (RV K) σ F μ H Q (mkT l st)) : vs.length ≤ sizeLine ∧ ∀ p, H p = none → Q (.ref p) (upd H p (.tup vs)) := by
  unfold mkT at h
  split at h
  · rename_i hz
    exact ⟨by rw [← rs.length]; exact hz, fun p hp => h _ _ _ _ (.frz r hp _) (r.frz hp _) (.tup (.of upd_same) (rs.mono (same_upd (r.nofrz hp)) List.prefix_rfl))⟩
  · exact h.elim
end

/-! ### two-place operations -/
/-- by values -/
def opOf (K : PySem.W.Frag) (ct : Ct) (W : WX) (g : Va → Va → Sto → R Va) : R2 := fun x y H Q =>
  ∃ F μ st w1 w2 σ, Rel K ct F μ st H ∧ RV K F μ w1 x ∧ RV K F μ w2 y ∧ GPost K ct W (RV K) σ F μ H Q (g w1 w2 st)
def mBin (g : Va → Va → Sto → R Va) (ma mb : Mx Va) : Mx Va := fun env st => (ma env st).bind fun x st => (mb env st).bind fun y st => g x y st
section
variable {X : Cx} {ct : Ct} {W : WX} {a b : Expr} {ma mb mc : Mx Va} {pos : Pos}
abbrev TE' (X : Cx) (ct : Ct) (W : WX) (m : Mx Va) : TE := TOf X.K ct W (RV X.K) m
theorem PE.mono {X : Cx} {e : Expr} {t t' : TE} (h : PE X e t) (i : ∀ σ H Q, t' σ H Q → t σ H Q) : PE X e t' := ⟨fun pins s σ H Q I q => h.run pins s σ H Q I (i σ H Q q)⟩
theorem PT.mono {X : Cx} {e : Expr} {t t' : TT} (h : PT X e t) (i : ∀ σ H Q, t' σ H Q → t σ H Q) : PT X e t' := ⟨fun pins s σ H Q I q => h.run pins s σ H Q I (i σ H Q q)⟩
theorem tOp_of {g : Va → Va → Sto → R Va} {σ : L2.St} {H : Hp} {Q : VK} (h : TE' X ct W (mBin g ma mb) σ H Q) : tOp (opOf X.K ct W g) (TE' X ct W ma) (TE' X ct W mb) σ H Q := by
  obtain ⟨F, μ, env, st, r, re, p⟩ := h
  refine ⟨F, μ, env, st, r, re, p.bind fun w1 st1 F1 μ1 H1 v1 _ x1 r1 rv1 p1 => ⟨F1, μ1, env, st1, r1, re.mono x1, p1.bind fun w2 st2 F2 μ2 H2 v2 _ x2 r2 rv2 p2 => ?_⟩⟩
  exact ⟨F2, μ2, st2, w1, w2, σ, r2, x2.rv rv1, rv2, p2⟩
theorem sim_bin {op : Operator} {g : Va → Va → Sto → R Va} (ho : OpR X (binaryOp op) (opOf X.K ct W g)) (ha : PE X a (TE' X ct W ma)) (hb : PE X b (TE' X ct W mb)) : PE X (.BinOp a op b pos) (TE' X ct W (mBin g ma mb)) :=
  PE.mono (pe_op ho ha hb) fun _ _ _ => tOp_of
end


/-! ### the kinds of values -/
def intOf : Va → Option Int | .int i => some i | _ => none
def strOf : Va → Option Tx | .str i => some i | _ => none
def blOf : Va → Option Bool | .bl i => some i | _ => none
def tupOf : Va → Option (List Va) | .tup i => some i | _ => none
section
variable {K : PySem.W.Frag} {F : Hp} {μ : List Addr} {x : Va} {v : V}
theorem intOf_ok {i : Int} (r : RV K F μ x v) (h : intOf x = some i) : v = .int i := by cases r <;> cases h; rfl
theorem strOf_ok {i : Tx} (r : RV K F μ x v) (h : strOf x = some i) : v = .str (mkS i) := by cases r <;> cases h; rfl
theorem blOf_ok {i : Bool} (r : RV K F μ x v) (h : blOf x = some i) : v = .bl i := by cases r <;> cases h; rfl
theorem tupOf_ok {l : List Va} (r : RV K F μ x v) (h : tupOf x = some l) : ∃ a vs, v = .ref a ∧ SqT K F a vs ∧ RVs K F μ l vs := by
  cases r <;> cases h
  exact ⟨_, _, rfl, by assumption, by assumption⟩
end

section
variable {X : Cx} {ct : Ct} {W : WX}
def addV (m : Bool) (x y : Va) (st : Sto) : R Va := match intOf x, intOf y with
  | some i, some j => .ok (.int (i + j)) st
  | _, _ => match strOf x, strOf y with
    | some i, some j => if i.length + j.length ≤ sizeLine then .ok (.str (i ++ j)) st else .stuck
    | _, _ => match tupOf x, tupOf y with
      | some a, some b => mkT (a ++ b) st
      | _, _ => match lstOf x st, lstOf y st with
        | some a, some b => mkL m (a ++ b) st
        | _, _ => .stuck
theorem RVs.nil_iff {K : PySem.W.Frag} {F : Hp} {μ : List Addr} {ws : List Va} (r : RVs K F μ ws []) : ws = [] := by cases r; rfl
theorem op_addV (m : Bool) : OpR X (binaryOp .Add) (opOf X.K ct W (addV m)) := by
  intro pins s σ H x y v u Q I rx ry h
  obtain ⟨F, μ, st, w1, w2, σ', r, r1, r2, p⟩ := h
  unfold addV at p
  split at p
  · rename_i i j e1 e2
    obtain rfl := intOf_ok r1 e1
    obtain rfl := intOf_ok r2 e2
    exact op_add pins s σ H _ _ v u Q I rx ry ⟨i, j, rfl, rfl, p.here r (.int _)⟩
  split at p
  · rename_i i j e1 e2
    obtain rfl := strOf_ok r1 e1
    obtain rfl := strOf_ok r2 e2
    split at p
    · rename_i hz
      exact op_add_str pins s σ H _ _ v u Q I rx ry ⟨_, _, rfl, rfl, by rw [mkS_len, mkS_len]; exact hz, by rw [mkS_app]; exact p.here r (.str _)⟩
    · exact p.elim
  split at p
  · rename_i l1 l2 e1 e2
    obtain ⟨a, vs, rfl, h1, s1⟩ := tupOf_ok r1 e1
    obtain ⟨b, ws, rfl, h2, s2⟩ := tupOf_ok r2 e2
    have p' := p
    obtain ⟨hz, q⟩ := mkT_ok r (s1.append s2) p
    refine op_catA pins s σ H _ _ v u Q I rx ry ⟨_, _, _, _, rfl, rfl, r.sub0.tupl h1, r.sub0.tupl h2, by rw [← List.length_append]; exact hz, fun e => ?_, fun _ e => ?_, fun _ _ => q⟩
    · subst e
      obtain rfl := s1.nil_iff
      simp only [mkT, List.nil_append] at p'
      split at p'
      · exact p'.here r (.tup h2 s2)
      · exact p'.elim
    · subst e
      obtain rfl := s2.nil_iff
      simp only [mkT, List.append_nil] at p'
      split at p'
      · exact p'.here r (.tup h1 s1)
      · exact p'.elim
  split at p
  · rename_i a b e1 e2
    obtain ⟨l1, vs1, rfl, h1, s1⟩ := lstOf_ok r r1 e1
    obtain ⟨l2, vs2, rfl, h2, s2⟩ := lstOf_ok r r2 e2
    obtain ⟨hz, q⟩ := mkL_ok r (s1.append s2) p
    exact op_cat pins s σ H _ _ v u Q I rx ry ⟨_, _, _, _, rfl, rfl, h1, h2, by rw [← List.length_append]; exact hz, q⟩
  · exact p.elim
/-- two ints, under C -/
def intV (C : Int → Int → Bool) (g : Int → Int → Va) (x y : Va) (st : Sto) : R Va := match intOf x, intOf y with
  | some i, some j => if C i j then .ok (g i j) st else .stuck
  | _, _ => .stuck
theorem op_intV {f : Value → Value → Sem Value} {C : Int → Int → Bool} {P : Int → Int → Prop} {g : Int → Int → Va} {g' : Int → Int → V} (ho : OpR X f (rI P g')) (hC : ∀ i j, C i j = true → P i j) (hg : ∀ F μ i j, RV X.K F μ (g i j) (g' i j)) : OpR X f (opOf X.K ct W (intV C g)) := by
  intro pins s σ H x y v u Q I rx ry h
  obtain ⟨F, μ, st, w1, w2, σ', r, r1, r2, p⟩ := h
  unfold intV at p
  split at p
  · rename_i i j e1 e2
    obtain rfl := intOf_ok r1 e1
    obtain rfl := intOf_ok r2 e2
    split at p
    · rename_i hc
      exact ho pins s σ H _ _ v u Q I rx ry ⟨i, j, rfl, rfl, hC i j hc, p.here r (hg _ _ i j)⟩
    · exact p.elim
  · exact p.elim
def yes : Int → Int → Bool := fun _ _ => true
theorem rI_of {f : Value → Value → Sem Value} {g : Int → Int → V} (h : OpR X f (rI0 g)) : OpR X f (rI (fun _ _ => True) g) := fun pins s σ H x y v u Q I rx ry ⟨i, j, e1, e2, _, q⟩ => h pins s σ H x y v u Q I rx ry ⟨i, j, e1, e2, q⟩
abbrev subV : Va → Va → Sto → R Va := intV yes fun i j => .int (i - j)
theorem op_subV : OpR X (binaryOp .Sub) (opOf X.K ct W subV) := op_intV (rI_of op_sub) (fun _ _ _ => trivial) fun _ _ _ _ => .int _
def small64 (i : Int) : Bool := decide (-(2 ^ 64) < i ∧ i < 2 ^ 64)
def divOk (_ j : Int) : Bool := decide (j ≠ 0 ∧ j.natAbs < 1073741824)
abbrev fdivV : Va → Va → Sto → R Va := intV divOk fun i j => .int (i.fdiv j)
theorem op_fdivV : OpR X (binaryOp .FloorDiv) (opOf X.K ct W fdivV) := op_intV op_fdivN (fun i j h => of_decide_eq_true (p := j ≠ 0 ∧ j.natAbs < 1073741824) h) fun _ _ _ _ => .int _
abbrev modV : Va → Va → Sto → R Va := intV (fun _ j => decide (j ≠ 0)) fun i j => .int (i.fmod j)
theorem op_modV : OpR X (binaryOp .Mod) (opOf X.K ct W modV) := op_intV op_modN (fun _ _ h => of_decide_eq_true h) fun _ _ _ _ => .int _
def powOk (i j : Int) : Bool := decide (0 ≤ j ∧ j ≤ 1000000 ∧ i.natAbs < 2 ^ 64)
abbrev powV : Va → Va → Sto → R Va := intV powOk fun i j => .int (i ^ j.toNat)
theorem op_powV : OpR X (binaryOp .Pow) (opOf X.K ct W powV) := op_intV op_pow (fun i j h => of_decide_eq_true (p := 0 ≤ j ∧ j ≤ 1000000 ∧ i.natAbs < 2 ^ 64) h) fun _ _ _ _ => .int _
end
end G

set_option Elab.async false
set_option linter.all false
set_option maxRecDepth 100000
set_option maxHeartbeats 4000000
/-! != of lists, == of dicts and of lists of dicts, within one model -/
namespace PySem.SeqAt
open AutoSeq1 (wpAny_loadPart')
open MeetsSeq MeetsSeq2 MeetsSeq3 SeqRoads2
section
variable {prog : Program} {w : World}
theorem gq_ne_loop (l b : Addr) (items items2 : Array Value) (n n2 : Nat) (dd dd2 : Option Addr) (sl sl2 : Array (Option Value)) (hsz : items.size = items2.size) (e : Nat → Bool) (k : Nat) :
    ∀ i : Nat, items.size - i = k → MeetsIn prog w (Builtin.«list.__eq__.loop» ⟨[.ref l, .ref b, rawInt i, rawInt 3], []⟩)
      (fun A R s => s.heap.get? l = some { cls := .type "list", dict := dd, data := .seq items n, slots := sl } ∧ s.heap.get? b = some { cls := .type "list", dict := dd2, data := .seq items2 n2, slots := sl2 } ∧
        (∀ j (h1 : j < items.size) (h2 : j < items2.size), EqP prog w A.in1 s items[j] items2[j] (e j)) ∧
        R (.ok (.ret (.bool (!((List.range items.size).drop i).all e)))) s) := by
  induction k with
  | zero =>
    intro i hk A R s h
    obtain ⟨hp, g, d, tk, os⟩ := s; obtain ⟨hl, hb, he, h⟩ := h
    wp_walk using wpAny_loadPart' hl, wpAny_loadPart' hb
    have hi1 : items[((i : Nat) : Int).toNat]? = none := by simp; omega
    have hi2 : items2[((i : Nat) : Int).toNat]? = none := by simp; omega
    have hd : (List.range items.size).drop i = [] := by simp; omega
    rw [hd] at h
    rw [hi1, hi2]
    wp_walk using wpAny_loadPart' hl, wpAny_loadPart' hb
    show R (.ok (.ret (.bool (items.size != items2.size)))) _
    rw [hsz]
    simpa using h
  | succ k ih =>
    intro i hk A R s h
    obtain ⟨hp, g, d, tk, os⟩ := s; obtain ⟨hl, hb, he, h⟩ := h
    wp_walk using wpAny_loadPart' hl, wpAny_loadPart' hb
    have hlt : i < items.size := by omega
    have hlt2 : i < items2.size := by omega
    have hi1 : items[((i : Nat) : Int).toNat]? = some items[i] := by simp [hlt]
    have hi2 : items2[((i : Nat) : Int).toNat]? = some items2[i] := by simp [hlt2]
    have hd : (List.range items.size).drop i = i :: (List.range items.size).drop (i + 1) := by simp [List.drop_eq_getElem_cons, hlt]
    have hc : ((i : Int) + 1) = ((i + 1 : Nat) : Int) := by push_cast; rfl
    rw [hd, List.all_cons] at h
    rw [hi1, hi2]
    refine wpAny_bind (he i hlt hlt2 _ _ ?_)
    cases hb' : e i with
    | true =>
      rw [hb'] at h
      wp_walk
      rw [hc]
      exact ⟨plainId_quiet plain_eq_loop _, codeAny_builtin entry_eq_loop (by
        rw [Around.under_plainId plain_eq_loop _]
        exact ih (i + 1) (by omega) A R _ ⟨hl, hb, he, by simpa using h⟩)⟩
    | false =>
      rw [hb'] at h
      wp_walk using wpAny_loadPart' hl, wpAny_loadPart' hb
      rw [hi1, hi2]
      wp_walk
      simpa using h
theorem gq_list_ne (l b : Addr) (items items2 : Array Value) (n n2 : Nat) (dd dd2 : Option Addr) (sl sl2 : Array (Option Value)) (hsz : items.size = items2.size) (e : Nat → Bool) :
    MeetsIn prog w (Builtin.«list.__ne__» ⟨[.ref l, .ref b], []⟩)
      (fun A R s => s.heap.get? l = some { cls := .type "list", dict := dd, data := .seq items n, slots := sl } ∧ s.heap.get? b = some { cls := .type "list", dict := dd2, data := .seq items2 n2, slots := sl2 } ∧
        (∀ j (h1 : j < items.size) (h2 : j < items2.size), EqP prog w A.in1 s items[j] items2[j] (e j)) ∧
        R (.ok (.ret (.bool (!(List.range items.size).all e)))) s) := by
  intro A R s h
  obtain ⟨hp, g, d, tk, os⟩ := s; obtain ⟨hl, hb, he, h⟩ := h
  have f3 := AutoSeq1.sub_list_list
  have hne : ¬ (items.size != items2.size) = true := by simp [hsz]
  wp_walk using wpAny_loadPart' hl, wpAny_loadPart' hb
  exact ⟨plainId_quiet plain_eq_loop _, codeAny_builtin entry_eq_loop (by
    rw [Around.under_plainId plain_eq_loop _]
    exact gq_ne_loop l b items items2 n n2 dd dd2 sl sl2 hsz e _ 0 rfl A R _ ⟨hl, hb, he, by simpa using h⟩)⟩
theorem gq_lists_ne {A : Around} {s : Shared} {l b : Addr} {items items2 : Array Value} {e : Nat → Bool} (hl : s.heap.IsList l items) (hb : s.heap.IsList b items2) (hsz : items.size = items2.size) (hu : A.units < cLine)
    (he : ∀ j (h1 : j < items.size) (h2 : j < items2.size), EqP prog w A.in1 s items[j] items2[j] (e j)) (E Q : Value → Shared → Prop) (h : Q (.bool (!(List.range items.size).all e)) s) : wpAny (model prog w) A (richCompare .NotEq (.ref l) (.ref b)) Q E s := by
  obtain ⟨⟨cls, dd, data, sl⟩, ho, hc, n, hd⟩ := id hl
  obtain ⟨⟨cls2, dd2, data2, sl2⟩, ho2, hc2, n2, hd2⟩ := id hb
  simp only at hc hd hc2 hd2
  subst hc hd hc2 hd2
  have ta : s.TypeIs (.ref l) "list" := ⟨_, ho, rfl⟩
  have tb : s.TypeIs (.ref b) "list" := ⟨_, ho2, rfl⟩
  exact wpAny_richCompare_same_room (op := .NotEq) ta tb F.slot_list_ne (call_meetsIn F.slot_list_ne ta F.entry_list_ne (F.args_list_ne_2 _ _) (gq_list_ne l b items items2 n n2 dd dd2 sl sl2 hsz e)
    ⟨ho, ho2, he, show Value.bool (!(List.range items.size).all e) ≠ Value.notImplemented ∧ Q (.bool (!(List.range items.size).all e)) s from ⟨(fun x => nomatch x), h⟩⟩) hu
end
end PySem.SeqAt

set_option Elab.async false
set_option linter.all false
set_option maxRecDepth 100000
set_option maxHeartbeats 4000000
namespace G
open PySem PySem.Spec PyProof.Rows L2

/-! ### * -/
theorem foldl_app (l : Array Nat) : ∀ (k : Nat) (acc : Array Nat), ((List.replicate k l).foldl (· ++ ·) acc).toList = acc.toList ++ (List.replicate k l.toList).flatten
  | 0, acc => by simp
  | k + 1, acc => by
    rw [List.replicate_succ, List.foldl_cons, foldl_app l k]
    simp [List.replicate_succ]
theorem op_mulS {X : Cx} : OpR X (binaryOp .Mult) (fun x y H Q => ∃ z n, x = .str (mkS z) ∧ y = .int n ∧ -(2 ^ 63) ≤ n ∧ n < 2 ^ 63 ∧ z.length * n.toNat ≤ sizeLine ∧ Q (.str (mkS (List.replicate n.toNat z).flatten)) H) := by
  intro pins s σ H x y v u Q I rx ry h
  obtain ⟨z, n, rfl, rfl, h1, h2, h3, q⟩ := h
  obtain ⟨t, rfl⟩ := rx
  obtain ⟨t', rfl⟩ := ry
  have hs : sizeLine = 16777216 := sizeLine_eq
  refine PySem.P.mul_str ?_ (fun ha hb => ?_) (fun ha hb => ?_) ?_
  · have e1 : ¬ n < -(2 ^ 63 : Int) := by omega
    have e2 : ¬ n ≥ 2 ^ 63 := by omega
    rw [decide_eq_false e1, decide_eq_false e2]; rfl
  · rw [mkS_len]
    have hz : z.length * n.toNat ≤ 16777216 := by omega
    have hn : 1 ≤ n := by omega
    intro hc
    have hc' : (2 ^ 63 - 1) / n < (z.length : Int) := hc
    have : (2 ^ 63 - 1 : Int) < (z.length : Int) * n := by
      have := Int.lt_mul_of_ediv_lt (by omega : (0:Int) < n) hc'
      exact this
    have e : (z.length : Int) * n = ((z.length * n.toNat : Nat) : Int) := by
      rw [Int.natCast_mul, Int.toNat_of_nonneg (by omega)]
    rw [e] at this
    omega
  · rw [mkS_len]
    show decide (z.length * n.toNat > sizeLine) = false
    exact decide_eq_false (by omega)
  · have fin : (mkS (List.replicate n.toNat z).flatten).length ≤ sizeLine := by
      rw [mkS_len, PyProof.Rows.lm_len_rep_flat, Nat.mul_comm]; exact h3
    split
    · rename_i hn
      have e0 : n.toNat = 0 := by omega
      rw [e0] at q
      exact ⟨by decide, ⟨.str (mkS []), H, I.tok _, ⟨_, rfl⟩, q⟩⟩
    · rename_i hn
      split
      · rename_i hc
        have e : (List.replicate n.toNat z).flatten = z := by
          rcases Bool.or_eq_true _ _ ▸ hc with hc | hc
          · have e1 : n = 1 := by simpa using hc
            subst e1
            simp
          · have e0 : z = [] := by
              have : (mkS z).length = 0 := by simpa using hc
              rw [mkS_len] at this
              exact List.length_eq_zero_iff.mp this
            subst e0
            simp
        rw [e] at q
        exact ⟨.str (mkS z), H, I, ⟨t, rfl⟩, q⟩
      · have e : (⟨(List.replicate n.toNat (mkS z).cps).foldl (· ++ ·) #[]⟩ : Str) = mkS (List.replicate n.toNat z).flatten := by
          apply TL.ext_tl
          show (List.foldl (· ++ ·) #[] (List.replicate n.toNat (mkS z).cps)).toList = _
          rw [foldl_app]
          simp [TL.tl, mkS]
        rw [e]
        exact ⟨fin, ⟨.str _, H, I.tok _, ⟨_, rfl⟩, q⟩⟩

section
variable {X : Cx} {ct : Ct} {W : WX}
def i63 (n : Int) : Bool := decide (-(2 ^ 63) ≤ n ∧ n < 2 ^ 63)
def mulV (m : Bool) (x y : Va) (st : Sto) : R Va := match intOf x, intOf y with
  | some i, some j => if small64 i || small64 j then .ok (.int (i * j)) st else .stuck
  | _, none => .stuck
  | _, some n => match strOf x with
    | some z => if i63 n && decide (z.length * n.toNat ≤ sizeLine) then .ok (.str (List.replicate n.toNat z).flatten) st else .stuck
    | _ => match lstOf x st with
      | some l => if i63 n && decide (l.length * n.toNat ≤ sizeLine) then mkL m (List.replicate n.toNat l).flatten st else .stuck
      | _ => .stuck
theorem op_mulV (m : Bool) : OpR X (binaryOp .Mult) (opOf X.K ct W (mulV m)) := by
  intro pins s σ H x y v u Q I rx ry h
  obtain ⟨F, μ, st, w1, w2, σ', r, r1, r2, p⟩ := h
  unfold mulV at p
  split at p
  · rename_i i j e1 e2
    obtain rfl := intOf_ok r1 e1
    obtain rfl := intOf_ok r2 e2
    split at p
    · rename_i hc
      refine op_mul pins s σ H _ _ v u Q I rx ry ⟨i, j, rfl, rfl, ?_, p.here r (.int _)⟩
      rcases Bool.or_eq_true _ _ ▸ hc with hc | hc
      · exact .inl (of_decide_eq_true hc)
      · exact .inr (of_decide_eq_true hc)
    · exact p.elim
  · exact p.elim
  · rename_i n e1 e2
    obtain rfl := intOf_ok r2 e1
    split at p
    · rename_i z ez
      obtain rfl := strOf_ok r1 ez
      split at p
      · rename_i hc
        rw [Bool.and_eq_true] at hc
        obtain ⟨h1, h2⟩ := (of_decide_eq_true hc.1 : -(2 ^ 63) ≤ n ∧ n < 2 ^ 63)
        exact op_mulS pins s σ H _ _ v u Q I rx ry ⟨z, n, rfl, rfl, h1, h2, of_decide_eq_true hc.2, p.here r (.str _)⟩
      · exact p.elim
    split at p
    · rename_i l el
      obtain ⟨a, vs, rfl, h1, s1⟩ := lstOf_ok r r1 el
      split at p
      · rename_i hc
        rw [Bool.and_eq_true] at hc
        obtain ⟨h2, h3⟩ := (of_decide_eq_true hc.1 : -(2 ^ 63) ≤ n ∧ n < 2 ^ 63)
        obtain ⟨hz, q⟩ := mkL_ok r (s1.rep n.toNat) p
        exact op_rep pins s σ H _ _ v u Q I rx ry ⟨_, n, _, rfl, rfl, h1, h2, h3, by rw [← s1.length]; exact of_decide_eq_true hc.2, q⟩
      · exact p.elim
    · exact p.elim

/-! ### ==, !=, in -/
def mapO {α β : Type} (f : α → Option β) : List α → Option (List β)
  | [] => some []
  | x :: r => match f x, mapO f r with
    | some y, some ys => some (y :: ys)
    | _, _ => none
/-- a value as data -/
def pd : Nat → Sto → Va → Option PyData
  | _, _, .non => some .none
  | _, _, .bl b => some (.bool b)
  | _, _, .int i => some (.int i)
  | _, _, .str x => some (.str (mkS x))
  | n + 1, st, .tup l => (mapO (pd n st) l).map .tuple
  | n + 1, st, .scr l => (mapO (pd n st) l).map .list
  | n + 1, st, .lst l => (mapO (pd n st) l).map .list
  | n + 1, st, .ref p => match st[p]? with
    | some (some (.lst l)) => (mapO (pd n st) l).map .list
    | _ => none
  | _, _, _ => none
theorem map_some {α β : Type} {f : α → β} {o : Option α} {y : β} (h : o.map f = some y) : ∃ x, o = some x ∧ f x = y := by
  cases o with
  | none => cases h
  | some x => exact ⟨x, rfl, Option.some.inj h⟩
section
variable {K : PySem.W.Frag} {F : Hp} {μ : List Addr} {H : Hp} {st : Sto}
theorem pd_all {n : Nat} (r : Rel K ct F μ st H) (ih : ∀ {x : Va} {v : V} {d : PyData}, RV K F μ x v → pd n st x = some d → Dp K H v d ∧ d.plain = true ∧ d.depth ≤ n) :
    ∀ {l : List Va} {vs : List V} {ds : List PyData}, RVs K F μ l vs → mapO (pd n st) l = some ds → DpAll K H vs ds ∧ PyData.plainAll ds = true ∧ PyData.depthAll ds ≤ n
  | _, _, _, .nil, h => by cases h; exact ⟨.nil, rfl, Nat.zero_le _⟩
  | _, _, _, .cons r1 t, h => by
    unfold mapO at h
    split at h
    · rename_i y ys e1 e2
      cases h
      obtain ⟨a1, a2, a3⟩ := ih r1 e1
      obtain ⟨b1, b2, b3⟩ := pd_all r ih t e2
      exact ⟨.cons a1 b1, by simp [PyData.plainAll, a2, b2], Nat.max_le.mpr ⟨a3, b3⟩⟩
    · cases h
theorem pd_ok : ∀ (n : Nat) {x : Va} {v : V} {d : PyData}, Rel K ct F μ st H → RV K F μ x v → pd n st x = some d → Dp K H v d ∧ d.plain = true ∧ d.depth ≤ n
  | n, _, _, _, r, .non, h => by cases n <;> (cases h; exact ⟨.non, rfl, Nat.zero_le _⟩)
  | n, _, _, _, r, .bl b, h => by cases n <;> (cases h; exact ⟨.bl b, rfl, Nat.zero_le _⟩)
  | n, _, _, _, r, .int b, h => by cases n <;> (cases h; exact ⟨.int b, rfl, Nat.zero_le _⟩)
  | n, _, _, _, r, .str b, h => by cases n <;> (cases h; exact ⟨.str _, rfl, Nat.zero_le _⟩)
  | 0, _, _, _, r, .tup _ _, h => by cases h
  | 0, _, _, _, r, .lst _ _, h => by cases h
  | 0, _, _, _, r, .scr _ _, h => by cases h
  | 0, _, _, _, r, .ref _, h => by cases h
  | 0, _, _, _, r, .dic _ _ _, h => by cases h
  | n + 1, _, _, _, r, .dic _ _ _, h => by cases h
  | n + 1, _, _, _, r, .tup hs rs, h => by
    obtain ⟨ds, e, rfl⟩ := map_some h
    obtain ⟨a, b, c⟩ := pd_all r (pd_ok n r) rs e
    exact ⟨.tup (r.sub0.tupl hs) a, b, by simp only [PyData.depth]; omega⟩
  | n + 1, _, _, _, r, .lst hs rs, h => by
    obtain ⟨ds, e, rfl⟩ := map_some h
    obtain ⟨a, b, c⟩ := pd_all r (pd_ok n r) rs e
    exact ⟨.lst (.of (r.sub _ _ hs)) a, b, by simp only [PyData.depth]; omega⟩
  | n + 1, _, _, _, r, .scr hs rs, h => by
    obtain ⟨ds, e, rfl⟩ := map_some h
    obtain ⟨a, b, c⟩ := pd_all r (pd_ok n r) rs e
    exact ⟨.lst (r.sub0.seq hs) a, b, by simp only [PyData.depth]; omega⟩
  | n + 1, _, _, _, r, .ref hp, h => by
    unfold pd at h
    split at h
    · rename_i l e
      obtain ⟨ds, e', rfl⟩ := map_some h
      cases r.obj _ _ _ e hp with
      | lst h1 h2 =>
        obtain ⟨a, b, c⟩ := pd_all r (pd_ok n r) h2 e'
        exact ⟨.lst (.of h1) a, b, by simp only [PyData.depth]; omega⟩
    · cases h
end
/-- two ints compared -/
def cmpV (g : Int → Int → Bool) : Va → Va → Sto → R Va := intV yes fun i j => .bl (g i j)
theorem op_ltV : OpR X (compareOp .Lt) (opOf X.K ct W (cmpV fun i j => decide (i < j))) := op_intV (rI_of op_lt) (fun _ _ _ => trivial) fun _ _ _ _ => .bl _
theorem op_leV : OpR X (compareOp .LtE) (opOf X.K ct W (cmpV fun i j => decide (i ≤ j))) := op_intV (rI_of op_le) (fun _ _ _ => trivial) fun _ _ _ _ => .bl _
theorem op_gtV : OpR X (compareOp .Gt) (opOf X.K ct W (cmpV fun i j => decide (j < i))) := op_intV (rI_of op_gt) (fun _ _ _ => trivial) fun _ _ _ _ => .bl _
theorem op_geV : OpR X (compareOp .GtE) (opOf X.K ct W (cmpV fun i j => decide (j ≤ i))) := op_intV (rI_of op_ge) (fun _ _ _ => trivial) fun _ _ _ _ => .bl _

def kyOf : Va → Option Ky
  | .int i => some (.inl i)
  | .str x => some (.inr x)
  | _ => none
theorem kyOf_ok {K : PySem.W.Frag} {F : Hp} {μ : List Addr} {x : Va} {v : V} {k : Ky} (r : RV K F μ x v) (h : kyOf x = some k) : v = kV (kyK k) := by
  cases r <;> cases h <;> rfl
/-- the value at a key -/
def atKy : List Ky → List Va → Ky → Option Va
  | k :: ks, w :: ws, j => if k = j then some w else atKy ks ws j
  | _, _, _ => none
theorem atKy_ok {K : PySem.W.Frag} {F : Hp} {μ : List Addr} (j : Ky) : ∀ {ks : List Ky} {ws : List Va} {kvs : List (Key × V)}, kvs.map (·.1) = ks.map kyK → RVs K F μ ws (kvs.map (·.2)) →
    (∀ w, atKy ks ws j = some w → ∃ v, valV kvs (kyK j) = some v ∧ RV K F μ w v) ∧ (atKy ks ws j = none → valV kvs (kyK j) = none)
  | [], _, [], _, _ => ⟨fun _ h => (by simp [atKy] at h), fun _ => rfl⟩
  | [], _, p :: kvs, h, _ => by simp at h
  | k :: ks, _, [], h, _ => by simp at h
  | k :: ks, w :: ws, (a, b) :: kvs, h, r => by
    simp only [List.map_cons, List.cons.injEq] at h
    cases r with
    | cons r1 t =>
      have ih := atKy_ok j h.2 t
      unfold atKy
      by_cases e : k = j
      · rw [if_pos e, valV_pos (p := (a, b)) (show a = kyK j by rw [h.1, e])]
        exact ⟨fun w' hw => ⟨b, rfl, by cases hw; exact r1⟩, fun z => nomatch z⟩
      · rw [if_neg e, valV_neg (p := (a, b)) (fun z => e (kyK_inj (h.1.symm.trans z)))]
        exact ih
/-! dicts compared: their values are data; lists of such -/
def pdE (st : Sto) (x y : Va) : Option Bool := match pd 40 st x, pd 40 st y with
  | some d, some e => some (PyData.eqv d e)
  | _, _ => none
def dicAll (st : Sto) (js : List Ky) (rs : List Va) : List Ky → List Va → Option Bool
  | k :: ks, w :: ws => match atKy js rs k with
    | none => some false
    | some w' => match pdE st w w', dicAll st js rs ks ws with
      | some b, some c => some (b && c)
      | _, _ => none
  | _, _ => some true
def eqDic (st : Sto) (x y : Va) : Option Bool := match dicOf x st, dicOf y st with
  | some (ks, l), some (js, r) => if ks.length = js.length then dicAll st js r ks l else some false
  | _, _ => none
/-- things that cannot be one and the same -/
def apart : Va → Va → Bool
  | .ref p, .ref q => p != q
  | .ref _, .dic _ _ => true
  | .dic _ _, .ref _ => true
  | _, _ => false
def eq1 (st : Sto) (x y : Va) : Option Bool := match pdE st x y with
  | some b => some b
  | none => if apart x y then eqDic st x y else none
def eqZip (st : Sto) : List Va → List Va → Option (List Bool)
  | [], [] => some []
  | x :: l, y :: r => match eq1 st x y, eqZip st l r with
    | some b, some c => some (b :: c)
    | _, _ => none
  | _, _ => none
def eq2 (st : Sto) (x y : Va) : Option Bool := match eqDic st x y with
  | some b => some b
  | none => match lstOf x st, lstOf y st with
    | some l, some r => (eqZip st l r).map fun bs => bs.all id
    | _, _ => none
section
variable {X : Cx} {ct : Ct} {W : WX} {pins : List (Addr × Obj)} {σ : L2.St} {F : Hp} {μ : List Addr} {H : Hp} {st : Sto} {s : Shared} {A : Around}
theorem pdE_ok {x y : Va} {v u : V} {a b : Value} {r : Bool} (I : L2.Inv X pins σ H s) (rel : Rel X.K ct F μ st H) (r1 : RV X.K F μ x v) (r2 : RV X.K F μ y u) (ra : RelV v a) (rb : RelV u b) (hu : A.units + 41 < cLine) (h : pdE st x y = some r) : SeqAt.EqAt A s a b r := by
  unfold pdE at h
  split at h
  · rename_i d e e1 e2
    cases h
    obtain ⟨a1, a2, a3⟩ := pd_ok 40 rel r1 e1
    obtain ⟨b1, b2, b3⟩ := pd_ok 40 rel r2 e2
    obtain ⟨as, q1⟩ := Dp.reads I d _ a a1 ra
    obtain ⟨bs, q2⟩ := Dp.reads I e _ b b1 rb
    exact SeqAt.eqAt_plain d e A s a b as bs q1 q2 a2 b2 (by have := Nat.min_le_left d.depth e.depth; omega)
  · cases h
theorem dicAll_ok {js : List Ky} {rs : List Va} {kvs2 : List (Key × V)} {vs2 : List (Key × Value)} (I : L2.Inv X pins σ H s) (rel : Rel X.K ct F μ st H) (k2 : kvs2.map (·.1) = js.map kyK) (rr : RVs X.K F μ rs (kvs2.map (·.2))) (q2 : KV kvs2 vs2) (hu : A.units + 41 < cLine) :
    ∀ {ks : List Ky} {ws : List Va} {kvs : List (Key × V)} {vs : List (Key × Value)} {r : Bool}, kvs.map (·.1) = ks.map kyK → RVs X.K F μ ws (kvs.map (·.2)) → KV kvs vs → dicAll st js rs ks ws = some r → PySem.W.KeqHits A s vs2 vs r
  | [], ws, kvs, vs, r, h1, h2, h3, h => by
    have : kvs = [] := by simpa using h1
    subst this
    cases h3
    cases h2
    cases h
    exact .nil
  | k :: ks, ws, [], vs, r, h1, _, _, _ => by simp at h1
  | k :: ks, [], p :: kvs, vs, r, h1, h2, _, _ => by cases h2
  | k :: ks, w :: ws, (kk, v) :: kvs, vs, r, h1, h2, h3, h => by
    simp only [List.map_cons, List.cons.injEq] at h1
    obtain ⟨rfl, h1⟩ := h1
    cases h2 with
    | cons rw rt =>
    cases h3 with
    | @cons _ pv _ vs' rp rq =>
      obtain ⟨k', a⟩ := pv
      obtain ⟨e1, e2⟩ := rp
      simp only at e1 e2
      subst e1
      unfold dicAll at h
      cases ea : atKy js rs k with
      | none =>
        rw [ea] at h
        cases h
        refine .miss ?_
        have := (atKy_ok k k2 rr).2 ea
        have q := q2.val (kyK k)
        rw [this] at q
        cases hv : valueAt vs2 (kyK k) with
        | none => rfl
        | some y => rw [hv] at q; exact q.elim
      | some w' =>
        rw [ea] at h
        simp only at h
        obtain ⟨v', hv', rv'⟩ := (atKy_ok k k2 rr).1 w' ea
        have q := q2.val (kyK k)
        rw [hv'] at q
        cases hv : valueAt vs2 (kyK k) with
        | none => rw [hv] at q; exact q.elim
        | some y =>
          rw [hv] at q
          split at h
          · rename_i b c eb ec
            cases h
            exact .hit hv (pdE_ok I rel rw rv' e2 q hu eb) (dicAll_ok I rel k2 rr q2 hu h1 rt rq ec)
          · cases h
/-- two dicts, as they lie -/
theorem eqDic_ok {x y : Va} {v u : V} {r : Bool} (I : L2.Inv X pins σ H s) (rel : Rel X.K ct F μ st H) (r1 : RV X.K F μ x v) (r2 : RV X.K F μ y u) (hu : A.units + 41 < cLine) (h : eqDic st x y = some r) :
    ∃ a b va vb r', v = .ref a ∧ u = .ref b ∧ (a == sysModules) = false ∧ (b == sysModules) = false ∧ s.heap.DictOf (mixKind X.prog X.w) a va ∧ s.heap.DictOf (mixKind X.prog X.w) b vb ∧ (va.length = vb.length → PySem.W.KeqHits A s vb va r') ∧ (va.length == vb.length && r') = r := by
  unfold eqDic at h
  split at h
  · rename_i ks l js rs e1 e2
    obtain ⟨a, kvs, rfl, g1, g2, g3⟩ := dicOf_ok rel r1 e1
    obtain ⟨b, kvs2, rfl, f1, f2, f3⟩ := dicOf_ok rel r2 e2
    obtain ⟨_, ya, va, ra, da⟩ := dk_rd I.hok g1
    obtain ⟨_, yb, vb, rb, db⟩ := dk_rd I.hok f1
    have la : va.length = ks.length := by
      rw [← ra.length]
      have := congrArg List.length g2
      simpa using this
    have lb : vb.length = js.length := by
      rw [← rb.length]
      have := congrArg List.length f2
      simpa using this
    split at h
    · rename_i hl
      exact ⟨a, b, va, vb, r, rfl, rfl, ya, yb, da, db, fun _ => dicAll_ok I rel f2 f3 rb hu g2 g3 ra h, by rw [la, lb, hl]; simp⟩
    · rename_i hl
      cases h
      refine ⟨a, b, va, vb, true, rfl, rfl, ya, yb, da, db, fun z => absurd (by rw [← la, ← lb]; exact z) hl, ?_⟩
      rw [la, lb]
      simpa using hl
  · cases h
theorem hitsP {prog : Program} {w : World} {vb : List (Key × Value)} : ∀ {va : List (Key × Value)} {r : Bool}, PySem.W.KeqHits A s vb va r → PySem.W.KeqHitsP prog w A s vb va r
  | _, _, .nil => .nil
  | _, _, .miss h => .miss h
  | _, _, .hit h e r => .hit h e.eqP (hitsP r)
theorem apart_ne {x y : Va} {a b : Addr} (rel : Rel X.K ct F μ st H) (r1 : RV X.K F μ x (.ref a)) (r2 : RV X.K F μ y (.ref b)) (hx : (dicOf x st).isSome = true) (hy : (dicOf y st).isSome = true) (h : apart x y = true) : a ≠ b := by
  have live : ∀ {p : Nat}, (dicOf (.ref p) st).isSome = true → ∃ o, st[p]? = some (some o) := fun {p} h => by
    unfold dicOf at h
    simp only at h
    split at h
    · rename_i k l e
      exact ⟨_, e⟩
    · cases h
  intro z
  subst z
  cases r1 with
  | @ref p _ hp =>
    cases r2 with
    | @ref q _ hq =>
      obtain ⟨o, ho⟩ := live hx
      obtain ⟨o', ho'⟩ := live hy
      have := rel.inj _ _ _ _ _ ho ho' hp hq
      subst this
      simp [apart] at h
    | dic hf _ _ =>
      obtain ⟨o, ho⟩ := live hx
      have := rel.dis _ _ _ ho hp
      rcases hf with hf | ⟨_, hf⟩ <;> (rw [this] at hf; cases hf)
    | _ => simp [apart] at h
  | dic hf _ _ =>
    cases r2 with
    | @ref q _ hq =>
      obtain ⟨o, ho⟩ := live hy
      have := rel.dis _ _ _ ho hq
      rcases hf with hf | ⟨_, hf⟩ <;> (rw [this] at hf; cases hf)
    | _ => simp [apart] at h
  | _ => simp [apart] at h
theorem eq1_ok {x y : Va} {v u : V} {a b : Value} {r : Bool} (I : L2.Inv X pins σ H s) (rel : Rel X.K ct F μ st H) (r1 : RV X.K F μ x v) (r2 : RV X.K F μ y u) (ra : RelV v a) (rb : RelV u b) (hu : A.units + 42 < cLine) (h : eq1 st x y = some r) : SeqAt.EqP X.prog X.w A s a b r := by
  unfold eq1 at h
  split at h
  · rename_i b' e
    cases h
    exact (pdE_ok I rel r1 r2 ra rb (by omega) e).eqP
  · split at h
    · rename_i hap
      have hd : (dicOf x st).isSome = true ∧ (dicOf y st).isSome = true := by
        unfold eqDic at h
        split at h
        · rename_i e1 e2
          exact ⟨by rw [e1]; rfl, by rw [e2]; rfl⟩
        · cases h
      obtain ⟨p, q, va, vb, r', rfl, rfl, ya, yb, da, db, hh, er⟩ := eqDic_ok (A := A.in1) I rel r1 r2 (by show A.units + 1 + 41 < cLine; omega) h
      have hne := apart_ne rel r1 r2 hd.1 hd.2 hap
      obtain rfl : a = Value.ref p := ra
      obtain rfl : b = Value.ref q := rb
      refine SeqAt.eqP_refs hne fun E Q hq => PySem.W.rcP_dicts ya yb da db (by omega) (fun z => hitsP (hh z)) E Q ?_
      rw [er]
      exact hq
    · cases h
theorem eqZip_ok (I : L2.Inv X pins σ H s) (rel : Rel X.K ct F μ st H) (hu : A.units + 42 < cLine) : ∀ {l r : List Va} {vs us : List V} {as bs : List Value} {bl : List Bool}, RVs X.K F μ l vs → RVs X.K F μ r us → Vals vs as → Vals us bs → eqZip st l r = some bl →
    as.length = bs.length ∧ bl.length = as.length ∧ ∀ (j : Nat) (h1 : j < as.length) (h2 : j < bs.length), SeqAt.EqP X.prog X.w A s as[j] bs[j] (bl.getD j true)
  | [], [], _, _, _, _, bl, .nil, .nil, h3, h4, h => by
    cases h3
    cases h4
    cases h
    exact ⟨rfl, rfl, fun j h1 => absurd h1 (Nat.not_lt_zero _)⟩
  | x :: l, y :: r, _, _, _, _, bl, .cons r1 t1, .cons r2 t2, h3, h4, h => by
    cases h3 with
    | cons a1 s1 =>
    cases h4 with
    | cons b1 s2 =>
    unfold eqZip at h
    split at h
    · rename_i b c eb ec
      cases h
      obtain ⟨i1, i2, i3⟩ := eqZip_ok I rel hu t1 t2 s1 s2 ec
      refine ⟨by simp [i1], by simp [i2], fun j h1 h2 => ?_⟩
      cases j with
      | zero => exact eq1_ok I rel r1 r2 a1 b1 hu eb
      | succ j => exact i3 j (by simpa using h1) (by simpa using h2)
    · cases h
  | [], _ :: _, _, _, _, _, _, _, _, _, _, h => by simp [eqZip] at h
  | _ :: _, [], _, _, _, _, _, _, _, _, _, h => by simp [eqZip] at h
theorem all_getD {bl : List Bool} {n : Nat} (h : bl.length = n) : (List.range n).all (fun j => bl.getD j true) = bl.all id := by
  subst h
  rw [Bool.eq_iff_iff, List.all_eq_true, List.all_eq_true]
  constructor
  · intro h b hb
    obtain ⟨j, hj, e⟩ := List.getElem_of_mem hb
    have := h j (List.mem_range.mpr hj)
    rw [List.getD_eq_getElem?_getD, List.getElem?_eq_getElem hj, e] at this
    exact this
  · intro h j hj
    have hj := List.mem_range.mp hj
    rw [List.getD_eq_getElem?_getD, List.getElem?_eq_getElem hj]
    exact h _ (List.getElem_mem hj)
theorem eq2_ok {neg : Bool} {x y : Va} {v u : V} {a b : Value} {r : Bool} {Q : Value → Shared → Prop} {E : Value → Shared → Prop} (I : L2.Inv X pins σ H s) (rel : Rel X.K ct F μ st H) (r1 : RV X.K F μ x v) (r2 : RV X.K F μ y u) (ra : RelV v a) (rb : RelV u b) (hu : A.units + 64 < cLine) (h : eq2 st x y = some r) (q : Q (.bool (if neg then !r else r)) s) :
    wpAny (model X.prog X.w) A (compareOp (if neg then .NotEq else .Eq) a b) Q E s := by
  unfold eq2 at h
  split at h
  · rename_i r0 e
    cases h
    obtain ⟨p, q', va, vb, r', rfl, rfl, ya, yb, da, db, hh, er⟩ := eqDic_ok (A := A.in1) I rel r1 r2 (by show A.units + 1 + 41 < cLine; omega) e
    obtain rfl : a = Value.ref p := ra
    obtain rfl : b = Value.ref q' := rb
    cases neg with
    | false => exact PySem.W.keq_eq ya yb da db (by omega) hh (by rw [er]; exact q)
    | true => exact PySem.W.keq_ne ya yb da db (by omega) hh (by rw [er]; exact q)
  · split at h
    · rename_i l rr e1 e2
      obtain ⟨bl, ez, rfl⟩ := map_some h
      obtain ⟨p, vs, rfl, g1, g2⟩ := lstOf_ok rel r1 e1
      obtain ⟨q', us, rfl, f1, f2⟩ := lstOf_ok rel r2 e2
      obtain ⟨its, rv, pl, hz⟩ := I.list (.of g1)
      obtain ⟨its2, rv2, pl2, hz2⟩ := I.list (.of f1)
      obtain ⟨i1, i2, i3⟩ := eqZip_ok (A := A.in1) I rel (by show A.units + 1 + 42 < cLine; omega) g2 f2 rv rv2 ez
      obtain rfl : a = Value.ref p := ra
      obtain rfl : b = Value.ref q' := rb
      have hs : its.toArray.size = its2.toArray.size := by simpa using i1
      have he : ∀ (j : Nat) (h1 : j < its.toArray.size) (h2 : j < its2.toArray.size), SeqAt.EqP X.prog X.w A.in1 s its.toArray[j] its2.toArray[j] (bl.getD j true) := fun j h1 h2 => by
        have := i3 j (by simpa using h1) (by simpa using h2)
        simpa using this
      have ha : (List.range its.toArray.size).all (fun j => bl.getD j true) = bl.all id := all_getD (by simpa using i2)
      cases neg with
      | false =>
        refine SeqAt.rcP_lists pl.isList pl2.isList hs (by omega) he E Q ?_
        rw [ha]
        exact q
      | true =>
        refine SeqAt.gq_lists_ne pl.isList pl2.isList hs (by omega) he E Q ?_
        rw [ha]
        exact q
    · cases h
end
def eqV (neg : Bool) (x y : Va) (st : Sto) : R Va := match pd 40 st x, pd 40 st y with
  | some d, some e => .ok (.bl (if neg then !PyData.eqv d e else PyData.eqv d e)) st
  | _, _ => match eq2 st x y with
    | some b => .ok (.bl (if neg then !b else b)) st
    | none => .stuck
theorem op_eqV' (hu : X.A.units + 64 < cLine) : OpR X (compareOp .Eq) (opOf X.K ct W (eqV false)) := by
  intro pins s σ H x y v u Q I rx ry h
  obtain ⟨F, μ, st, w1, w2, σ', r, r1, r2, p⟩ := h
  unfold eqV at p
  split at p
  · rename_i d e e1 e2
    obtain ⟨a1, a2, a3⟩ := pd_ok 40 r r1 e1
    obtain ⟨b1, b2, b3⟩ := pd_ok 40 r r2 e2
    obtain ⟨as, q1⟩ := Dp.reads I d _ v a1 rx
    obtain ⟨bs, q2⟩ := Dp.reads I e _ u b1 ry
    exact SeqAt.eq_plain q1 q2 a2 b2 (by have := Nat.min_le_left d.depth e.depth; omega) ⟨.bl _, H, I, rfl, p.here r (.bl _)⟩
  · split at p
    · rename_i b e
      exact eq2_ok (neg := false) I r r1 r2 rx ry hu e ⟨.bl _, H, I, rfl, p.here r (.bl _)⟩
    · exact p.elim
theorem op_neV' (hu : X.A.units + 64 < cLine) : OpR X (compareOp .NotEq) (opOf X.K ct W (eqV true)) := by
  intro pins s σ H x y v u Q I rx ry h
  obtain ⟨F, μ, st, w1, w2, σ', r, r1, r2, p⟩ := h
  unfold eqV at p
  split at p
  · rename_i d e e1 e2
    obtain ⟨a1, a2, a3⟩ := pd_ok 40 r r1 e1
    obtain ⟨b1, b2, b3⟩ := pd_ok 40 r r2 e2
    obtain ⟨as, q1⟩ := Dp.reads I d _ v a1 rx
    obtain ⟨bs, q2⟩ := Dp.reads I e _ u b1 ry
    exact SeqAt.ne_plain q1 q2 a2 b2 (by have := Nat.min_le_left d.depth e.depth; omega) ⟨.bl _, H, I, rfl, p.here r (.bl _)⟩
  · split at p
    · rename_i b e
      exact eq2_ok (neg := true) I r r1 r2 rx ry hu e ⟨.bl _, H, I, rfl, p.here r (.bl _)⟩
    · exact p.elim
def inV' (neg : Bool) (x y : Va) (st : Sto) : R Va :=
  let ans (b : Bool) : R Va := .ok (.bl (if neg then !b else b)) st
  match strOf y with
  | some z => match strOf x with
    | some [c] => ans (decide (c ∈ z))
    | _ => .stuck
  | none => match dicOf y st with
    | some (ks, ws) => match kyOf x with
      | some k => ans (atKy ks ws k).isSome
      | none => .stuck
    | none => match pd 40 st x, pd 40 st y with
      | some d, some (.list ds) => ans (ds.any fun z => PyData.eqv z d)
      | some d, some (.tuple ds) => ans (ds.any fun z => PyData.eqv z d)
      | _, _ => .stuck
theorem op_inV (hu : X.A.units + 64 < cLine) : OpR X (compareOp .In) (opOf X.K ct W (inV' false)) := by
  intro pins s σ H x y v u Q I rx ry h
  obtain ⟨F, μ, st, w1, w2, σ', r, r1, r2, p⟩ := h
  unfold inV' at p
  simp only [Bool.false_eq_true, if_false] at p
  split at p
  · rename_i z ez
    obtain rfl := strOf_ok r2 ez
    split at p
    · rename_i c ec
      obtain rfl := strOf_ok r1 ec
      refine op_in_sign pins s σ H _ _ v u Q I rx ry ⟨c, mkS z, rfl, rfl, ?_⟩
      rw [tl_mkS]
      exact p.here r (.bl _)
    · exact p.elim
  split at p
  · rename_i ks ws ed
    obtain ⟨a, kvs, rfl, h1, h2, h3⟩ := dicOf_ok r r2 ed
    split at p
    · rename_i k ek
      obtain rfl := kyOf_ok r1 ek
      obtain rfl : u = Value.ref a := ry
      refine d_in (by omega) I (dget_rd h1) rx fun s' I' => ⟨.bl _, H, I', rfl, ?_⟩
      have q := p.here r (.bl _)
      obtain ⟨g1, g2⟩ := atKy_ok k h2 h3
      cases e : atKy ks ws k with
      | none => rw [e] at q; rw [g2 e]; exact q
      | some w => obtain ⟨v', e', _⟩ := g1 w e; rw [e] at q; rw [e']; exact q
    · exact p.elim
  split at p
  · rename_i d ds e1 e2
    obtain ⟨a1, a2, a3⟩ := pd_ok 40 r r1 e1
    obtain ⟨b1, b2, b3⟩ := pd_ok 40 r r2 e2
    obtain ⟨as, q1⟩ := Dp.reads I d _ v a1 rx
    obtain ⟨bs, q2⟩ := Dp.reads I _ _ u b1 ry
    refine SeqAt.in_list_data q2 q1 b2 a2 ?_ ⟨.bl _, H, I, rfl, p.here r (.bl _)⟩
    have := Nat.min_le_right (PyData.depthAll ds) d.depth
    omega
  · rename_i d ds e1 e2
    obtain ⟨a1, a2, a3⟩ := pd_ok 40 r r1 e1
    obtain ⟨b1, b2, b3⟩ := pd_ok 40 r r2 e2
    obtain ⟨as, q1⟩ := Dp.reads I d _ v a1 rx
    obtain ⟨bs, q2⟩ := Dp.reads I _ _ u b1 ry
    refine SeqAt.in_tuple_data q2 q1 b2 a2 ?_ ⟨.bl _, H, I, rfl, p.here r (.bl _)⟩
    have := Nat.min_le_right (PyData.depthAll ds) d.depth
    omega
  · exact p.elim
theorem op_notInV (hu : X.A.units + 64 < cLine) : OpR X (compareOp .NotIn) (opOf X.K ct W (inV' true)) := by
  intro pins s σ H x y v u Q I rx ry h
  obtain ⟨F, μ, st, w1, w2, σ', r, r1, r2, p⟩ := h
  unfold inV' at p
  simp only [if_true] at p
  split at p
  · rename_i z ez
    obtain rfl := strOf_ok r2 ez
    split at p
    · rename_i c ec
      obtain rfl := strOf_ok r1 ec
      refine op_notIn_sign pins s σ H _ _ v u Q I rx ry ⟨c, mkS z, rfl, rfl, ?_⟩
      rw [tl_mkS]
      exact p.here r (.bl _)
    · exact p.elim
  split at p
  · rename_i ks ws ed
    obtain ⟨a, kvs, rfl, h1, h2, h3⟩ := dicOf_ok r r2 ed
    split at p
    · rename_i k ek
      obtain rfl := kyOf_ok r1 ek
      obtain rfl : u = Value.ref a := ry
      refine d_notIn (by omega) I (dget_rd h1) rx fun s' I' => ⟨.bl _, H, I', rfl, ?_⟩
      have q := p.here r (.bl _)
      obtain ⟨g1, g2⟩ := atKy_ok k h2 h3
      cases e : atKy ks ws k with
      | none => rw [e] at q; rw [g2 e]; exact q
      | some w => obtain ⟨v', e', _⟩ := g1 w e; rw [e] at q; rw [e']; exact q
    · exact p.elim
  split at p
  · rename_i d ds e1 e2
    obtain ⟨a1, a2, a3⟩ := pd_ok 40 r r1 e1
    obtain ⟨b1, b2, b3⟩ := pd_ok 40 r r2 e2
    obtain ⟨as, q1⟩ := Dp.reads I d _ v a1 rx
    obtain ⟨bs, q2⟩ := Dp.reads I _ _ u b1 ry
    refine SeqAt.notIn_list_data q2 q1 b2 a2 ?_ ⟨.bl _, H, I, rfl, p.here r (.bl _)⟩
    have := Nat.min_le_right (PyData.depthAll ds) d.depth
    omega
  · rename_i d ds e1 e2
    obtain ⟨a1, a2, a3⟩ := pd_ok 40 r r1 e1
    obtain ⟨b1, b2, b3⟩ := pd_ok 40 r r2 e2
    obtain ⟨as, q1⟩ := Dp.reads I d _ v a1 rx
    obtain ⟨bs, q2⟩ := Dp.reads I _ _ u b1 ry
    refine SeqAt.notIn_tuple_data q2 q1 b2 a2 ?_ ⟨.bl _, H, I, rfl, p.here r (.bl _)⟩
    have := Nat.min_le_right (PyData.depthAll ds) d.depth
    omega
  · exact p.elim
end
end G

set_option Elab.async false
set_option linter.all false
set_option maxRecDepth 100000
set_option maxHeartbeats 4000000
namespace G
open PySem PySem.Spec PyProof.Rows L2

/-! ### one sequence's item -/
theorem RVs.atI {K : PySem.W.Frag} {F : Hp} {μ : List Addr} {ws : List Va} {vs : List V} {i : Int} {w : Va} (r : RVs K F μ ws vs) (h : L2.atI ws i = some w) : ∃ v, L2.atI vs i = some v ∧ RV K F μ w v := by
  unfold L2.atI at h ⊢
  rw [← r.length]
  cases e : ixN ws.length i with
  | none => rw [e] at h; cases h
  | some j =>
    rw [e] at h
    exact r.get h
def ixV (x y : Va) (st : Sto) : R Va := match dicOf x st with
  | some (ks, ws) => match kyOf y with
    | some k => match atKy ks ws k with
      | some w => .ok w st
      | none => .stuck
    | none => .stuck
  | none => match intOf y with
    | none => .stuck
    | some i => match strOf x with
      | some z => match L2.atI z i with
        | some c => if z.length ≤ sizeLine then .ok (.str [c]) st else .stuck
        | none => .stuck
      | none => match seqOf x st with
        | some l => match L2.atI l i with
          | some w => .ok w st
          | none => .stuck
        | none => .stuck
section
variable {X : Cx} {ct : Ct} {W : WX}
theorem ix_V (hu : X.A.units + 64 < cLine) : IxR X (opOf X.K ct W ixV) := by
  intro value slice pins s σ H x y v u Q I rx ry h hs
  obtain ⟨F, μ, st, w1, w2, σ', r, r1, r2, p⟩ := h
  unfold ixV at p
  split at p
  · rename_i ks ws ed
    obtain ⟨a, kvs, rfl, h1, h2, h3⟩ := dicOf_ok r r1 ed
    split at p
    · rename_i k ek
      obtain rfl := kyOf_ok r2 ek
      split at p
      · rename_i w e
        obtain ⟨v', e', rv⟩ := (atKy_ok k h2 h3).1 w e
        obtain rfl : v = Value.ref a := rx
        have g : DGet H a (kV (kyK k)) (some v') := by rw [← e']; exact dget_rd h1
        exact tail_any (dict_typeIs I g) PySem.F.slot_dict_getitem.lookup (d_getItem (by omega) I g ry fun w' s' I' rw' => ⟨v', H, I', rw', p.here r rv⟩) hs
      · exact p.elim
    · exact p.elim
  split at p
  · exact p.elim
  rename_i i ei
  obtain rfl := intOf_ok r2 ei
  split at p
  · rename_i z ez
    obtain rfl := strOf_ok r1 ez
    split at p
    · rename_i c ec
      split at p
      · rename_i hz
        exact ix_str value slice pins s σ H _ _ v u Q I rx ry ⟨mkS z, i, c, rfl, rfl, by rw [mkS_len]; exact hz, by rw [tl_mkS]; exact ec, p.here r (.str [c])⟩ hs
      · exact p.elim
    · exact p.elim
  split at p
  · rename_i l el
    obtain ⟨a, vs, rfl, hq, rs⟩ := seqOf_ok r r1 el
    split at p
    · rename_i w ew
      obtain ⟨v', e', rv⟩ := rs.atI ew
      rcases hq with hq | hq
      · exact ix_list value slice pins s σ H _ _ v u Q I rx ry ⟨a, vs, i, v', rfl, rfl, hq, e', p.here r rv⟩ hs
      · exact ix_tup value slice pins s σ H _ _ v u Q I rx ry ⟨a, vs, i, v', rfl, rfl, hq, e', p.here r rv⟩ hs
    · exact p.elim
  · exact p.elim
theorem sim_ix {a b : Expr} {ma mb : Mx Va} {pos : Pos} (hu : X.A.units + 64 < cLine) (ha : PE X a (TE' X ct W ma)) (hb : PE X b (TE' X ct W mb)) (hs : PlainIx b) : PE X (.Subscript a b pos) (TE' X ct W (mBin ixV ma mb)) :=
  PE.mono (pe_ix (ix_V hu) ha hb hs) fun _ _ _ => tOp_of

/-! ### slices -/
abbrev RO' : Hp → List Addr → Option Int → Option Int → Prop := fun _ _ a b => a = b
theorem PO.mono {e : Option Expr} {t t' : TO} (h : PO X e t) (i : ∀ σ H Q, t' σ H Q → t σ H Q) : PO X e t' := ⟨fun pins s σ H Q I q => h.run pins s σ H Q I (i σ H Q q)⟩
def mNo : Mx (Option Int) := fun _ st => .ok none st
def mPart (m : Mx Va) : Mx (Option Int) := fun env st => (m env st).bind fun w st => match intOf w with
  | some i => .ok (some i) st
  | none => .stuck
theorem sim_none : PO X none (TOf X.K ct W RO' mNo) := PO.mono po_none fun σ H Q ⟨F, μ, env, st, r, re, p⟩ => p.here r rfl
theorem sim_some {e : Expr} {m : Mx Va} (h : PE X e (TE' X ct W m)) : PO X (some e) (TOf X.K ct W RO' (mPart m)) := by
  refine PO.mono (po_some h) fun σ H Q ⟨F, μ, env, st, r, re, p⟩ => ⟨F, μ, env, st, r, re, p.bind fun w1 st1 F1 μ1 H1 v1 _ x1 r1 rv1 p1 => ?_⟩
  split at p1
  · rename_i i e
    exact ⟨i, intOf_ok rv1 e, p1.here r1 rfl⟩
  · exact p1.elim
def cut {α : Type} (l : List α) (lo hi : Option Int) : List α := (l.drop (HT.sIx l.length 0 lo)).take (HT.sIx l.length l.length hi - HT.sIx l.length 0 lo)
theorem RVs.cut {K : PySem.W.Frag} {F : Hp} {μ : List Addr} {ws : List Va} {vs : List V} {lo hi : Option Int} (r : RVs K F μ ws vs) : RVs K F μ (G.cut ws lo hi) (cutV vs lo hi) := by
  unfold G.cut cutV
  rw [← r.length]
  exact (r.drop _).take _
theorem cut_whole {α : Type} {l : List α} {lo hi : Option Int} (h : HT.sIx l.length 0 lo = 0 ∧ HT.sIx l.length l.length hi = l.length) : cut l lo hi = l := by
  unfold cut
  rw [h.1, h.2]
  simp
def sliceV (m : Bool) (x : Va) (lo hi : Option Int) (st : Sto) : R Va := match strOf x with
  | some z => if z.length ≤ sizeLine then .ok (.str (cut z lo hi)) st else .stuck
  | none => match tupOf x with
    | some l => .ok (.tup (cut l lo hi)) st
    | none => match lstOf x st with
      | some l => if l.length ≤ sizeLine then mkL m (cut l lo hi) st else .stuck
      | none => .stuck
def slOf (K : PySem.W.Frag) (ct : Ct) (W : WX) (m : Bool) : V → Option Int → Option Int → Hp → VK → Prop := fun x lo hi H Q =>
  ∃ F μ st w1 σ, Rel K ct F μ st H ∧ RV K F μ w1 x ∧ GPost K ct W (RV K) σ F μ H Q (sliceV m w1 lo hi st)
theorem sl_V (m : Bool) : SlR X (slOf X.K ct W m) := by
  intro pins s σ H x v vl vu lo hi sl Q I rx hs pl pu h
  obtain ⟨F, μ, st, w1, σ', r, r1, p⟩ := h
  unfold sliceV at p
  split at p
  · rename_i z ez
    obtain rfl := strOf_ok r1 ez
    split at p
    · rename_i hz
      refine sl_str pins s σ H _ v vl vu lo hi sl Q I rx hs pl pu ⟨mkS z, rfl, by rw [mkS_len]; exact hz, ?_⟩
      have e : cutS (mkS z) lo hi = mkS (cut z lo hi) := by
        unfold cutS cut
        rw [mkS_len, tl_mkS]
        rfl
      rw [e]
      exact p.here r (.str _)
    · exact p.elim
  split at p
  · rename_i l el
    obtain ⟨a, vs, rfl, hq, rs⟩ := tupOf_ok r1 el
    refine sl_tupA pins s σ H _ v vl vu lo hi sl Q I rx hs pl pu ⟨a, vs, rfl, r.sub0.tupl hq, fun hw => ?_, fun _ p0 hp => ?_⟩
    · rw [← rs.length] at hw
      rw [cut_whole hw] at p
      exact p.here r (.tup hq rs)
    · exact p _ _ _ _ (.frz r hp _) (r.frz hp _) (.tup (.of upd_same) (rs.cut.mono (same_upd (r.nofrz hp)) List.prefix_rfl))
  split at p
  · rename_i l el
    obtain ⟨a, vs, rfl, hq, rs⟩ := lstOf_ok r r1 el
    split at p
    · obtain ⟨_, q⟩ := mkL_ok r rs.cut p
      exact sl_list pins s σ H _ v vl vu lo hi sl Q I rx hs pl pu ⟨a, vs, rfl, .of hq, q⟩
    · exact p.elim
  · exact p.elim
def mSlice (m : Bool) (ma : Mx Va) (ml mh : Mx (Option Int)) : Mx Va := fun env st => (ma env st).bind fun x st => (ml env st).bind fun lo st => (mh env st).bind fun hi st => sliceV m x lo hi st
theorem sim_slice {m : Bool} {e : Expr} {lo hi : Option Expr} {ma : Mx Va} {ml mh : Mx (Option Int)} {pos p2 : Pos} (he : PE X e (TE' X ct W ma)) (hl : PO X lo (TOf X.K ct W RO' ml)) (hh : PO X hi (TOf X.K ct W RO' mh)) :
    PE X (.Subscript e (.Slice lo hi none p2) pos) (TE' X ct W (mSlice m ma ml mh)) := by
  refine PE.mono (pe_slice (sl_V (ct := ct) (W := W) m) he hl hh) fun σ H Q ⟨F, μ, env, st, r, re, p⟩ => ?_
  refine ⟨F, μ, env, st, r, re, p.bind fun w1 st1 F1 μ1 H1 v1 _ x1 r1 rv1 p1 => ⟨F1, μ1, env, st1, r1, re.mono x1, p1.bind fun l st2 F2 μ2 H2 l' _ x2 r2 e2 p2 => ⟨F2, μ2, env, st2, r2, (re.mono x1).mono x2, p2.bind fun u st3 F3 μ3 H3 u' _ x3 r3 e3 p3 => ?_⟩⟩⟩
  subst e2 e3
  exact ⟨F3, μ3, st3, w1, σ, r3, x3.rv (x2.rv rv1), p3⟩

/-! ### truth -/
def truV (x : Va) (st : Sto) : Option Bool := match x with
  | .non => some false
  | .bl b => some b
  | .int i => some (i != 0)
  | .str z => if z.length ≤ sizeLine then some (!z.isEmpty) else none
  | _ => match dicOf x st with
    | some (ks, _) => some (!ks.isEmpty)
    | none => match seqOf x st with
      | some l => some (!l.isEmpty)
      | none => none
theorem isEmpty_len {α β : Type} {l : List α} {l' : List β} (h : l.length = l'.length) : (!l.isEmpty) = !l'.isEmpty := by
  cases l <;> cases l' <;> simp at h <;> rfl
/-- truth, of a locked dict too -/
def TruD (K : PySem.W.Frag) (x : V) (H : Hp) (k : Bool) : Prop := TruV K x H k ∨ ∃ p kvs, x = .ref p ∧ Rd H p (.dK kvs) ∧ k = !kvs.isEmpty
section
variable {X : Cx} {a b : Expr} {ta tb : TE} {rest : List Expr} {pos : Pos}
theorem trud_ok : TruR X (fun x H Q => ∃ k, TruD X.K x H k ∧ Q k H) := by
  rintro pins s σ H x v Q I rx ⟨k, h | ⟨p, kvs, rfl, rd, rfl⟩, q⟩
  · exact tru_ok pins s σ H x v Q I rx ⟨k, h, q⟩
  · obtain rfl : v = Value.ref p := rx
    exact d_truth I rd fun s' I' => ⟨H, I', q⟩
/-- the value, then its truth -/
theorem trud_then {pins : List (Addr × Obj)} {s : Shared} {σ : L2.St} {H : Hp} {x : V} {v : Value} {k : Bool} {R : Bool → Shared → Prop} (I : Inv X pins σ H s) (rx : RelV x v) (h : TruD X.K x H k) (hR : ∀ s', Inv X pins σ H s' → R k s') : wpAny (model X.prog X.w) X.A (truthy v) R X.xe s :=
  thn (trud_ok pins s σ H x v (fun c H2 => c = k ∧ H2 = H) I rx ⟨k, h, rfl, rfl⟩) fun c s2 ⟨H2, I2, e1, e2⟩ => by subst e1 e2; exact hR s2 I2
theorem pt_truD (ha : PE X a ta) (he : ∀ whole, isTrue a X.env whole = (do let v ← whole; standAt a.pos; holding [v] (truthy v))) : PT X a (fun σ H Q => ta σ H fun x H' => ∃ k, TruD X.K x H' k ∧ Q k H') where
  run pins s σ H Q I h := isTrue_plain (thn (ha.run pins s σ H _ I h) fun v s1 ⟨x, H1, I1, r1, k, e, q1⟩ => trud_then I1 r1 e fun s2 I2 => ⟨H1, I2, q1⟩) (he _)
theorem pe_orD (ha : PE X a ta) (hb : PE X (.BoolOp .Or (b :: rest) pos) tb) : PE X (.BoolOp .Or (a :: b :: rest) pos) (fun σ H Q => ta σ H fun x H1 => ∃ k, TruD X.K x H1 k ∧ if k = true then Q x H1 else tb σ H1 Q) where
  run pins s σ H Q I h := BoolOp_or (thn (ha.run pins s σ H _ I h) fun v s1 ⟨x, H1, I1, r1, k, e, q1⟩ => trud_then I1 r1 e fun s2 I2 => by
    cases k with
    | true => exact ⟨x, H1, I2, r1, q1⟩
    | false => exact hb.run pins s2 σ H1 Q I2 q1)
theorem pe_andD (ha : PE X a ta) (hb : PE X (.BoolOp .And (b :: rest) pos) tb) : PE X (.BoolOp .And (a :: b :: rest) pos) (fun σ H Q => ta σ H fun x H1 => ∃ k, TruD X.K x H1 k ∧ if k = true then tb σ H1 Q else Q x H1) where
  run pins s σ H Q I h := BoolOp_and (thn (ha.run pins s σ H _ I h) fun v s1 ⟨x, H1, I1, r1, k, e, q1⟩ => trud_then I1 r1 e fun s2 I2 => by
    cases k with
    | true => exact hb.run pins s2 σ H1 Q I2 q1
    | false => exact ⟨x, H1, I2, r1, q1⟩)
theorem pe_notD (ha : PE X a ta) : PE X (.UnaryOp .Not a pos) (fun σ H Q => ta σ H fun x H1 => ∃ k, TruD X.K x H1 k ∧ Q (.bl (!k)) H1) where
  run pins s σ H Q I h := UnaryOp_ (thn (ha.run pins s σ H _ I h) fun v s1 ⟨x, H1, I1, r1, k, e, q1⟩ => not_of (trud_then I1 r1 e fun s2 I2 => ⟨.bl (!k), H1, I2, rfl, q1⟩))
end
theorem truV_ok {K : PySem.W.Frag} {F : Hp} {μ : List Addr} {H : Hp} {st : Sto} {x : Va} {v : V} {b : Bool} (r : Rel K ct F μ st H) (rv : RV K F μ x v) (h : truV x st = some b) : TruD K v H b := by
  have gen : ∀ {x : Va} {v : V}, RV K F μ x v → (match dicOf x st with
    | some (ks, _) => some (!ks.isEmpty)
    | none => match seqOf x st with
      | some l => some (!l.isEmpty)
      | none => none) = some b → TruD K v H b := fun {x v} rv h => by
    split at h
    · rename_i ks ws ed
      cases h
      obtain ⟨a, kvs, rfl, h1, h2, h3⟩ := dicOf_ok r rv ed
      refine .inr ⟨_, kvs, rfl, h1, isEmpty_len ?_⟩
      have := congrArg List.length h2
      simpa using this.symm
    · split at h
      · rename_i l el
        cases h
        obtain ⟨a, vs, rfl, hq, rs⟩ := seqOf_ok r rv el
        rcases hq with hq | hq
        · exact .inl (.inl ⟨vs, hq, isEmpty_len rs.length⟩)
        · exact .inl (.inr (.inl ⟨vs, hq, isEmpty_len rs.length⟩))
      · cases h
  cases rv with
  | non => cases h; exact .inl rfl
  | bl b => cases h; exact .inl rfl
  | int i => cases h; exact .inl rfl
  | str z =>
    simp only [truV] at h
    split at h
    · rename_i hz
      cases h
      refine .inl ⟨by rw [mkS_len]; exact hz, ?_⟩
      rw [mkS_len]
      cases z with
      | nil => rfl
      | cons c z =>
        simp only [List.isEmpty_cons, Bool.not_false, List.length_cons]
        symm
        rw [bne_iff_ne]
        omega
    · cases h
  | tup h1 h2 => exact gen (.tup h1 h2) h
  | lst h1 h2 => exact gen (.lst h1 h2) h
  | scr h1 h2 => exact gen (.scr h1 h2) h
  | dic h1 h2 h3 => exact gen (.dic h1 h2 h3) h
  | ref h1 => exact gen (.ref h1) h

abbrev TT' (X : Cx) (ct : Ct) (W : WX) (m : Mx Bool) : TT := TOf X.K ct W RB m
def mTru (m : Mx Va) : Mx Bool := fun env st => (m env st).bind fun w st => match truV w st with
  | some b => .ok b st
  | none => .stuck
theorem sim_tru {a : Expr} {m : Mx Va} (ha : PE X a (TE' X ct W m)) (he : ∀ whole, isTrue a X.env whole = (do let v ← whole; standAt a.pos; holding [v] (truthy v))) : PT X a (TT' X ct W (mTru m)) := by
  refine PT.mono (pt_truD ha he) fun σ H Q ⟨F, μ, env, st, r, re, p⟩ => ⟨F, μ, env, st, r, re, p.bind fun w1 st1 F1 μ1 H1 v1 _ x1 r1 rv1 p1 => ?_⟩
  split at p1
  · rename_i b e
    exact ⟨b, truV_ok r1 rv1 e, p1.here r1 rfl⟩
  · exact p1.elim
def mTst (m : Mx Va) : Mx Bool := fun env st => (m env st).bind fun w st => match blOf w with
  | some b => .ok b st
  | none => .stuck
theorem tst_of {t : TE} {m : Mx Va} {σ : L2.St} {H : Hp} {Q : Bool → Hp → Prop} (i : ∀ Q, TE' X ct W m σ H Q → t σ H Q) (h : TT' X ct W (mTst m) σ H Q) : tTest t σ H Q := by
  obtain ⟨F, μ, env, st, r, re, p⟩ := h
  refine i _ ⟨F, μ, env, st, r, re, p.bind fun w1 st1 F1 μ1 H1 v1 _ x1 r1 rv1 p1 => ?_⟩
  split at p1
  · rename_i b e
    exact ⟨b, blOf_ok rv1 e, p1.here r1 rfl⟩
  · exact p1.elim
/-- a comparison, as a value, as a test -/
theorem sim_cmp {op : CmpOp} {g : Va → Va → Sto → R Va} {a b : Expr} {ma mb : Mx Va} {pos : Pos} (ho : OpR X (compareOp op) (opOf X.K ct W g)) (ha : PE X a (TE' X ct W ma)) (hb : PE X b (TE' X ct W mb)) (hm : behindInMarks op b = false) :
    PE X (.Compare a [op] [b] pos) (TE' X ct W (mBin g ma mb)) := PE.mono (pe_cmpR ho ha hb hm) fun _ _ _ => tOp_of
theorem simT_cmp {op : CmpOp} {g : Va → Va → Sto → R Va} {a b : Expr} {ma mb : Mx Va} {pos : Pos} (ho : OpR X (compareOp op) (opOf X.K ct W g)) (ha : PE X a (TE' X ct W ma)) (hb : PE X b (TE' X ct W mb)) (hm : behindInMarks op b = false) :
    PT X (.Compare a [op] [b] pos) (TT' X ct W (mTst (mBin g ma mb))) := PT.mono (pt_cmpR ho ha hb hm) fun _ _ _ h => tst_of (fun _ => tOp_of) h
def mChain (g g' : Va → Va → Sto → R Va) (ma mb mc : Mx Va) : Mx Va := fun env st => (ma env st).bind fun x st => (mb env st).bind fun y st => (g x y st).bind fun z st => match blOf z with
  | none => .stuck
  | some false => .ok (.bl false) st
  | some true => (mc env st).bind fun w st => g' y w st
theorem tChain_of {g g' : Va → Va → Sto → R Va} {ma mb mc : Mx Va} {σ : L2.St} {H : Hp} {Q : VK} (h : TE' X ct W (mChain g g' ma mb mc) σ H Q) : tChain (opOf X.K ct W g) (opOf X.K ct W g') (TE' X ct W ma) (TE' X ct W mb) (TE' X ct W mc) σ H Q := by
  obtain ⟨F, μ, env, st, r, re, p⟩ := h
  refine ⟨F, μ, env, st, r, re, p.bind fun w1 st1 F1 μ1 H1 v1 _ x1 r1 rv1 p1 => ⟨F1, μ1, env, st1, r1, re.mono x1, p1.bind fun w2 st2 F2 μ2 H2 v2 _ x2 r2 rv2 p2 => ?_⟩⟩
  refine ⟨F2, μ2, st2, w1, w2, σ, r2, x2.rv rv1, rv2, p2.bind fun z st3 F3 μ3 H3 zv _ x3 r3 rz p3 => ?_⟩
  split at p3
  · exact p3.elim
  · rename_i e
    refine ⟨false, blOf_ok rz e, ?_⟩
    rw [if_neg Bool.false_ne_true]
    exact p3.here r3 (.bl false)
  · rename_i e
    refine ⟨true, blOf_ok rz e, ?_⟩
    rw [if_pos rfl]
    refine ⟨F3, μ3, env, st3, r3, ((re.mono x1).mono x2).mono x3, p3.bind fun w st4 F4 μ4 H4 wv _ x4 r4 rw p4 => ?_⟩
    exact ⟨F4, μ4, st4, w2, w, σ, r4, x4.rv (x3.rv rv2), rw, p4⟩
theorem sim_chain {op op' : CmpOp} {g g' : Va → Va → Sto → R Va} {a b c : Expr} {ma mb mc : Mx Va} {pos : Pos} (ho : OpR X (compareOp op) (opOf X.K ct W g)) (ho' : OpR X (compareOp op') (opOf X.K ct W g')) (ha : PE X a (TE' X ct W ma)) (hb : PE X b (TE' X ct W mb)) (hc : PE X c (TE' X ct W mc))
    (hm : lastMarks [op, op'] [b, c] = false) : PE X (.Compare a [op, op'] [b, c] pos) (TE' X ct W (mChain g g' ma mb mc)) := PE.mono (pe_chain ho ho' ha hb hc hm) fun _ _ _ => tChain_of
theorem simT_chain {op op' : CmpOp} {g g' : Va → Va → Sto → R Va} {a b c : Expr} {ma mb mc : Mx Va} {pos : Pos} (ho : OpR X (compareOp op) (opOf X.K ct W g)) (ho' : OpR X (compareOp op') (opOf X.K ct W g')) (ha : PE X a (TE' X ct W ma)) (hb : PE X b (TE' X ct W mb)) (hc : PE X c (TE' X ct W mc))
    (hm : lastMarks [op, op'] [b, c] = false) : PT X (.Compare a [op, op'] [b, c] pos) (TT' X ct W (mTst (mChain g g' ma mb mc))) := PT.mono (pt_chain ho ho' ha hb hc hm) fun _ _ _ h => tst_of (fun _ => tChain_of) h

/-! ### is None -/
def isNon : Va → Bool
  | .non => true
  | _ => false
def isNV (neg : Bool) (x y : Va) (st : Sto) : R Va := match y with
  | .non => .ok (.bl (if neg then !isNon x else isNon x)) st
  | _ => .stuck
theorem rv_non {K : PySem.W.Frag} {F : Hp} {μ : List Addr} {x : Va} {v : V} (r : RV K F μ x v) : decide (v = V.non) = isNon x := by
  cases r <;> simp [isNon]
theorem op_isNV : OpR X (compareOp .Is) (opOf X.K ct W (isNV false)) := by
  intro pins s σ H x y v u Q I rx ry h
  obtain ⟨F, μ, st, w1, w2, σ', r, r1, r2, p⟩ := h
  cases r2 with
  | non =>
    refine op_isN pins s σ H x _ v u Q I rx ry ⟨rfl, ?_⟩
    rw [rv_non r1]
    exact p.here r (.bl _)
  | _ => exact p.elim
theorem op_notNV : OpR X (compareOp .IsNot) (opOf X.K ct W (isNV true)) := by
  intro pins s σ H x y v u Q I rx ry h
  obtain ⟨F, μ, st, w1, w2, σ', r, r1, r2, p⟩ := h
  cases r2 with
  | non =>
    refine op_notN pins s σ H x _ v u Q I rx ry ⟨rfl, ?_⟩
    rw [rv_non r1]
    exact p.here r (.bl _)
  | _ => exact p.elim
end
end G

set_option Elab.async false
set_option linter.all false
set_option maxRecDepth 100000
set_option maxHeartbeats 4000000
namespace G
open PySem PySem.Spec PyProof.Rows L2

section
variable {X : Cx} {ct : Ct} {W : WX}
/-! ### names, constants -/
def mVar (i : Nat) : Mx Va := fun env st => match env[i]? with
  | some (some w) => .ok w st
  | _ => .stuck
theorem sim_var {i : Nat} {x : Str} {pos : Pos} (hN : X.N[i]? = some x) (hv : Vis X.env.scope x) (hd : (x == ("__debug__" : Str)) = false) (hcd : (x == ("__classdict__" : Str)) = false) : PE X (.Name x pos) (TE' X ct W (mVar i)) := by
  refine PE.mono (pe_var hN hv hd hcd) fun σ H Q ⟨F, μ, env, st, r, re, p⟩ => ?_
  unfold mVar at p
  split at p
  · rename_i w e
    obtain ⟨v, e1, rv⟩ := re.get i w e
    exact ⟨v, e1, p.here r rv⟩
  · exact p.elim
def mC (w : Va) : Mx Va := fun _ st => .ok w st
theorem sim_C {e : Expr} {v : V} {w : Va} (h : PE X e (tC v)) (rv : ∀ F μ, RV X.K F μ w v) : PE X e (TE' X ct W (mC w)) :=
  PE.mono h fun σ H Q ⟨F, μ, env, st, r, re, p⟩ => p.here r (rv F μ)

/-! ### if, and, or, not -/
def mIf (mt : Mx Bool) (ma mb : Mx Va) : Mx Va := fun env st => (mt env st).bind fun b st => if b = true then ma env st else mb env st
theorem sim_if {c a b : Expr} {mt : Mx Bool} {ma mb : Mx Va} {pos : Pos} (hc : PT X c (TT' X ct W mt)) (ha : PE X a (TE' X ct W ma)) (hb : PE X b (TE' X ct W mb)) : PE X (.IfExp c a b pos) (TE' X ct W (mIf mt ma mb)) := by
  refine PE.mono (pe_ifExp hc ha hb) fun σ H Q ⟨F, μ, env, st, r, re, p⟩ => ⟨F, μ, env, st, r, re, p.bind fun k st1 F1 μ1 H1 k' _ x1 r1 rk p1 => ?_⟩
  subst rk
  cases k with
  | true => exact ⟨F1, μ1, env, st1, r1, re.mono x1, p1⟩
  | false => exact ⟨F1, μ1, env, st1, r1, re.mono x1, p1⟩
def mAnd (ma mb : Mx Va) : Mx Va := fun env st => (ma env st).bind fun x st => match truV x st with
  | some true => mb env st
  | some false => .ok x st
  | none => .stuck
def mOr (ma mb : Mx Va) : Mx Va := fun env st => (ma env st).bind fun x st => match truV x st with
  | some true => .ok x st
  | some false => mb env st
  | none => .stuck
def mNot (mt : Mx Va) : Mx Va := fun env st => (mt env st).bind fun x st => match truV x st with
  | some b => .ok (.bl (!b)) st
  | none => .stuck
theorem sim_and {a b : Expr} {rest : List Expr} {ma mb : Mx Va} {pos : Pos} (ha : PE X a (TE' X ct W ma)) (hb : PE X (.BoolOp .And (b :: rest) pos) (TE' X ct W mb)) : PE X (.BoolOp .And (a :: b :: rest) pos) (TE' X ct W (mAnd ma mb)) := by
  refine PE.mono (pe_andD ha hb) fun σ H Q ⟨F, μ, env, st, r, re, p⟩ => ⟨F, μ, env, st, r, re, p.bind fun w st1 F1 μ1 H1 v _ x1 r1 rv p1 => ?_⟩
  split at p1
  · rename_i e
    refine ⟨true, truV_ok r1 rv e, ?_⟩
    rw [if_pos rfl]
    exact ⟨F1, μ1, env, st1, r1, re.mono x1, p1⟩
  · rename_i e
    refine ⟨false, truV_ok r1 rv e, ?_⟩
    rw [if_neg Bool.false_ne_true]
    exact p1.here r1 rv
  · exact p1.elim
theorem sim_or {a b : Expr} {rest : List Expr} {ma mb : Mx Va} {pos : Pos} (ha : PE X a (TE' X ct W ma)) (hb : PE X (.BoolOp .Or (b :: rest) pos) (TE' X ct W mb)) : PE X (.BoolOp .Or (a :: b :: rest) pos) (TE' X ct W (mOr ma mb)) := by
  refine PE.mono (pe_orD ha hb) fun σ H Q ⟨F, μ, env, st, r, re, p⟩ => ⟨F, μ, env, st, r, re, p.bind fun w st1 F1 μ1 H1 v _ x1 r1 rv p1 => ?_⟩
  split at p1
  · rename_i e
    refine ⟨true, truV_ok r1 rv e, ?_⟩
    rw [if_pos rfl]
    exact p1.here r1 rv
  · rename_i e
    refine ⟨false, truV_ok r1 rv e, ?_⟩
    rw [if_neg Bool.false_ne_true]
    exact ⟨F1, μ1, env, st1, r1, re.mono x1, p1⟩
  · exact p1.elim
theorem sim_not {a : Expr} {ma : Mx Va} {pos : Pos} (ha : PE X a (TE' X ct W ma)) : PE X (.UnaryOp .Not a pos) (TE' X ct W (mNot ma)) := by
  refine PE.mono (pe_notD ha) fun σ H Q ⟨F, μ, env, st, r, re, p⟩ => ⟨F, μ, env, st, r, re, p.bind fun w st1 F1 μ1 H1 v _ x1 r1 rv p1 => ?_⟩
  split at p1
  · rename_i b e
    exact ⟨b, truV_ok r1 rv e, p1.here r1 (.bl _)⟩
  · exact p1.elim
def mNeg (ma : Mx Va) : Mx Va := fun env st => (ma env st).bind fun x st => match intOf x with
  | some i => .ok (.int (-i)) st
  | none => .stuck
theorem sim_neg {a : Expr} {ma : Mx Va} {pos : Pos} (ha : PE X a (TE' X ct W ma)) : PE X (.UnaryOp .USub a pos) (TE' X ct W (mNeg ma)) := by
  refine PE.mono (pe_un un_neg ha) fun σ H Q ⟨F, μ, env, st, r, re, p⟩ => ⟨F, μ, env, st, r, re, p.bind fun w st1 F1 μ1 H1 v _ x1 r1 rv p1 => ?_⟩
  split at p1
  · rename_i i e
    exact ⟨i, intOf_ok rv e, p1.here r1 (.int _)⟩
  · exact p1.elim
/-- tests -/
def mTAnd (ma mb : Mx Bool) : Mx Bool := fun env st => (ma env st).bind fun b st => if b = true then mb env st else .ok false st
def mTOr (ma mb : Mx Bool) : Mx Bool := fun env st => (ma env st).bind fun b st => if b = true then .ok true st else mb env st
def mTNot (ma : Mx Bool) : Mx Bool := fun env st => (ma env st).bind fun b st => .ok (!b) st
theorem PW.mono {X : Cx} {e : Expr} {t t' : TT} (h : PW X e t) (i : ∀ σ H Q, t' σ H Q → t σ H Q) : PW X e t' := ⟨fun wh pins s σ H Q I q => h.run wh pins s σ H Q I (i σ H Q q)⟩
theorem sim_tand {a b : Expr} {rest : List Expr} {ma mb : Mx Bool} {pos : Pos} (ha : PT X a (TT' X ct W ma)) (hb : PW X (.BoolOp .And (b :: rest) pos) (TT' X ct W mb)) : PW X (.BoolOp .And (a :: b :: rest) pos) (TT' X ct W (mTAnd ma mb)) := by
  refine PW.mono (pw_and ha hb) fun σ H Q ⟨F, μ, env, st, r, re, p⟩ => ⟨F, μ, env, st, r, re, p.bind fun k st1 F1 μ1 H1 k' _ x1 r1 rk p1 => ?_⟩
  subst rk
  cases k with
  | true => exact ⟨F1, μ1, env, st1, r1, re.mono x1, p1⟩
  | false => exact p1.here r1 rfl
theorem sim_tor {a b : Expr} {rest : List Expr} {ma mb : Mx Bool} {pos : Pos} (ha : PT X a (TT' X ct W ma)) (hb : PW X (.BoolOp .Or (b :: rest) pos) (TT' X ct W mb)) : PW X (.BoolOp .Or (a :: b :: rest) pos) (TT' X ct W (mTOr ma mb)) := by
  refine PW.mono (pw_or ha hb) fun σ H Q ⟨F, μ, env, st, r, re, p⟩ => ⟨F, μ, env, st, r, re, p.bind fun k st1 F1 μ1 H1 k' _ x1 r1 rk p1 => ?_⟩
  subst rk
  cases k with
  | true => exact p1.here r1 rfl
  | false => exact ⟨F1, μ1, env, st1, r1, re.mono x1, p1⟩
theorem sim_tnot {a : Expr} {ma : Mx Bool} {pos : Pos} (ha : PT X a (TT' X ct W ma)) : PT X (.UnaryOp .Not a pos) (TT' X ct W (mTNot ma)) := by
  refine PT.mono (pt_not ha) fun σ H Q ⟨F, μ, env, st, r, re, p⟩ => ⟨F, μ, env, st, r, re, p.bind fun k st1 F1 μ1 H1 k' _ x1 r1 rk p1 => ?_⟩
  subst rk
  exact p1.here r1 rfl

/-! ### argument lists, displays -/
abbrev TA' (X : Cx) (ct : Ct) (W : WX) (m : Mx (List Va)) : TA := TOf X.K ct W (RVs X.K) m
theorem PA.mono {X : Cx} {e : List Expr} {t t' : TA} (h : PA X e t) (i : ∀ σ H Q, t' σ H Q → t σ H Q) : PA X e t' := ⟨fun pos pins s σ H Q I q => h.run pos pins s σ H Q I (i σ H Q q)⟩
def mNil : Mx (List Va) := fun _ st => .ok [] st
def mCons (ma : Mx Va) (ml : Mx (List Va)) : Mx (List Va) := fun env st => (ma env st).bind fun x st => (ml env st).bind fun xs st => .ok (x :: xs) st
theorem sim_anil : PA X [] (TA' X ct W mNil) := PA.mono pa_nil fun σ H Q ⟨F, μ, env, st, r, re, p⟩ => p.here r .nil
theorem tCons_of {ma : Mx Va} {ml : Mx (List Va)} {σ : L2.St} {H : Hp} {Q : List V → Hp → Prop} (h : TA' X ct W (mCons ma ml) σ H Q) : tCons (TE' X ct W ma) (TA' X ct W ml) σ H Q := by
  obtain ⟨F, μ, env, st, r, re, p⟩ := h
  refine ⟨F, μ, env, st, r, re, p.bind fun w st1 F1 μ1 H1 v _ x1 r1 rv p1 => ⟨F1, μ1, env, st1, r1, re.mono x1, p1.bind fun ws st2 F2 μ2 H2 vs _ x2 r2 rvs p2 => ?_⟩⟩
  exact p2.here r2 (.cons (x2.rv rv) rvs)
theorem sim_acons {e : Expr} {es : List Expr} {ma : Mx Va} {ml : Mx (List Va)} (ha : PE X e (TE' X ct W ma)) (hr : PA X es (TA' X ct W ml)) (hs : starEach (e :: es) X.env = (false, eval e X.env) :: starEach es X.env) : PA X (e :: es) (TA' X ct W (mCons ma ml)) :=
  PA.mono (pa_cons ha hr hs) fun _ _ _ => tCons_of
def mTup (ml : Mx (List Va)) : Mx Va := fun env st => (ml env st).bind fun l st => mkT l st
def mLst (m : Bool) (ml : Mx (List Va)) : Mx Va := fun env st => (ml env st).bind fun l st => mkL m l st
theorem sim_tup {es : List Expr} {x1 : Nat} {ml : Mx (List Va)} {pos : Pos} (h : PA X es (TA' X ct W ml)) : PE X (.Tuple es x1 pos) (TE' X ct W (mTup ml)) :=
  PE.mono (pe_tup h) fun σ H Q ⟨F, μ, env, st, r, re, p⟩ => ⟨F, μ, env, st, r, re, p.bind fun ws st1 F1 μ1 H1 vs _ x1 r1 rvs p1 => mkT_ok r1 rvs p1⟩
theorem sim_lst {m : Bool} {es : List Expr} {ml : Mx (List Va)} {pos : Pos} (h : PA X es (TA' X ct W ml)) : PE X (.List es pos) (TE' X ct W (mLst m ml)) :=
  PE.mono (pe_lst h) fun σ H Q ⟨F, μ, env, st, r, re, p⟩ => ⟨F, μ, env, st, r, re, p.bind fun ws st1 F1 μ1 H1 vs _ x1 r1 rvs p1 => mkL_ok r1 rvs p1⟩

/-! ### calls of built-ins -/
def cOf (K : PySem.W.Frag) (ct : Ct) (W : WX) (g : List Va → Sto → R Va) : List V → Hp → VK → Prop := fun xs H Q =>
  ∃ F μ st ws σ, Rel K ct F μ st H ∧ RVs K F μ ws xs ∧ GPost K ct W (RV K) σ F μ H Q (g ws st)
def mFn (g : List Va → Sto → R Va) (ml : Mx (List Va)) : Mx Va := fun env st => (ml env st).bind fun l st => g l st
theorem tCB_of {g : List Va → Sto → R Va} {ml : Mx (List Va)} {σ : L2.St} {H : Hp} {Q : VK} (h : TE' X ct W (mFn g ml) σ H Q) : tCB (cOf X.K ct W g) (TA' X ct W ml) σ H Q := by
  obtain ⟨F, μ, env, st, r, re, p⟩ := h
  exact ⟨F, μ, env, st, r, re, p.bind fun ws st1 F1 μ1 H1 vs _ x1 r1 rvs p1 => ⟨F1, μ1, st1, ws, σ, r1, rvs, p1⟩⟩
def mOf (K : PySem.W.Frag) (ct : Ct) (W : WX) (g : Va → List Va → Sto → R Va) : V → List V → Hp → VK → Prop := fun x xs H Q =>
  ∃ F μ st w ws σ, Rel K ct F μ st H ∧ RV K F μ w x ∧ RVs K F μ ws xs ∧ GPost K ct W (RV K) σ F μ H Q (g w ws st)

/-- len -/
def lenV (l : List Va) (st : Sto) : R Va := match l with
  | [x] => match strOf x with
    | some z => if z.length ≤ sizeLine then .ok (.int z.length) st else .stuck
    | none => match seqOf x st with
      | some l => .ok (.int l.length) st
      | none => match dicOf x st with
        | some (ks, _) => .ok (.int ks.length) st
        | none => .stuck
  | _ => .stuck
theorem RVs.one {K : PySem.W.Frag} {F : Hp} {μ : List Addr} {x : Va} {vs : List V} (r : RVs K F μ [x] vs) : ∃ v, vs = [v] ∧ RV K F μ x v := by
  cases r with
  | cons r t => cases t; exact ⟨_, rfl, r⟩
theorem RVs.two {K : PySem.W.Frag} {F : Hp} {μ : List Addr} {x y : Va} {vs : List V} (r : RVs K F μ [x, y] vs) : ∃ v u, vs = [v, u] ∧ RV K F μ x v ∧ RV K F μ y u := by
  cases r with
  | cons r t =>
    obtain ⟨u, rfl, q⟩ := t.one
    exact ⟨_, u, rfl, r, q⟩
theorem call_lenV : CallR X (.builtin "len") (cOf X.K ct W lenV) := by
  intro pins s σ H xs us Q I rs h
  obtain ⟨F, μ, st, ws, σ', r, rv, p⟩ := h
  unfold lenV at p
  split at p
  · rename_i x
    obtain ⟨v, rfl, r1⟩ := rv.one
    split at p
    · rename_i z ez
      obtain rfl := strOf_ok r1 ez
      split at p
      · rename_i hz
        refine call_len_str pins s σ H _ us Q I rs ⟨mkS z, rfl, by rw [mkS_len]; exact hz, ?_⟩
        rw [mkS_len]
        exact p.here r (.int _)
      · exact p.elim
    split at p
    · rename_i l el
      obtain ⟨a, vs, rfl, hq, rs'⟩ := seqOf_ok r r1 el
      refine call_len_seq pins s σ H _ us Q I rs ⟨a, vs, rfl, hq, ?_⟩
      rw [← rs'.length]
      exact p.here r (.int _)
    split at p
    · rename_i ks ws ed
      obtain ⟨a, kvs, rfl, h1, h2, h3⟩ := dicOf_ok r r1 ed
      obtain ⟨u, rfl, ru⟩ := vals1 rs
      obtain rfl : u = Value.ref a := ru
      refine d_len I h1 fun t s' I' => ⟨.int kvs.length, H, I', ⟨t, rfl⟩, ?_⟩
      have e : kvs.length = ks.length := by simpa using congrArg List.length h2
      rw [e]
      exact p.here r (.int _)
    · exact p.elim
  · exact p.elim
/-- list(..), tuple(..) -/
def listV (m : Bool) (l : List Va) (st : Sto) : R Va := match l with
  | [x] => match seqOf x st with
    | some l => mkL m l st
    | none => .stuck
  | _ => .stuck
theorem call_listV (m : Bool) : CallR X (.type "list") (cOf X.K ct W (listV m)) := by
  intro pins s σ H xs us Q I rs h
  obtain ⟨F, μ, st, ws, σ', r, rv, p⟩ := h
  unfold listV at p
  split at p
  · rename_i x
    obtain ⟨v, rfl, r1⟩ := rv.one
    split at p
    · rename_i l el
      obtain ⟨a, vs, rfl, hq, rs'⟩ := seqOf_ok r r1 el
      exact call_list_of pins s σ H _ us Q I rs ⟨a, vs, rfl, hq, (mkL_ok r rs' p).2⟩
    · exact p.elim
  · exact p.elim
def tupleV (l : List Va) (st : Sto) : R Va := match l with
  | [x] => match tupOf x with
    | some l => .ok (.tup l) st
    | none => match lstOf x st with
      | some l => mkT l st
      | none => .stuck
  | _ => .stuck
theorem call_tupleV : CallR X (.type "tuple") (cOf X.K ct W tupleV) := by
  intro pins s σ H xs us Q I rs h
  obtain ⟨F, μ, st, ws, σ', r, rv, p⟩ := h
  unfold tupleV at p
  split at p
  · rename_i x
    obtain ⟨v, rfl, r1⟩ := rv.one
    split at p
    · rename_i l el
      obtain ⟨a, vs, rfl, hq, rs'⟩ := tupOf_ok r1 el
      exact call_tuple_of pins s σ H _ us Q I rs ⟨a, vs, rfl, .inr ⟨r.sub0.tupl hq, p.here r (.tup hq rs')⟩⟩
    split at p
    · rename_i l el
      obtain ⟨a, vs, rfl, hq, rs'⟩ := lstOf_ok r r1 el
      exact call_tuple_of pins s σ H _ us Q I rs ⟨a, vs, rfl, .inl ⟨.of hq, (mkT_ok r rs' p).2⟩⟩
    · exact p.elim
  · exact p.elim
/-- str(n) -/
def numI (i : Int) : Tx := tx (toString i)
theorem numI_ok (i : Int) : (toString i : Str) = mkS (numI i) := mkS_tx _
def strV (l : List Va) (st : Sto) : R Va := match l with
  | [x] => match intOf x with
    | some i => if decide (i.natAbs.log2 < 1920) = true then .ok (.str (numI i)) st else .stuck
    | none => .stuck
  | _ => .stuck
theorem call_strV : CallR X (.type "str") (cOf X.K ct W strV) := by
  intro pins s σ H xs us Q I rs h
  obtain ⟨F, μ, st, ws, σ', r, rv, p⟩ := h
  unfold strV at p
  split at p
  · rename_i x
    obtain ⟨v, rfl, r1⟩ := rv.one
    split at p
    · rename_i i ei
      obtain rfl := intOf_ok r1 ei
      split at p
      · rename_i hc
        refine call_str_int pins s σ H _ us Q I rs ⟨i, rfl, of_decide_eq_true hc, ?_⟩
        rw [numI_ok]
        exact p.here r (.str _)
      · exact p.elim
    · exact p.elim
  · exact p.elim
/-- int(..) -/
def toIntV (l : List Va) (st : Sto) : R Va := match l with
  | [x] => match intOf x with
    | some i => .ok (.int i) st
    | none => match blOf x with
      | some b => .ok (.int (if b then 1 else 0)) st
      | none => match strOf x with
        | some z => match PySem.intText? (mkS z) with
          | some n => if z.length ≤ 640 then .ok (.int n) st else .stuck
          | none => .stuck
        | none => .stuck
  | _ => .stuck
theorem call_toIntV : CallR X (.type "int") (cOf X.K ct W toIntV) := by
  intro pins s σ H xs us Q I rs h
  obtain ⟨F, μ, st, ws, σ', r, rv, p⟩ := h
  unfold toIntV at p
  split at p
  · rename_i x
    obtain ⟨v, rfl, r1⟩ := rv.one
    split at p
    · rename_i i ei
      obtain rfl := intOf_ok r1 ei
      exact call_int1 pins s σ H _ us Q I rs (.inl ⟨i, rfl, p.here r (.int _)⟩)
    split at p
    · rename_i b eb
      obtain rfl := blOf_ok r1 eb
      exact call_int1 pins s σ H _ us Q I rs (.inr ⟨b, rfl, p.here r (.int _)⟩)
    split at p
    · rename_i z ez
      obtain rfl := strOf_ok r1 ez
      split at p
      · rename_i n en
        split at p
        · rename_i hz
          exact call_int_str pins s σ H _ us Q I rs ⟨mkS z, n, rfl, en, by rw [mkS_len]; exact hz, p.here r (.int _)⟩
        · exact p.elim
      · exact p.elim
    · exact p.elim
  · exact p.elim
end
end G

set_option Elab.async false
set_option linter.all false
set_option maxRecDepth 100000
set_option maxHeartbeats 4000000
namespace G
open PySem PySem.Spec PyProof.Rows L2

section
variable {X : Cx} {ct : Ct} {W : WX}
/-! ### isinstance of a built-in type -/
def tyNm (x : Va) (st : Sto) : Option String := match x with
  | .non => some "NoneType"
  | .bl _ => some "bool"
  | .int _ => some "int"
  | .str _ => some "str"
  | .tup _ => some "tuple"
  | .lst _ => some "list"
  | .scr _ => some "list"
  | .dic _ _ => some "dict"
  | .ref p => match st[p]? with
    | some (some (.lst _)) => some "list"
    | some (some (.dic _ _)) => some "dict"
    | _ => none
theorem tyNm_ok {K : PySem.W.Frag} {F : Hp} {μ : List Addr} {H : Hp} {st : Sto} {x : Va} {v : V} {t : String} (r : Rel K ct F μ st H) (rv : RV K F μ x v) (h : tyNm x st = some t) : TyX K H v (.type t) := by
  cases rv with
  | non => cases h; exact .base .non
  | bl b => cases h; exact .base (.bl b)
  | int i => cases h; exact .base (.int i)
  | str i => cases h; exact .base (.str _)
  | tup hs rs =>
    cases h
    rcases hs with (hs | ⟨o, hs⟩) | ⟨o, its, n, h1, h2, _⟩
    · exact .base (.tup (r.sub _ _ hs))
    · exact .fTuple (r.sub _ _ hs)
    · exact .kTuple h1 h2
  | lst hs rs => cases h; exact .base (.lst (r.sub _ _ hs))
  | scr hs rs =>
    cases h
    rcases hs with (hs | ⟨o, hs⟩) | ⟨o, its, n, h1, h2, _⟩
    · exact .base (.lst (r.sub _ _ hs))
    · exact .base (.frz (r.sub _ _ hs))
    · exact .kList h1 h2
  | dic hs h1 h2 =>
    cases h
    rcases r.sub0.rd2 hs with q | ⟨ob, q⟩
    · exact .base (.dK q)
    · exact .fDict q
  | ref hp =>
    unfold tyNm at h
    simp only at h
    split at h
    · rename_i l e
      cases h
      cases r.obj _ _ _ e hp with
      | lst h1 h2 => exact .base (.lst h1)
    · rename_i ks l e
      cases h
      cases r.obj _ _ _ e hp with
      | dic h1 h2 h3 => exact .base (.dK h1)
    · cases h
def isiV (c : String) (l : List Va) (st : Sto) : R Va := match l with
  | [x] => match tyNm x st with
    | some t => match kitB t c with
      | some b => .ok (.bl b) st
      | none => .stuck
    | none => .stuck
  | _ => .stuck
def mIsi (c : String) (ma : Mx Va) : Mx Va := fun env st => (ma env st).bind fun x st => isiV c [x] st
theorem sim_isi {a : Expr} {ma : Mx Va} {c : String} {x y : Str} {p p' pos : Pos} (hg : Gl X x) (hm : X.mg x = none) (hv : bootBuiltins x = some (.builtin "isinstance")) (hn : x ≠ "__name__") (hdb : (x == ("__debug__" : Str)) = false)
    (hg' : Gl X y) (hm' : X.mg y = none) (hv' : bootBuiltins y = some (.type c)) (hn' : y ≠ "__name__") (hdb' : (y == ("__debug__" : Str)) = false)
    (ha : PE X a (TE' X ct W ma)) (hs : starEach (a :: [.Name y p']) X.env = (false, eval a X.env) :: starEach [.Name y p'] X.env) :
    PE X (.Call (.Name x p) [a, .Name y p'] [] pos) (TE' X ct W (mIsi c ma)) := by
  refine PE.mono (pe_callB call_isi hg hm hv (pa_cons ha (pa_cons (pe_bltn (v := .ty c) hg' hm' hv' rfl hn' hdb') pa_nil) hs) hn hdb hs) fun σ H Q ⟨F, μ, env, st, r, re, p⟩ => ⟨F, μ, env, st, r, re, p.bind fun w st1 F1 μ1 H1 v _ x1 r1 rv p1 => ?_⟩
  unfold isiV at p1
  simp only at p1
  split at p1
  · rename_i t et
    split at p1
    · rename_i b eb
      exact ⟨v, .ty c, .type t, .type c, b, rfl, .ty c, tyNm_ok r1 rv et, kit_ty eb, p1.here r1 (.bl b)⟩
    · exact p1.elim
  · exact p1.elim

/-! ### methods that change a list -/
def appendV (x : Va) (l : List Va) (st : Sto) : R Va := match x, l with
  | .ref p, [y] => match st[p]? with
    | some (some (.lst xs)) => if xs.length < sizeLine then .ok .non (st.set p (some (.lst (xs ++ [y])))) else .stuck
    | _ => .stuck
  | _, _ => .stuck
theorem mt_appendV : MtR X "list.append" (mOf X.K ct W appendV) := by
  intro pins s σ H x vs v us Q I rx rv h
  obtain ⟨F, μ, st, w, ws, σ', r, r1, r2, p⟩ := h
  unfold appendV at p
  split at p
  · rename_i q y
    obtain ⟨yv, rfl, ry⟩ := r2.one
    cases r1 with
    | @ref _ a hp =>
    split at p
    · rename_i xs e
      split at p
      · rename_i hz
        cases r.obj _ _ _ e hp with
        | @lst _ vs' h1 h2 =>
          refine mt_append pins s σ H _ _ v us Q I rx rv ⟨a, vs', yv, rfl, rfl, h1, by rw [← h2.length]; exact hz, ?_⟩
          exact p _ _ _ _ (.write r e hp _) (r.write e hp (.lst upd_same (h2.append (.cons ry .nil)))) .non
      · exact p.elim
    · exact p.elim
  · exact p.elim
theorem extend_tuple_any (l : Addr) (items : Array Value) (n : Nat) (b : Addr) (items2 : Array Value) (n2 : Nat) (dd : Option Addr) (sl : Array (Option Value)) (hs0 : ¬(!items.isEmpty && Builtin.List.listTooLong (items.size + items2.size)) = true) (hs1 : items.size ≤ sizeLine) (hs2 : items.size + items2.size ≤ sizeLine + 1) :
    Meets (Builtin.«list.extend» ⟨[.ref l, .ref b], []⟩) (fun _ R s => s.heap.get? l = some { cls := .type "list", dict := none, data := .seq items n, slots := #[] } ∧ s.heap.get? b = some { cls := .type "tuple", dict := dd, data := .seq items2 n2, slots := sl } ∧ R (.ok (.ret Value.none)) { s with heap := s.heap.update l (Obj.mapSeq fun x => x ++ items2), toks := s.toks }) :=
  .of_wp fun prog w A R s h => by
    obtain ⟨hp, g, d, tk, os⟩ := s; obtain ⟨hl, hb, h⟩ := h; have f1 := AutoSeq1.idx_int; have f2 := AutoSeq1.sub_tuple_tuple; have f3 := AutoSeq1.sub_list_list; have f4 := AutoSeq1.sub_tuple_list; have f5 := AutoSeq1.sub_list_tuple;
    have hz' : (items ++ items2).size ≤ sizeLine + 1 := by rw [Array.size_append]; exact hs2
    wp_walk using (wpAny_updateSeq hl rfl (hz := hs1) (_hz' := hz')), AutoSeq1.wpAny_loadPart' hl, AutoSeq1.wpAny_loadPart' hb; exact ⟨_, rfl, h⟩
theorem mt_extendT : MtR X "list.extend" (fun x vs H Q => ∃ l b xs zs, x = .ref l ∧ vs = [.ref b] ∧ H l = some (.lst xs) ∧ SqT X.K H b zs ∧ xs.length + zs.length ≤ sizeLine ∧ Q .non (upd H l (.lst (xs ++ zs)))) := by
  intro pins s σ H x vs v us Q I rx rv h
  obtain ⟨l, b, xs, zs, rfl, rfl, hH, hT, hz, q⟩ := h
  cases rx
  obtain ⟨u, rfl, ru⟩ := Vals.one rv
  cases ru
  obtain ⟨z, its, n, r, hl, e⟩ := I.lstM hH
  obtain ⟨its2, r2, ⟨⟨c2, dd, dt, sl⟩, e2, hc, n2, hd⟩, _⟩ := I.tuple hT
  simp only at hc hd
  subst hc hd
  have hl2 := r2.length
  have hsz : its.toArray.size + its2.toArray.size ≤ sizeLine := by rw [List.size_toArray, List.size_toArray]; omega
  have hlong : ¬ (!its.toArray.isEmpty && Builtin.List.listTooLong (its.toArray.size + its2.toArray.size)) = true := by
    rw [notLongL hsz, Bool.and_false]
    exact Bool.false_ne_true
  refine call_meets F.slot_list_extend ⟨_, e, rfl⟩ F.entry_list_extend (F.args_list_extend_2 _ _)
    (extend_tuple_any l its.toArray n b its2.toArray n2 dd sl hlong (by rw [List.size_toArray]; omega) (by omega)) ⟨e, e2, ?_⟩
  refine ⟨.non, _, I.lset (its' := its ++ its2) hH e (by simp) (r.append r2) ?_, rfl, q⟩
  rw [List.length_append]
  omega
def extendV (x : Va) (l : List Va) (st : Sto) : R Va := match x, l with
  | .ref p, [y] => match st[p]? with
    | some (some (.lst xs)) => match tupOf y with
      | some zs => if xs.length + zs.length ≤ sizeLine then .ok .non (st.set p (some (.lst (xs ++ zs)))) else .stuck
      | none => match lstOf y st with
        | some zs => if xs.length + zs.length ≤ sizeLine then .ok .non (st.set p (some (.lst (xs ++ zs)))) else .stuck
        | none => .stuck
    | _ => .stuck
  | _, _ => .stuck
theorem mt_extendV : MtR X "list.extend" (mOf X.K ct W extendV) := by
  intro pins s σ H x vs v us Q I rx rv h
  obtain ⟨F, μ, st, w, ws, σ', r, r1, r2, p⟩ := h
  unfold extendV at p
  split at p
  · rename_i q y
    obtain ⟨yv, rfl, ry⟩ := r2.one
    cases r1 with
    | @ref _ a hp =>
    split at p
    · rename_i xs e
      cases r.obj _ _ _ e hp with
      | @lst _ vs' h1 h2 =>
      split at p
      · rename_i zs ez
        obtain ⟨b, zv, rfl, hb, rz⟩ := tupOf_ok ry ez
        split at p
        · rename_i hz
          refine mt_extendT pins s σ H _ _ v us Q I rx rv ⟨a, b, vs', zv, rfl, rfl, h1, r.sub0.tupl hb, by rw [← h2.length, ← rz.length]; exact hz, ?_⟩
          exact p _ _ _ _ (.write r e hp _) (r.write e hp (.lst upd_same (h2.append rz))) .non
        · exact p.elim
      split at p
      · rename_i zs ez
        obtain ⟨b, zv, rfl, hb, rz⟩ := lstOf_ok r ry ez
        split at p
        · rename_i hz
          refine mt_extend pins s σ H _ _ v us Q I rx rv ⟨a, b, vs', zv, rfl, rfl, h1, hb, by rw [← h2.length, ← rz.length]; exact hz, ?_⟩
          exact p _ _ _ _ (.write r e hp _) (r.write e hp (.lst upd_same (h2.append rz))) .non
        · exact p.elim
      · exact p.elim
    · exact p.elim
  · exact p.elim
/-- pop() -/
def popV (x : Va) (l : List Va) (st : Sto) : R Va := match x, l with
  | .ref p, [] => match st[p]? with
    | some (some (.lst xs)) => match xs[xs.length - 1]? with
      | some y => .ok y (st.set p (some (.lst xs.dropLast)))
      | none => .stuck
    | _ => .stuck
  | .ref p, [.int i] => match st[p]? with
    | some (some (.lst xs)) => if i63 i then match seqIndex? i xs.length with
        | some k => match xs[k]? with
          | some y => .ok y (st.set p (some (.lst (xs.eraseIdx k))))
          | none => .stuck
        | none => .stuck
      else .stuck
    | _ => .stuck
  | _, _ => .stuck
theorem mt_popV : MtR X "list.pop" (mOf X.K ct W popV) := by
  intro pins s σ H x vs v us Q I rx rv h
  obtain ⟨F, μ, st, w, ws, σ', r, r1, r2, p⟩ := h
  unfold popV at p
  split at p
  · rename_i q
    cases r2
    cases r1 with
    | @ref _ a hp =>
    split at p
    · rename_i xs e
      cases r.obj _ _ _ e hp with
      | @lst _ vs' h1 h2 =>
      split at p
      · rename_i y ey
        obtain ⟨yv, e1, ry⟩ := h2.get ey
        refine mt_pop pins s σ H _ _ v us Q I rx rv ⟨a, vs', yv, rfl, rfl, h1, by rw [← h2.length]; exact e1, ?_⟩
        exact p _ _ _ _ (.write r e hp _) (r.write e hp (.lst upd_same h2.dropLast)) ry
      · exact p.elim
    · exact p.elim
  · rename_i q i
    obtain ⟨iv, rfl, ri⟩ := r2.one
    cases ri
    cases r1 with
    | @ref _ a hp =>
    split at p
    · rename_i xs e
      cases r.obj _ _ _ e hp with
      | @lst _ vs' h1 h2 =>
      split at p
      · rename_i hi
        obtain ⟨i1, i2⟩ := (of_decide_eq_true hi : -(2 ^ 63) ≤ i ∧ i < 2 ^ 63)
        split at p
        · rename_i k ek
          split at p
          · rename_i y ey
            obtain ⟨yv, e1, ry⟩ := h2.get ey
            refine mt_popAt pins s σ H _ _ v us Q I rx rv ⟨a, vs', i, k, yv, rfl, rfl, h1, i1, i2, by rw [← h2.length]; exact ek, e1, ?_⟩
            exact p _ _ _ _ (.write r e hp _) (r.write e hp (.lst upd_same (h2.eraseIdx k))) ry
          · exact p.elim
        · exact p.elim
      · exact p.elim
    · exact p.elim
  · exact p.elim
/-- insert(i, y), 0 ≤ i -/
def insertV (x : Va) (l : List Va) (st : Sto) : R Va := match x, l with
  | .ref p, [.int i, y] => match st[p]? with
    | some (some (.lst xs)) => if decide (xs.length < sizeLine ∧ 0 ≤ i ∧ i < 2 ^ 63) = true then .ok .non (st.set p (some (.lst (xs.take i.toNat ++ [y] ++ xs.drop i.toNat)))) else .stuck
    | _ => .stuck
  | _, _ => .stuck
theorem mt_insertV : MtR X "list.insert" (mOf X.K ct W insertV) := by
  intro pins s σ H x vs v us Q I rx rv h
  obtain ⟨F, μ, st, w, ws, σ', r, r1, r2, p⟩ := h
  unfold insertV at p
  split at p
  · rename_i q i y
    obtain ⟨iv, yv, rfl, ri, ry⟩ := r2.two
    cases ri
    cases r1 with
    | @ref _ a hp =>
    split at p
    · rename_i xs e
      cases r.obj _ _ _ e hp with
      | @lst _ vs' h1 h2 =>
      split at p
      · rename_i hc
        obtain ⟨c1, c2, c3⟩ := (of_decide_eq_true hc : xs.length < sizeLine ∧ 0 ≤ i ∧ i < 2 ^ 63)
        refine mt_insert pins s σ H _ _ v us Q I rx rv ⟨a, vs', i, yv, rfl, rfl, h1, by rw [← h2.length]; exact c1, c2, c3, ?_⟩
        exact p _ _ _ _ (.write r e hp _) (r.write e hp (.lst upd_same (((h2.take _).append (.cons ry .nil)).append (h2.drop _)))) .non
      · exact p.elim
    · exact p.elim
  · exact p.elim
/-! ### methods of texts -/
def strsOf : List Va → Option (List Tx) := mapO strOf
theorem strsOf_ok {K : PySem.W.Frag} {F : Hp} {μ : List Addr} : ∀ {l : List Va} {vs : List V} {zs : List Tx}, RVs K F μ l vs → strsOf l = some zs → vs = (zs.map mkS).map V.str
  | [], _, _, .nil, h => by cases h; rfl
  | x :: l, _, _, .cons r t, h => by
    unfold strsOf mapO at h
    split at h
    · rename_i y ys e1 e2
      cases h
      rw [strOf_ok r e1, strsOf_ok t e2]
      rfl
    · cases h
def joinV (x : Va) (l : List Va) (st : Sto) : R Va := match l with
  | [y] => match strOf x, seqOf y st with
    | some a, some ys => match strsOf ys with
      | some zs => if (zs.map (·.length)).sum + zs.length * a.length ≤ 16777216 then .ok (.str (TL.joinL a zs)) st else .stuck
      | none => .stuck
    | _, _ => .stuck
  | _ => .stuck
theorem join_mk (a : Tx) (zs : List Tx) : Txt.join (mkS a) (zs.map mkS) = mkS (TL.joinL a zs) := by
  apply TL.ext_tl
  rw [TL.join_eq, TL.tl_join]
  have e : (zs.map mkS).map TL.tl = zs := by
    rw [List.map_map]
    conv => rhs; rw [← List.map_id zs]
    exact List.map_congr_left fun x _ => tl_mkS x
  rw [e]
  show TL.joinL (mkS a).cps.toList zs = (mkS _).cps.toList
  rw [tl_mkS, tl_mkS]
theorem mt_joinV : MtR X "str.join" (mOf X.K ct W joinV) := by
  intro pins s σ H x vs v us Q I rx rv h
  obtain ⟨F, μ, st, w, ws, σ', r, r1, r2, p⟩ := h
  unfold joinV at p
  split at p
  · rename_i y
    obtain ⟨yv, rfl, ry⟩ := r2.one
    split at p
    · rename_i a ys ea ey
      obtain rfl := strOf_ok r1 ea
      obtain ⟨l, vs, rfl, hq, rs⟩ := seqOf_ok r ry ey
      split at p
      · rename_i zs ez
        obtain rfl := strsOf_ok rs ez
        split at p
        · rename_i hz
          refine mt_join pins s σ H _ _ v us Q I rx rv ⟨mkS a, l, zs.map mkS, rfl, rfl, hq, ?_, ?_⟩
          · have e : ((zs.map mkS).map (·.length)) = zs.map (·.length) := by
              rw [List.map_map]
              exact List.map_congr_left fun x _ => mkS_len x
            rw [e, List.length_map, mkS_len]
            exact hz
          · rw [join_mk]
            exact p.here r (.str _)
        · exact p.elim
      · exact p.elim
    · exact p.elim
  · exact p.elim
/-- of a text, by a text -/
def tt1 (g : Tx → Tx → Option Va) (x : Va) (l : List Va) (st : Sto) : R Va := match l with
  | [y] => match strOf x, strOf y with
    | some a, some b => match g a b with
      | some w => .ok w st
      | none => .stuck
    | _, _ => .stuck
  | _ => .stuck
theorem mt_tt1 {id : String} {r0 : V → List V → Hp → VK → Prop} (hm : MtR X id r0) {g : Tx → Tx → Option Va} (hr : ∀ (a b : Tx) (w : Va) (F : Hp) (μ : List Addr) (H : Hp) (Q : VK), g a b = some w → (∀ v, RV X.K F μ w v → Q v H) → r0 (.str (mkS a)) [.str (mkS b)] H Q) : MtR X id (mOf X.K ct W (tt1 g)) := by
  intro pins s σ H x vs v us Q I rx rv h
  obtain ⟨F, μ, st, w, ws, σ', r, r1, r2, p⟩ := h
  unfold tt1 at p
  split at p
  · rename_i y
    obtain ⟨yv, rfl, ry⟩ := r2.one
    split at p
    · rename_i a b ea eb
      obtain rfl := strOf_ok r1 ea
      obtain rfl := strOf_ok ry eb
      split at p
      · rename_i w' ew
        exact hm pins s σ H _ _ v us Q I rx rv (hr a b w' F μ H Q ew fun v q => p.here r q)
      · exact p.elim
    · exact p.elim
  · exact p.elim
abbrev findV := tt1 fun a b => some (.int (Txt.find (mkS a) (mkS b)))
theorem mt_findV : MtR X "str.find" (mOf X.K ct W findV) := mt_tt1 mt_find fun a b w F μ H Q e h => by
  cases e
  exact ⟨_, _, rfl, rfl, h _ (.int _)⟩
abbrev lstripV := tt1 fun a b => if a.length ≤ sizeLine then some (.str (Txt.lstripChars (mkS a) (mkS b)).cps.toList) else none
theorem mt_lstripV : MtR X "str.lstrip" (mOf X.K ct W lstripV) := mt_tt1 mt_lstripChars fun a b w F μ H Q e h => by
  split at e
  · rename_i hz
    cases e
    refine ⟨_, _, rfl, rfl, by rw [mkS_len]; exact hz, ?_⟩
    have := h _ (.str _)
    rw [mkS_tl] at this
    exact this
  · cases e
/-- of a text alone -/
def tt0 (g : Tx → Va) (x : Va) (l : List Va) (st : Sto) : R Va := match l with
  | [] => match strOf x with
    | some a => .ok (g a) st
    | none => .stuck
  | _ => .stuck
theorem mt_tt0 {id : String} {r0 : V → List V → Hp → VK → Prop} (hm : MtR X id r0) {g : Tx → Va} (hr : ∀ (a : Tx) (F : Hp) (μ : List Addr) (H : Hp) (Q : VK), (∀ v, RV X.K F μ (g a) v → Q v H) → r0 (.str (mkS a)) [] H Q) : MtR X id (mOf X.K ct W (tt0 g)) := by
  intro pins s σ H x vs v us Q I rx rv h
  obtain ⟨F, μ, st, w, ws, σ', r, r1, r2, p⟩ := h
  unfold tt0 at p
  split at p
  · cases r2
    split at p
    · rename_i a ea
      obtain rfl := strOf_ok r1 ea
      exact hm pins s σ H _ _ v us Q I rx rv (hr a F μ H Q fun v q => p.here r q)
    · exact p.elim
  · exact p.elim
abbrev isalnumV := tt0 fun a => .bl (Txt.isalnum (mkS a))
theorem mt_isalnumV : MtR X "str.isalnum" (mOf X.K ct W isalnumV) := mt_tt0 mt_isalnum fun a F μ H Q h => ⟨_, rfl, rfl, trivial, h _ (.bl _)⟩
abbrev isdigitV := tt0 fun a => .bl (Txt.isdigit (mkS a))
theorem mt_isdigitV : MtR X "str.isdigit" (mOf X.K ct W isdigitV) := mt_tt0 mt_isdigit fun a F μ H Q h => ⟨_, rfl, rfl, trivial, h _ (.bl _)⟩
end
end G

set_option Elab.async false
set_option linter.all false
set_option maxRecDepth 100000
set_option maxHeartbeats 4000000
/-! enumerate over a tuple, over a text -/
namespace G
open PySem PySem.Spec PyProof.Rows L2
/-- enumerate(v) over any source: an iterator, then the pair-maker -/
theorem meets_enum_any {v : Value} {o : Obj} {H : Heap → Prop} (B : Begins v o H) :
    Meets (Builtin.«enumerate.__new__» ⟨[.type "enumerate", v], []⟩) (fun _ R s => H s.heap ∧ R (.ok (.ret (.ref (s.heap.push o).objs.size))) { s with heap := (s.heap.push o).push { cls := .type "enumerate", data := .fields #[.none, .bool false, .ref s.heap.objs.size, rawInt 0, .none, .none] } }) := .of_wp fun P w A R s q => by
  obtain ⟨hp, gs, dr, tk, ost⟩ := s
  obtain ⟨hH, q⟩ := q
  have subE := sub_enumerate
  have go : ∀ {A' : Around} {E' : Value → Shared → Prop} {Q' : Value → Shared → Prop}, Q' (.ref hp.objs.size) ⟨hp.push o, gs, dr, tk, ost⟩ → wpAny (model P w) A' (pyIter v) Q' E' ⟨hp, gs, dr, tk, ost⟩ := fun z => B.iter P w _ _ ⟨hp, gs, dr, tk, ost⟩ _ hH z
  wp_walk
  refine wpAny_stack_any fun st => wpAny_pure ?_
  split
  · rename_i c _ _ _ _ _
    cases (c == Value.type "enumerate") <;> (wp_walk using go; exact ⟨_, rfl, q⟩)
  · wp_walk using go
    exact ⟨_, rfl, q⟩
theorem call_enum_any {prog : Program} {w : World} {A : Around} {E : Value → Shared → Prop} {s : Shared} {v : Value} {o : Obj} {H : Heap → Prop} {Q : Value → Shared → Prop} (B : Begins v o H) (hH : H s.heap)
    (k : ∀ h', IsEnum h' (s.heap.objs.size + 1) s.heap.objs.size 0 .none → h'.get? s.heap.objs.size = some o → (∀ b ob, s.heap.get? b = some ob → h'.get? b = some ob) → Q (.ref (s.heap.objs.size + 1)) { s with heap := h' }) : wpAny (model prog w) A (call (.type "enumerate") [v]) Q E s := by
  refine callType_new F.called_enumerate (by decide) (F.typeCall_enumerate_1 _) (F.newCall_enumerate_1 _) (fun ob => F.args_object_init_2 ob _) F.entry_enumerate_new (meets_enum_any B) ⟨hH, ?_⟩
  have z1 : (s.heap.push o).objs.size = s.heap.objs.size + 1 := by rw [Heap.size_push]
  show _ ∧ _
  rw [z1]
  have ge : ((s.heap.push o).push { cls := .type "enumerate", data := .fields #[.none, .bool false, .ref s.heap.objs.size, rawInt 0, .none, .none] }).get? (s.heap.push o).objs.size = some { cls := .type "enumerate", data := .fields #[.none, .bool false, .ref s.heap.objs.size, rawInt 0, .none, .none] } := Heap.get?_push_size _ rfl
  rw [z1] at ge
  exact ⟨⟨_, ge, rfl⟩, k _ ge (Heap.get?_push_of_some _ (Heap.get?_push_size _ B.free)) fun b ob e => Heap.get?_push_of_some _ (Heap.get?_push_of_some _ e)⟩
/-- pairs of number and item -/
def IteA (get : Hp → List V → Prop) : It :=
  ⟨fun i H => ∃ (xs : List V) (x : V), get H xs ∧ xs[i]? = some x, fun i H v H' => ∃ T x, v = .ref T ∧ H T = none ∧ H' = upd H T (.tup [.int (i : Nat), x]) ∧ ∀ xs, get H xs → xs[i]? = some x, fun i H => ∃ xs : List V, get H xs ∧ xs.length = i⟩
def signV (z : Str) : List V := z.cps.toList.map fun c => .str ⟨#[c]⟩
/-- what a source of items is, under an iterator at it -/
structure Src (P : Program) (w : World) (K : PySem.W.Frag) (it : Addr) (get : Hp → List V → Prop) (tnI : Nat → Heap → Prop) : Prop where
  ob : ∀ i h, tnI i h → ∃ o, h.get? it = some o ∧ o.cls ≠ .type "enumerate" ∧ ∀ v, o.data ≠ .cell v
  keep : ∀ i h h', tnI i h → (∀ o, h.get? it = some o → h'.get? it = some o) → tnI i h'
  draws : ∀ (X : Cx), X.prog = P → X.w = w → X.K = K → X.calm = true → ∀ (i : Nat) (pins : List (Addr × Obj)) (s : Shared) (σ : L2.St) (H : Hp), Inv X pins σ H s → tnI i s.heap → ∀ xs, get H xs →
    ∃ (fp : List Addr) (Pv : Nat → Value → Prop) (St : Nat → Heap → Prop), Draws P w X.A.in1 it fp xs.length Pv St ∧ St i s.heap ∧ (∀ b ∈ fp, ∀ o, s.heap.get? b = some o → o.cls ≠ .type "enumerate") ∧ (∀ v, Pv i v → ∃ x, xs[i]? = some x ∧ RelV x v) ∧ (∀ j h, St j h → tnI j h) ∧
      ∀ ys, get H ys → ys = xs
theorem turn_enumAny {P : Program} {w : World} {K : PySem.W.Frag} {elts : List Expr} {kk : Nat} {tpos : Pos} {get : Hp → List V → Prop} {tnI : Nat → Heap → Prop} {e it : Addr} (S : Src P w K it get tnI) :
    Turn P w K (.Tuple elts kk tpos) (IteA get) [e, it] e (fun i h => (∃ old, IsEnum h e it ((i : Nat) : Int) old) ∧ tnI i h ∧ e ≠ it) where
  mem := by simp
  obj := fun i h ⟨⟨old, he⟩, hi, hne⟩ b hb => by
    have eb : b = e ∨ b = it := by simpa using hb
    rcases eb with z | z
    · rw [z]; exact ⟨_, he, fun v q => nomatch q⟩
    · rw [z]; exact let ⟨o, h1, _, h2⟩ := S.ob i h hi; ⟨o, h1, h2⟩
  keep := fun i h h' ⟨⟨old, he⟩, hi, hne⟩ k => ⟨⟨old, k e (by simp) _ he⟩, S.keep i h h' hi fun o q => k it (by simp) o q, hne⟩
  item := by
    intro X hP hw hK hc i pins s σ H E I hf ⟨⟨old, he⟩, hi, hne⟩ ⟨xs, x, hq, hx⟩
    obtain ⟨fp, Pv, St, D, hst, hfp, hv, hback, huniq⟩ := S.draws X hP hw hK hc i pins s σ H I hi xs hq
    subst hP hw hK
    have hlt : i < xs.length := (List.getElem?_eq_some_iff.mp hx).1
    have hef : e ∉ fp := fun hm => hfp e hm _ he rfl
    have hel : e < s.heap.objs.size := Heap.lt_size he
    have hil : it < s.heap.objs.size := by obtain ⟨o, q, _⟩ := S.ob i _ hi; exact Heap.lt_size q
    refine wpAny_pyNext_enum_itemD D he hst hlt hne hef fun u h' tk hu ho hst' hT hsz hk => ?_
    obtain ⟨x', hx', ru⟩ := hv u hu
    obtain rfl : x' = x := Option.some.inj (hx'.symm.trans hx)
    refine ⟨_, rfl, wpAny_letOwnedTupleGo_enum (s := { s with heap := h', toks := tk + 1 }) ho fun h'' he' sb => ?_⟩
    have hT2 : h''.get? s.heap.objs.size = some { cls := .type "tuple", data := .seq #[.int i tk, u] } := (sb.2 _ (Nat.ne_of_gt hel)).trans hT
    have fresh : ObjOk X.prog X.w (upd H s.heap.objs.size (.tup [.int (i : Nat), x'])) h'' s.heap.objs.size (.tup [.int (i : Nat), x']) := ⟨by show 2 ≤ sizeLine; decide, [.int i tk, u], .cons ⟨_, rfl⟩ (.cons ru .nil), ⟨_, hT2, rfl, _, rfl⟩⟩
    have I1 : Inv X pins σ (upd H s.heap.objs.size (.tup [.int (i : Nat), x'])) { s with heap := h'', toks := tk + 1 } :=
      I.turnedNew (t' := tk + 1) (ch := [e, it]) (fun b o hb q => (sb.2 b (fun z => hb (by simp [z]))).trans (hk b o (fun z => hb (by simp [z])) (fun z => hb (by simp [z])) q)) hf (Nat.le_refl _) fresh
    refine ⟨.ref s.heap.objs.size, _, I1, rfl, ⟨_, x', rfl, I.hok.fresh (Nat.le_refl _), rfl, fun ys hy => by rw [huniq ys hy]; exact hx⟩, ⟨⟨u, ?_⟩, S.keep (i + 1) h' h'' (hback _ _ hst') fun o q => (sb.2 it (Ne.symm hne)).trans q, hne⟩, fun b hb => ?_⟩
    · rw [show ((i + 1 : Nat) : Int) = (i : Int) + 1 by omega]
      exact he'
    · have hb' : b < s.heap.objs.size := by
        have eb : b = e ∨ b = it := by simpa using hb
        rcases eb with z | z
        · rw [z]; exact hel
        · rw [z]; exact hil
      rw [upd_ne (Nat.ne_of_lt hb')]
      exact (hf b hb).1
  done := by
    intro X hP hw hK hc i pins s σ H E I hf ⟨⟨old, he⟩, hi, hne⟩ ⟨xs, hq, hx⟩
    obtain ⟨fp, Pv, St, D, hst, hfp, hv, hback, huniq⟩ := S.draws X hP hw hK hc i pins s σ H I hi xs hq
    obtain ⟨f0, f1, f2, f3, f4, f5⟩ := hf it (by simp)
    subst hP hw hK hx
    exact wpAny_pyNext_enum_endD D he hst fun h' eb => ⟨rfl, I.turned (t' := s.toks) (fun b o hb q => eb b o hb q) f0 f1 f3 f4 f5⟩
  self := fun A i s Q E ⟨⟨_, he⟩, _⟩ h => wpAny_pyIter_enum he h
theorem vals_back {xs : List V} {us : List Value} (r : Vals xs us) : ∀ {i : Nat} {v : Value}, us[i]? = some v → ∃ x, xs[i]? = some x ∧ RelV x v := by
  induction r with
  | nil => intro i v h; simp at h
  | cons r t ih =>
    intro i v h
    cases i with
    | zero =>
      simp at h
      subst h
      exact ⟨_, rfl, r⟩
    | succ i => exact ih (by simpa using h)
theorem src_tup {P : Program} {w : World} {K : PySem.W.Frag} (a it : Addr) : Src P w K it (fun H xs => SqT K H a xs) (fun i h => h.IsTupleIter it a i) where
  ob := fun i h ⟨o, ho, hc, hd⟩ => ⟨o, ho, by rw [hc]; decide, fun v z => by rw [hd] at z; cases z⟩
  keep := fun i h h' st k => st.at k
  draws := by
    intro X hP hw hK hc i pins s σ H I st xs hq
    subst hP hw hK
    obtain ⟨its, rv, p, hz⟩ := I.tuple hq
    have hne : a ≠ it := fun z => by
      subst z
      obtain ⟨o, ho, c1, _⟩ := st
      obtain ⟨o', ho', c2, _⟩ := p
      rw [ho] at ho'
      cases ho'
      rw [c1] at c2
      exact absurd c2 (by decide)
    have hl := rv.length
    have D := Draws.tuple (prog := X.prog) (w := X.w) (A := X.A.in1) (show X.A.in1.handled = none from I.ok.hd hc) it a hne its.toArray
    rw [show its.toArray.size = xs.length by simp [hl]] at D
    refine ⟨[it, a], fun i v => its.toArray[i]? = some v, fun i h => h.IsTupleIter it a i ∧ h.IsTuple a its.toArray, D, ⟨st, p⟩, fun b hb o ho => ?_, fun v hv => ?_, fun j h hh => hh.1, fun ys hy => I.tuple_inj hy hq⟩
    · have eb : b = it ∨ b = a := by simpa using hb
      rcases eb with z | z
      · obtain ⟨o', ho', c, _⟩ := st
        rw [z, ho'] at ho
        cases ho
        rw [c]; decide
      · obtain ⟨o', ho', c, _⟩ := p
        rw [z, ho'] at ho
        cases ho
        rw [c]; decide
    · exact vals_back rv (show its[i]? = some v by simpa using hv)
theorem src_str {P : Program} {w : World} {K : PySem.W.Frag} (it : Addr) (z : Str) (t : Tok) : Src P w K it (fun _ xs => xs = signV z) (fun i h => h.IsStrIter it (strIterType z) z t i) where
  ob := fun i h ⟨o, ho, hc, hd⟩ => ⟨o, ho, by rw [hc]; unfold strIterType; split <;> decide, fun v q => by rw [hd] at q; cases q⟩
  keep := fun i h h' st k => let ⟨o, ho, r⟩ := st; ⟨o, k o ho, r⟩
  draws := by
    intro X hP hw hK hc i pins s σ H I st xs hq
    subst hP hw hK hq
    have D := Draws.text (prog := X.prog) (w := X.w) (A := X.A.in1) (show X.A.in1.handled = none from I.ok.hd hc) it z t
    rw [show z.cps.size = (signV z).length by simp [signV]] at D
    refine ⟨[it], fun i v => ∃ c u, z.cps[i]? = some c ∧ v = .str ⟨#[c]⟩ u, fun i h => h.IsStrIter it (strIterType z) z t i, D, st, fun b hb o ho => ?_, fun v hv => ?_, fun j h hh => hh, fun ys hy => hy⟩
    · have eb : b = it := by simpa using hb
      obtain ⟨o', ho', c, _⟩ := st
      rw [eb, ho'] at ho
      cases ho
      rw [c]
      unfold strIterType
      split <;> decide
    · obtain ⟨c, u, hx, rfl⟩ := hv
      refine ⟨.str ⟨#[c]⟩, ?_, u, rfl⟩
      simp [signV, hx]
def iEnumA (K : PySem.W.Frag) (ta : TA) : TI := fun σ H R => ta σ H fun vs H1 => (∃ a xs, vs = [.ref a] ∧ SqL K H1 a xs ∧ R (Ite K a) H1) ∨ (∃ a xs, vs = [.ref a] ∧ SqT K H1 a xs ∧ R (IteA fun H xs => SqT K H a xs) H1) ∨ ∃ z, vs = [.str z] ∧ R (IteA fun _ xs => xs = signV z) H1
theorem pi_enumA {X : Cx} {e : Expr} {ta : TA} {p pos tpos : Pos} {elts : List Expr} {kk : Nat} (hg : Gl X "enumerate") (hm : X.mg "enumerate" = none) (ha : PA X [e] ta) (hs : starEach [e] X.env = [(false, eval e X.env)]) : PI X (.Tuple elts kk tpos) (.Call (.Name "enumerate" p) [e] [] pos) (iEnumA X.K ta) := by
  refine ⟨fun pins s σ H R I h => Call_ (ld_blt I hg hm boot_enumerate (PyProof.Rows.callWith_type1 (thn (ha.run pos pins s σ H _ I h) fun us s1 ⟨vs, H1, I1, r1, q1⟩ => ?_) hs rfl))⟩
  have two : ∀ b, b ∈ [s1.heap.objs.size + 1, s1.heap.objs.size] → FpOk X pins H1 b := fun b hb => by
    have eb : b = s1.heap.objs.size + 1 ∨ b = s1.heap.objs.size := by simpa using hb
    have hle : s1.heap.objs.size ≤ b := by
      rcases eb with z | z
      · rw [z]; exact Nat.le_add_right _ _
      · rw [z]; exact Nat.le_refl _
    exact I1.fpOk hle (I1.hok.fresh hle)
  rcases q1 with ⟨a, xs, rfl, hq, q⟩ | ⟨a, xs, rfl, hq, q⟩ | ⟨z, rfl, q⟩
  · cases r1 with
    | cons r rr =>
    cases rr
    cases r
    obtain ⟨its, rv, p', hz⟩ := I1.list hq
    refine call_enumerate_list p'.isList fun h' he hit hsz hk => wpAny_pyIter_enum he ?_
    exact ⟨s1.heap.objs.size + 1, _, _, _, H1, rfl, I1.kept (t' := s1.toks) hk, turn_enum a (s1.heap.objs.size + 1) s1.heap.objs.size, ⟨⟨.none, he⟩, hit, Nat.succ_ne_self _⟩, two, q⟩
  · cases r1 with
    | cons r rr =>
    cases rr
    cases r
    obtain ⟨its, rv, p', hz⟩ := I1.tuple hq
    refine call_enum_any (begins_tuple a its.toArray) p' fun h' he hit hk => wpAny_pyIter_enum he ?_
    exact ⟨s1.heap.objs.size + 1, _, _, _, H1, rfl, I1.kept (t' := s1.toks) hk, turn_enumAny (src_tup a s1.heap.objs.size), ⟨⟨.none, he⟩, ⟨_, hit, rfl, rfl⟩, Nat.succ_ne_self _⟩, two, q⟩
  · cases r1 with
    | cons r rr =>
    cases rr
    obtain ⟨t, rfl⟩ := r
    refine call_enum_any (begins_text z t) trivial fun h' he hit hk => wpAny_pyIter_enum he ?_
    exact ⟨s1.heap.objs.size + 1, _, _, _, H1, rfl, I1.kept (t' := s1.toks) hk, turn_enumAny (src_str s1.heap.objs.size z t), ⟨⟨.none, he⟩, ⟨_, hit, rfl, rfl⟩, Nat.succ_ne_self _⟩, two, q⟩
end G

set_option Elab.async false
set_option linter.all false
set_option maxRecDepth 100000
set_option maxHeartbeats 4000000
namespace G
open PySem PySem.Spec PyProof.Rows L2

/-! ### what is walked -/
/-- a list of the store that must stand as it is while it is walked -/
abbrev Gd := Option (Nat × List Va)
def gdOk (g : Gd) (st : Sto) : Prop := match g with
  | none => True
  | some (p, l) => st[p]? = some (some (.lst l))
/-- J walks the items ws: at every later state -/
def IterOk (K : PySem.W.Frag) (ct : Ct) (F : Hp) (μ : List Addr) (J : It) (wg : List Va × Gd) : Prop :=
  ∀ F' μ' st' H', Wk F F' → μ <+: μ' → Rel K ct F' μ' st' H' → gdOk wg.2 st' → ∀ i : Nat, (i = wg.1.length → J.stop i H') ∧
    ∀ w, wg.1[i]? = some w → J.go i H' ∧ ∀ x H'', J.yld i H' x H'' → ∃ F'', Ext F' μ' H' F'' μ' H'' ∧ Rel K ct F'' μ' st' H'' ∧ RV K F'' μ' w x
theorem IterOk.mono {K : PySem.W.Frag} {ct : Ct} {F F1 : Hp} {μ μ1 : List Addr} {J : It} {wg : List Va × Gd} (h : IterOk K ct F μ J wg) (e : Wk F F1) (hp : μ <+: μ1) : IterOk K ct F1 μ1 J wg :=
  fun F' μ' st' H' e' hp' => h F' μ' st' H' (e.trans e') (hp.trans hp')
abbrev RI (K : PySem.W.Frag) (ct : Ct) : Hp → List Addr → (List Va × Gd) → It → Prop := fun F μ wg J => IterOk K ct F μ J wg
abbrev TI' (X : Cx) (ct : Ct) (W : WX) (m : Mx (List Va × Gd)) : TI := TOf X.K ct W (RI X.K ct) m
theorem PI.mono {X : Cx} {tg e : Expr} {t t' : TI} (h : PI X tg e t) (i : ∀ σ H Q, t' σ H Q → t σ H Q) : PI X tg e t' := ⟨fun pins s σ H Q I q => h.run pins s σ H Q I (i σ H Q q)⟩
section
variable {K : PySem.W.Frag} {ct : Ct} {F : Hp} {μ : List Addr} {a : Addr} {ws : List Va} {vs : List V}
theorem iter_list (rs : RVs K F μ ws vs) {g : Gd} (hq : ∀ F' μ' st' H', Wk F F' → μ <+: μ' → Rel K ct F' μ' st' H' → gdOk g st' → SqL K H' a vs) : IterOk K ct F μ (Itl K a) (ws, g) := by
  intro F' μ' st' H' e hp r hg i
  have h := hq F' μ' st' H' e hp r hg
  refine ⟨fun hi => ⟨vs, h, by rw [hi, ← rs.length]; exact Nat.le_refl _⟩, fun w hw => ?_⟩
  obtain ⟨v, hv, rv⟩ := rs.get hw
  refine ⟨⟨vs, v, h, hv⟩, fun x H'' y => ?_⟩
  obtain ⟨rfl, y⟩ := y
  have ex := y vs h
  rw [hv] at ex
  cases ex
  exact ⟨F', .refl, r, rv.mono e hp⟩
theorem iter_tup (rs : RVs K F μ ws vs) (hq : SqT K F a vs) : IterOk K ct F μ (Itt K a) (ws, none) := by
  intro F' μ' st' H' e hp r hg i
  have h : SqT K H' a vs := r.sub0.tupl (e.tupl hq)
  refine ⟨fun hi => ⟨vs, h, by rw [hi, ← rs.length]; exact Nat.le_refl _⟩, fun w hw => ?_⟩
  obtain ⟨v, hv, rv⟩ := rs.get hw
  refine ⟨⟨vs, v, h, hv⟩, fun x H'' y => ?_⟩
  obtain ⟨rfl, y⟩ := y
  have ex := y vs h
  rw [hv] at ex
  cases ex
  exact ⟨F', .refl, r, rv.mono e hp⟩
def signs (z : Tx) : List Va := z.map fun c => .str [c]
theorem iter_str (z : Tx) : IterOk K ct F μ (Its (mkS z)) (signs z, none) := by
  intro F' μ' st' H' e hp r hg i
  have hz : (mkS z).cps.size = z.length := by simp [mkS]
  refine ⟨fun hi => ?_, fun w hw => ?_⟩
  · show (mkS z).cps.size ≤ i
    rw [hz, hi]
    simp [signs]
  · simp only [signs, List.getElem?_map] at hw
    obtain ⟨c, hc, rfl⟩ := map_some hw
    have hi := (List.getElem?_eq_some_iff.mp hc).1
    refine ⟨show i < (mkS z).cps.size by rw [hz]; exact hi, fun x H'' y => ?_⟩
    obtain ⟨rfl, c', hc', rfl⟩ := y
    have : c' = c := by
      have e1 : (mkS z).cps[i]? = z[i]? := by simp [mkS]
      rw [e1, hc] at hc'
      exact (Option.some.inj hc').symm
    subst this
    exact ⟨F', .refl, r, .str [c']⟩
def rints (lo : Int) (n : Nat) : List Va := (List.range n).map fun i => .int (lo + (i : Nat))
theorem iter_rng (lo : Int) (n : Nat) : IterOk K ct F μ (Itr lo n) (rints lo n, none) := by
  intro F' μ' st' H' e hp r hg i
  refine ⟨fun hi => ?_, fun w hw => ?_⟩
  · show n ≤ i
    rw [hi]; simp [rints]
  · simp only [rints, List.getElem?_map] at hw
    obtain ⟨c, hc, rfl⟩ := map_some hw
    have hi := (List.getElem?_eq_some_iff.mp hc).1
    rw [List.length_range] at hi
    rw [List.getElem?_range hi] at hc
    cases hc
    refine ⟨hi, fun x H'' y => ?_⟩
    obtain ⟨rfl, rfl⟩ := y
    exact ⟨F', .refl, r, .int _⟩
/-- pairs with numbers -/
def numbered (ws : List Va) : List Va := ws.zipIdx.map fun p => .tup [.int (p.2 : Nat), p.1]
theorem numbered_get {ws : List Va} {i : Nat} {w : Va} (h : (numbered ws)[i]? = some w) : ∃ x, ws[i]? = some x ∧ w = .tup [.int (i : Nat), x] := by
  unfold numbered at h
  rw [List.getElem?_map] at h
  obtain ⟨p, hp, rfl⟩ := map_some h
  rw [List.getElem?_zipIdx] at hp
  obtain ⟨x, hx, rfl⟩ := map_some hp
  exact ⟨x, hx, by simp⟩
theorem iter_enumL (rs : RVs K F μ ws vs) {g : Gd} (hq : ∀ F' μ' st' H', Wk F F' → μ <+: μ' → Rel K ct F' μ' st' H' → gdOk g st' → SqL K H' a vs) : IterOk K ct F μ (Ite K a) (numbered ws, g) := by
  intro F' μ' st' H' e hp r hg i
  have h := hq F' μ' st' H' e hp r hg
  refine ⟨fun hi => ⟨vs, h, by rw [hi, ← rs.length]; simp [numbered]⟩, fun w hw => ?_⟩
  obtain ⟨y, hy, rfl⟩ := numbered_get hw
  obtain ⟨v, hv, rv⟩ := rs.get hy
  refine ⟨⟨vs, v, h, hv⟩, fun x H'' yy => ?_⟩
  obtain ⟨T, x', rfl, nT, rfl, yy⟩ := yy
  have ex := yy vs h
  rw [hv] at ex
  cases ex
  exact ⟨_, .frz r nT _, r.frz nT _, .tup (.of upd_same) (.cons (.int _) (.cons ((rv.mono e hp).mono (same_upd (r.nofrz nT)) List.prefix_rfl) .nil))⟩
end

section
variable {X : Cx} {ct : Ct} {W : WX} {tg : Expr}
/-- what a value is walked as -/
def itV (x : Va) (st : Sto) : R (List Va × Gd) := match x with
  | .str z => .ok (signs z, none) st
  | .tup l => .ok (l, none) st
  | .lst l => .ok (l, none) st
  | .scr l => .ok (l, none) st
  | .ref p => match st[p]? with
    | some (some (.lst l)) => .ok (l, some (p, l)) st
    | _ => .stuck
  | _ => .stuck
def mIt (m : Mx Va) : Mx (List Va × Gd) := fun env st => (m env st).bind itV
/-- a reading of a walked value -/
def iAny (K : PySem.W.Frag) (tl : TE) : TI := fun σ H R => tl σ H fun x H1 =>
  (∃ a, x = .ref a ∧ (∃ xs, SqL K H1 a xs) ∧ R (Itl K a) H1) ∨ (∃ a, x = .ref a ∧ (∃ xs, SqT K H1 a xs) ∧ R (Itt K a) H1) ∨ ∃ z, x = .str z ∧ R (Its z) H1
theorem PE.val {pins : List (Addr × Obj)} {σ : L2.St} {H : Hp} {s : Shared} {x : V} {v : Value} (I : L2.Inv X pins σ H s) (r : RelV x v) : True := trivial
theorem pi_any {l : Expr} {tl : TE} (hl : PE X l tl) : PI X tg l (iAny X.K tl) := by
  refine ⟨fun pins s σ H R I h => ?_⟩
  refine thn (hl.run pins s σ H _ I h) fun v s1 ⟨x, H1, I1, r1, q1⟩ => ?_
  rcases q1 with ⟨a, e, ⟨xs, hq⟩, q⟩ | ⟨a, e, ⟨xs, hq⟩, q⟩ | ⟨z, e, q⟩
  · subst e
    cases r1
    obtain ⟨its, rv, p, hz⟩ := I1.list hq
    refine wpAny_pyIter_list p.isList ?_
    refine ⟨s1.heap.objs.size, [s1.heap.objs.size], _, _, H1, rfl, I1.kept (t' := s1.toks) fun b o e => Heap.get?_push_of_some _ e, turn_list a _, ⟨_, Heap.get?_push_size _ rfl, rfl, rfl⟩, fun b hb => ?_, q⟩
    have e : b = s1.heap.objs.size := by simpa using hb
    subst e
    exact I1.fpOk (Nat.le_refl _) (I1.hok.fresh (Nat.le_refl _))
  · subst e
    cases r1
    obtain ⟨its, rv, p, hz⟩ := I1.tuple hq
    refine wpAny_pyIter_tuple (show s1.heap.IsTuple a its.toArray from p) ?_
    refine ⟨s1.heap.objs.size, [s1.heap.objs.size], _, _, H1, rfl, I1.kept (t' := s1.toks) fun b o e => Heap.get?_push_of_some _ e, turn_tuple a _, ⟨_, Heap.get?_push_size _ rfl, rfl, rfl⟩, fun b hb => ?_, q⟩
    have e : b = s1.heap.objs.size := by simpa using hb
    subst e
    exact I1.fpOk (Nat.le_refl _) (I1.hok.fresh (Nat.le_refl _))
  · subst e
    obtain ⟨t, rfl⟩ := r1
    cases ha : z.cps.all (· < 128)
    · exact wpAny_pyIter_wide ha (pi_one (tk := s1.toks) I1 _ (turn_str _ z t "str_iterator" (.inr rfl)) ⟨_, Heap.get?_push_size _ rfl, rfl, rfl⟩ q)
    · exact wpAny_pyIter_ascii ha (pi_one (tk := s1.toks) I1 _ (turn_str _ z t "str_ascii_iterator" (.inl rfl)) ⟨_, Heap.get?_push_size _ rfl, rfl, rfl⟩ q)
theorem sqL_later {K : PySem.W.Frag} {F : Hp} {μ : List Addr} {a : Addr} {vs : List V} (h : SqL K F a vs) : ∀ F' μ' st' H', Wk F F' → μ <+: μ' → Rel K ct F' μ' st' H' → gdOk none st' → SqL K H' a vs :=
  fun F' μ' st' H' e _ r _ => r.sub0.seq (e.seq h)
theorem iter_ref {K : PySem.W.Frag} {F : Hp} {μ : List Addr} {a : Addr} {p : Nat} {l : List Va} (e2 : μ[p]? = some a) : IterOk K ct F μ (Itl K a) (l, some (p, l)) := by
  intro F' μ' st' H' e hp r hg i
  cases r.obj p _ a hg (pre_get hp e2) with
  | @lst _ vs h1 h2 =>
  have h : SqL K H' a vs := .of h1
  refine ⟨fun hi => ⟨vs, h, by rw [hi, ← h2.length]; exact Nat.le_refl _⟩, fun w hw => ?_⟩
  obtain ⟨v, hv, rv⟩ := h2.get hw
  refine ⟨⟨vs, v, h, hv⟩, fun x H'' y => ?_⟩
  obtain ⟨rfl, y⟩ := y
  have ex := y vs h
  rw [hv] at ex
  cases ex
  exact ⟨F', .refl, r, rv⟩
theorem iter_enumR {K : PySem.W.Frag} {F : Hp} {μ : List Addr} {a : Addr} {p : Nat} {l : List Va} (e2 : μ[p]? = some a) : IterOk K ct F μ (Ite K a) (numbered l, some (p, l)) := by
  intro F' μ' st' H' e hp r hg i
  cases r.obj p _ a hg (pre_get hp e2) with
  | @lst _ vs h1 h2 =>
  have h : SqL K H' a vs := .of h1
  refine ⟨fun hi => ⟨vs, h, by rw [hi, ← h2.length]; simp [numbered]⟩, fun w hw => ?_⟩
  obtain ⟨y, hy, rfl⟩ := numbered_get hw
  obtain ⟨v, hv, rv⟩ := h2.get hy
  refine ⟨⟨vs, v, h, hv⟩, fun x H'' yy => ?_⟩
  obtain ⟨T, x', rfl, nT, rfl, yy⟩ := yy
  have ex := yy vs h
  rw [hv] at ex
  cases ex
  exact ⟨_, .frz r nT _, r.frz nT _, .tup (.of upd_same) (.cons (.int _) (.cons (rv.mono (same_upd (r.nofrz nT)) List.prefix_rfl) .nil))⟩
theorem sim_it {e : Expr} {m : Mx Va} (he : PE X e (TE' X ct W m)) : PI X tg e (TI' X ct W (mIt m)) := by
  refine PI.mono (pi_any he) fun σ H Q ⟨F, μ, env, st, r, re, p⟩ => ⟨F, μ, env, st, r, re, p.bind fun w st1 F1 μ1 H1 v _ x1 r1 rv p1 => ?_⟩
  unfold itV at p1
  cases rv with
  | str z => exact .inr (.inr ⟨_, rfl, p1.here r1 (iter_str z)⟩)
  | tup hs rs => exact .inr (.inl ⟨_, rfl, ⟨_, r1.sub0.tupl hs⟩, p1.here r1 (iter_tup rs hs)⟩)
  | lst hs rs => exact .inl ⟨_, rfl, ⟨_, .of (r1.sub _ _ hs)⟩, p1.here r1 (iter_list rs (sqL_later (.of hs)))⟩
  | scr hs rs => exact .inl ⟨_, rfl, ⟨_, r1.sub0.seq hs⟩, p1.here r1 (iter_list rs (sqL_later hs))⟩
  | ref hp =>
    simp only at p1
    split at p1
    · rename_i l e
      cases r1.obj _ _ _ e hp with
      | lst h1 h2 => exact .inl ⟨_, rfl, ⟨_, .of h1⟩, p1.here r1 (iter_ref hp)⟩
    · exact p1.elim
  | _ => exact p1.elim
/-- range(i, j, -1) -/
def rdown (lo : Int) (n : Nat) : List Va := (List.range n).map fun (m : Nat) => .int (lo - m)
theorem iter_rdown {K : PySem.W.Frag} {ct : Ct} {F : Hp} {μ : List Addr} (lo : Int) (n : Nat) : IterOk K ct F μ (Itc lo (-1) n) (rdown lo n, none) := by
  intro F' μ' st H _ _ r _ i
  refine ⟨fun e => ?_, fun w hw => ?_⟩
  · show n ≤ i
    rw [e]
    simp [rdown]
  · unfold rdown at hw
    rw [List.getElem?_map] at hw
    by_cases hi : i < n
    · rw [List.getElem?_range hi] at hw
      cases hw
      refine ⟨hi, fun x H'' y => ?_⟩
      obtain ⟨rfl, rfl⟩ := y
      refine ⟨_, .refl, r, ?_⟩
      rw [show lo + (i : Nat) * (-1 : Int) = lo - (i : Nat) by omega]
      exact .int _
    · rw [List.getElem?_eq_none (by simpa using hi)] at hw
      cases hw
/-- range(n), range(a, b) -/
def i62 (i : Int) : Bool := decide (-(2 ^ 62) ≤ i ∧ i < 2 ^ 62)
def rngV (l : List Va) (st : Sto) : R (List Va × Gd) := match l with
  | [.int j] => if i62 j then .ok (rints 0 j.toNat, none) st else .stuck
  | [.int i, .int j] => if i62 i && i62 j then .ok (rints i (j - i).toNat, none) st else .stuck
  | [.int i, .int j, .int c] => if c = -1 then if i62 i && i62 j then .ok (rdown i (i - j).toNat, none) st else .stuck else .stuck
  | _ => .stuck
def mRng (ml : Mx (List Va)) : Mx (List Va × Gd) := fun env st => (ml env st).bind rngV
theorem sim_rng1 {a : Expr} {ml : Mx (List Va)} {p pos : Pos} (hg : Gl X "range") (hm : X.mg "range" = none) (ha : PA X [a] (TA' X ct W ml)) (hs : starEach [a] X.env = [(false, eval a X.env)]) (h1 : ∀ env st ws st', ml env st = .ok ws st' → ws.length = 1) :
    PI X tg (.Call (.Name "range" p) [a] [] pos) (TI' X ct W (mRng ml)) := by
  refine PI.mono (pi_range1 hg hm ha hs) fun σ H Q ⟨F, μ, env, st, r, re, p⟩ => ⟨F, μ, env, st, r, re, p.bind fun ws st1 F1 μ1 H1 vs e1 x1 r1 rvs p1 => ?_⟩
  unfold rngV at p1
  split at p1
  · rename_i j
    obtain ⟨v, rfl, rv⟩ := rvs.one
    cases rv
    split at p1
    · rename_i hc
      obtain ⟨c1, c2⟩ := (of_decide_eq_true hc : -(2 ^ 62) ≤ j ∧ j < 2 ^ 62)
      exact ⟨j, rfl, c1, c2, p1.here r1 (iter_rng 0 _)⟩
    · exact p1.elim
  · have := h1 _ _ _ _ e1
    simp at this
  · have := h1 _ _ _ _ e1
    simp at this
  · exact p1.elim
theorem sim_rng2 {a b : Expr} {ml : Mx (List Va)} {p pos : Pos} (hg : Gl X "range") (hm : X.mg "range" = none) (ha : PA X [a, b] (TA' X ct W ml)) (hs : starEach [a, b] X.env = [(false, eval a X.env), (false, eval b X.env)]) (hs2 : starEach [b] X.env = [(false, eval b X.env)]) (h1 : ∀ env st ws st', ml env st = .ok ws st' → ws.length = 2) :
    PI X tg (.Call (.Name "range" p) [a, b] [] pos) (TI' X ct W (mRng ml)) := by
  refine PI.mono (pi_range2 hg hm ha hs hs2) fun σ H Q ⟨F, μ, env, st, r, re, p⟩ => ⟨F, μ, env, st, r, re, p.bind fun ws st1 F1 μ1 H1 vs e1 x1 r1 rvs p1 => ?_⟩
  unfold rngV at p1
  split at p1
  · have := h1 _ _ _ _ e1
    simp at this
  · rename_i i j
    obtain ⟨v, u, rfl, rv, ru⟩ := rvs.two
    cases rv
    cases ru
    split at p1
    · rename_i hc
      rw [Bool.and_eq_true] at hc
      obtain ⟨c1, c2⟩ := (of_decide_eq_true hc.1 : -(2 ^ 62) ≤ i ∧ i < 2 ^ 62)
      obtain ⟨c3, c4⟩ := (of_decide_eq_true hc.2 : -(2 ^ 62) ≤ j ∧ j < 2 ^ 62)
      exact ⟨i, j, rfl, ⟨c1, c2, c3, c4⟩, p1.here r1 (iter_rng i _)⟩
    · exact p1.elim
  · have := h1 _ _ _ _ e1
    simp at this
  · exact p1.elim
theorem sim_rng3 {a b c : Expr} {ml : Mx (List Va)} {p pos : Pos} (hg : Gl X "range") (hm : X.mg "range" = none) (ha : PA X [a, b, c] (TA' X ct W ml)) (hs : starEach [a, b, c] X.env = (false, eval a X.env) :: starEach [b, c] X.env) (hpl : (backTo pos (starEach [b, c] X.env)).any (·.1) = false) (h1 : ∀ env st ws st', ml env st = .ok ws st' → ws.length = 3) :
    PI X tg (.Call (.Name "range" p) [a, b, c] [] pos) (TI' X ct W (mRng ml)) := by
  refine PI.mono (pi_range3 hg hm ha hs hpl) fun σ H Q ⟨F, μ, env, st, r, re, p⟩ => ⟨F, μ, env, st, r, re, p.bind fun ws st1 F1 μ1 H1 vs e1 x1 r1 rvs p1 => ?_⟩
  have hl := h1 _ _ _ _ e1
  unfold rngV at p1
  split at p1
  · simp at hl
  · simp at hl
  · rename_i i j k
    cases rvs with
    | cons ra rr =>
      cases rr with
      | cons rb rr =>
        cases rr with
        | cons rc rr =>
          cases rr
          cases ra
          cases rb
          cases rc
          split at p1
          · rename_i hk
            subst hk
            split at p1
            · rename_i hc
              rw [Bool.and_eq_true] at hc
              obtain ⟨c1, c2⟩ := (of_decide_eq_true hc.1 : -(2 ^ 62) ≤ i ∧ i < 2 ^ 62)
              obtain ⟨c3, c4⟩ := (of_decide_eq_true hc.2 : -(2 ^ 62) ≤ j ∧ j < 2 ^ 62)
              exact ⟨i, j, -1, _, rfl, RgC.neg c1 c2 c3 c4, p1.here r1 (iter_rdown i _)⟩
            · exact p1.elim
          · exact p1.elim
  · exact p1.elim
/-- enumerate(list, tuple, text) -/
def enumV (l : List Va) (st : Sto) : R (List Va × Gd) := match l with
  | [.lst l] => .ok (numbered l, none) st
  | [.scr l] => .ok (numbered l, none) st
  | [.tup l] => .ok (numbered l, none) st
  | [.str z] => .ok (numbered (signs z), none) st
  | [.ref p] => match st[p]? with
    | some (some (.lst l)) => .ok (numbered l, some (p, l)) st
    | _ => .stuck
  | _ => .stuck
theorem iter_enumA {K : PySem.W.Frag} {F : Hp} {μ : List Addr} {ws : List Va} {vs : List V} {get : Hp → List V → Prop} (rs : RVs K F μ ws vs) (hq : ∀ F' μ' st' H', Wk F F' → μ <+: μ' → Rel K ct F' μ' st' H' → get H' vs) : IterOk K ct F μ (IteA get) (numbered ws, none) := by
  intro F' μ' st' H' e hp r hg i
  have h := hq F' μ' st' H' e hp r
  refine ⟨fun hi => ⟨vs, h, by rw [hi, ← rs.length]; simp [numbered]⟩, fun w hw => ?_⟩
  obtain ⟨y, hy, rfl⟩ := numbered_get hw
  obtain ⟨v, hv, rv⟩ := rs.get hy
  refine ⟨⟨vs, v, h, hv⟩, fun x H'' yy => ?_⟩
  obtain ⟨T, x', rfl, nT, rfl, yy⟩ := yy
  have ex := yy vs h
  rw [hv] at ex
  cases ex
  exact ⟨_, .frz r nT _, r.frz nT _, .tup (.of upd_same) (.cons (.int _) (.cons ((rv.mono e hp).mono (same_upd (r.nofrz nT)) List.prefix_rfl) .nil))⟩
theorem signs_ok {K : PySem.W.Frag} {F : Hp} {μ : List Addr} : ∀ z : Tx, RVs K F μ (signs z) (signV (mkS z)) := by
  intro z
  have e : signV (mkS z) = z.map fun c => V.str (mkS [c]) := by simp [signV, mkS]
  rw [e]
  unfold signs
  clear e
  induction z with
  | nil => exact .nil
  | cons c r ih => exact .cons (.str [c]) ih
def mEnum (ml : Mx (List Va)) : Mx (List Va × Gd) := fun env st => (ml env st).bind enumV
theorem sim_enum {e : Expr} {ml : Mx (List Va)} {p pos tpos : Pos} {elts : List Expr} {kk : Nat} (hg : Gl X "enumerate") (hm : X.mg "enumerate" = none) (ha : PA X [e] (TA' X ct W ml)) (hs : starEach [e] X.env = [(false, eval e X.env)]) :
    PI X (.Tuple elts kk tpos) (.Call (.Name "enumerate" p) [e] [] pos) (TI' X ct W (mEnum ml)) := by
  refine PI.mono (pi_enumA hg hm ha hs) fun σ H Q ⟨F, μ, env, st, r, re, p⟩ => ⟨F, μ, env, st, r, re, p.bind fun ws st1 F1 μ1 H1 vs e1 x1 r1 rvs p1 => ?_⟩
  unfold enumV at p1
  split at p1
  · obtain ⟨v, rfl, rv⟩ := rvs.one
    cases rv with
    | lst hs rs => exact .inl ⟨_, _, rfl, .of (r1.sub _ _ hs), p1.here r1 (iter_enumL rs (sqL_later (.of hs)))⟩
  · obtain ⟨v, rfl, rv⟩ := rvs.one
    cases rv with
    | scr hs rs => exact .inl ⟨_, _, rfl, r1.sub0.seq hs, p1.here r1 (iter_enumL rs (sqL_later hs))⟩
  · obtain ⟨v, rfl, rv⟩ := rvs.one
    cases rv with
    | tup hs rs => exact .inr (.inl ⟨_, _, rfl, r1.sub0.tupl hs, p1.here r1 (iter_enumA rs fun F' μ' st' H' e _ r => r.sub0.tupl (e.tupl hs))⟩)
  · obtain ⟨v, rfl, rv⟩ := rvs.one
    cases rv with
    | str _ => exact .inr (.inr ⟨_, rfl, p1.here r1 (iter_enumA (signs_ok _) fun _ _ _ _ _ _ _ => rfl)⟩)
  · obtain ⟨v, rfl, rv⟩ := rvs.one
    cases rv with
    | ref hp =>
      split at p1
      · rename_i l e
        cases r1.obj _ _ _ e hp with
        | lst h1 h2 => exact .inl ⟨_, _, rfl, .of h1, p1.here r1 (iter_enumR hp)⟩
      · exact p1.elim
  · exact p1.elim
end
end G

set_option Elab.async false
set_option linter.all false
set_option maxRecDepth 100000
set_option maxHeartbeats 4000000
namespace G
open PySem PySem.Spec PyProof.Rows L2

/-! ### equality that is reckoned -/
mutual
def vaEq : Va → Va → Bool
  | .non, .non => true
  | .bl a, .bl b => a == b
  | .int a, .int b => decide (a = b)
  | .str a, .str b => decide (a = b)
  | .tup a, .tup b => vasEq a b
  | .lst a, .lst b => vasEq a b
  | .scr a, .scr b => vasEq a b
  | .dic k a, .dic j b => decide (k = j) && vasEq a b
  | .ref a, .ref b => decide (a = b)
  | _, _ => false
def vasEq : List Va → List Va → Bool
  | [], [] => true
  | x :: xs, y :: ys => vaEq x y && vasEq xs ys
  | _, _ => false
end
mutual
theorem vaEq_eq : ∀ (x y : Va), vaEq x y = true → x = y
  | .non, y, h => by cases y <;> first | rfl | (simp [vaEq] at h)
  | .bl a, y, h => by cases y <;> simp [vaEq] at h; rw [h]
  | .int a, y, h => by cases y <;> simp [vaEq] at h; rw [h]
  | .str a, y, h => by cases y <;> simp [vaEq] at h; rw [h]
  | .tup a, y, h => by cases y <;> simp [vaEq] at h; rw [vasEq_eq _ _ h]
  | .lst a, y, h => by cases y <;> simp [vaEq] at h; rw [vasEq_eq _ _ h]
  | .scr a, y, h => by cases y <;> simp [vaEq] at h; rw [vasEq_eq _ _ h]
  | .dic k a, y, h => by cases y <;> simp [vaEq] at h; rw [h.1, vasEq_eq _ _ h.2]
  | .ref a, y, h => by cases y <;> simp [vaEq] at h; rw [h]
theorem vasEq_eq : ∀ (x y : List Va), vasEq x y = true → x = y
  | [], y, h => by cases y <;> first | rfl | (simp [vasEq] at h)
  | x :: xs, y, h => by
    cases y with
    | nil => simp [vasEq] at h
    | cons y ys =>
      simp [vasEq] at h
      rw [vaEq_eq _ _ h.1, vasEq_eq _ _ h.2]
end
def gdB (g : Gd) (st : Sto) : Bool := match g with
  | none => true
  | some (p, l) => match st[p]? with
    | some (some (.lst l')) => vasEq l' l
    | _ => false
theorem gdB_ok {g : Gd} {st : Sto} (h : gdB g st = true) : gdOk g st := by
  unfold gdB at h
  unfold gdOk
  split at h
  · trivial
  · split at h
    · rename_i e
      try simp only
      rw [e, vasEq_eq _ _ h]
    · cases h

/-! ### targets -/
abbrev Tg := Sum Nat (List Nat)
def setAll {α : Type} : List Nat → List α → List (Option α) → List (Option α)
  | i :: is, x :: xs, σ => setAll is xs (σ.set i (some x))
  | _, _, σ => σ
/-- a tuple's items, or a list's -/
def itms (w : Va) (st : Sto) : Option (List Va) := match w with
  | .tup l => some l
  | _ => lstOf w st
def tgV (tg : Tg) (w : Va) (env : Ev) (st : Sto) : Option Ev := match tg with
  | .inl i => some (env.set i (some w))
  | .inr is => match itms w st with
    | some l => if l.length = is.length then some (setAll is l env) else none
    | none => none
def gSet (K : PySem.W.Frag) (tg : Tg) : TG := fun v σ H Q => match tg with
  | .inl i => Q (σ.set i (some v)) H
  | .inr is => ∃ a xs, v = .ref a ∧ (SqT K H a xs ∨ SqL K H a xs) ∧ xs.length = is.length ∧ Q (setAll is xs σ) H
def tgIx : Tg → List Nat
  | .inl i => [i]
  | .inr is => is
theorem REnv.setAll {K : PySem.W.Frag} {ct : Ct} {F : Hp} {μ : List Addr} : ∀ {is : List Nat} {ws : List Va} {vs : List V} {env : Ev} {σ : L2.St}, (∀ j ∈ is, ct.Bears j) → REnv K ct F μ env σ → RVs K F μ ws vs → REnv K ct F μ (G.setAll is ws env) (G.setAll is vs σ)
  | [], _, _, _, _, _, r, _ => r
  | _ :: _, _, _, _, _, _, r, .nil => r
  | i :: is, _, _, _, _, hb, r, .cons h t => by
    simp only [G.setAll]
    exact REnv.setAll (fun j hj => hb j (List.mem_cons_of_mem _ hj)) (r.set i (hb i List.mem_cons_self) h) t
theorem gSet_of {K : PySem.W.Frag} {ct : Ct} {F : Hp} {μ : List Addr} {st : Sto} {H : Hp} {tg : Tg} {w : Va} {v : V} {env env' : Ev} {σ : L2.St} {Q : L2.St → Hp → Prop} (r : Rel K ct F μ st H) (re : REnv K ct F μ env σ) (rv : RV K F μ w v) (h : tgV tg w env st = some env') (hb : ∀ j ∈ tgIx tg, ct.Bears j)
    (hQ : ∀ σ', REnv K ct F μ env' σ' → (∃ vs : List V, σ' = setAll (tgIx tg) vs σ) → Q σ' H) : gSet K tg v σ H Q := by
  cases tg with
  | inl i =>
    cases h
    exact hQ _ (re.set i (hb i List.mem_cons_self) rv) ⟨[v], rfl⟩
  | inr is =>
    simp only [tgV] at h
    split at h
    · rename_i l el
      split at h
      · rename_i hl
        cases h
        have key : ∃ a vs, v = .ref a ∧ (SqT K H a vs ∨ SqL K H a vs) ∧ RVs K F μ l vs := by
          unfold itms at el
          split at el
          · obtain ⟨a, vs, h1, hq, rs⟩ := tupOf_ok rv el
            exact ⟨a, vs, h1, .inl (r.sub0.tupl hq), rs⟩
          · obtain ⟨a, vs, h1, hq, rs⟩ := lstOf_ok r rv el
            exact ⟨a, vs, h1, .inr (.of hq), rs⟩
        obtain ⟨a, vs, rfl, hq, rs⟩ := key
        exact ⟨a, vs, rfl, hq, by rw [← rs.length]; exact hl, hQ _ (REnv.setAll hb re rs) ⟨vs, rfl⟩⟩
      · cases h
    · cases h
section
variable {X : Cx}
def gSeqs : List Nat → TGs
  | [] => gNil
  | i :: is => gCons (gName i) (gSeqs is)
theorem gSeqs_of : ∀ {is : List Nat} {vs : List V} {σ : L2.St} {H : Hp} {Q : L2.St → Hp → Prop}, vs.length = is.length → Q (setAll is vs σ) H → gSeqs is vs σ H Q
  | [], [], _, _, _, _, h => ⟨rfl, h⟩
  | i :: is, v :: vs, _, _, _, hl, h => ⟨v, vs, rfl, gSeqs_of (by simpa using hl) h⟩
theorem pg_mono {e : Expr} {t t' : TG} (h : PG X e t) (i : ∀ v σ H Q, t' v σ H Q → t v σ H Q) : PG X e t' := ⟨fun pins s σ H v u Q I r q => h.run pins s σ H v u Q I r (i v σ H Q q)⟩
theorem sim_tgName {i : Nat} {x : Str} {pos : Pos} (hN : X.N.Nodup) (hi : X.N[i]? = some x) (hx : Loc X.env.scope x) (hf : X.fn x = true ∨ X.env.scope.names.lookup x = some .local) : PG X (.Name x pos) (gSet X.K (.inl i)) :=
  pg_mono (pg_name hN hi hx hf) fun _ _ _ _ q => q
theorem sim_tgTup {es : List Expr} {is : List Nat} {k : Nat} {pos : Pos} (hc : X.calm = true) (h : PGs X es (gSeqs is)) (hn : (assignEach es X.env).length = is.length) (hst : (assignEach es X.env).findIdx? (·.1) = none) : PG X (.Tuple es k pos) (gSet X.K (.inr is)) :=
  ⟨fun pins s σ H v u Q I r ⟨a, xs, e, hq, hl, q⟩ => hq.elim (fun hq => (pg_tup hc h hn hst).run pins s σ H v u Q I r ⟨a, xs, e, hq, hl, gSeqs_of hl q⟩) fun hq => (pg_lst hc h hn hst).run pins s σ H v u Q I r ⟨a, xs, e, hq, hl, gSeqs_of hl q⟩⟩
end

/-! ### slots forgotten -/
def wipeE (env : Ev) : List Nat → Ev
  | [] => env
  | v :: vs => (wipeE env vs).set v none
theorem wipe_set (σ : L2.St) (i : Nat) (x : Option V) : ∀ vs : List Nat, i ∈ vs → wipe (σ.set i x) vs = wipe σ vs
  | [], h => by cases h
  | v :: vs, h => by
    unfold wipe
    by_cases e : i ∈ vs
    · rw [wipe_set σ i x vs e]
    · have hv : i = v := by
        rcases List.mem_cons.mp h with h | h
        · exact h
        · exact absurd h e
      subst hv
      have gen : ∀ (us : List Nat), i ∉ us → wipe (σ.set i x) us = (wipe σ us).set i x := by
        intro us
        induction us with
        | nil => intro _; rfl
        | cons u us ih =>
          intro hn
          simp only [List.mem_cons, not_or] at hn
          unfold wipe
          rw [ih hn.2, List.set_comm _ _ hn.1]
      rw [gen vs e, List.set_set]
theorem wipe_set' (i : Nat) (x : Option V) : ∀ (us : List Nat) (σ : L2.St), i ∉ us → wipe (σ.set i x) us = (wipe σ us).set i x
  | [], _, _ => rfl
  | u :: us, σ, hn => by
    simp only [List.mem_cons, not_or] at hn
    unfold wipe
    rw [wipe_set' i x us σ hn.2, List.set_comm _ _ hn.1]
theorem wipe_wipe : ∀ (vs : List Nat) (σ : L2.St), wipe (wipe σ vs) vs = wipe σ vs
  | [], _ => rfl
  | v :: vs, σ => by
    show (wipe ((wipe σ vs).set v none) vs).set v none = (wipe σ vs).set v none
    by_cases h : v ∈ vs
    · rw [wipe_set _ v none vs h, wipe_wipe vs]
    · rw [wipe_set' v none vs _ h, List.set_set, wipe_wipe vs]
theorem wipe_setAll : ∀ (is vs : List Nat) (xs : List V) (σ : L2.St), (∀ i ∈ is, i ∈ vs) → wipe (setAll is xs σ) vs = wipe σ vs
  | [], _, _, _, _ => by simp [setAll]
  | _ :: _, _, [], _, _ => by simp [setAll]
  | i :: is, vs, x :: xs, σ, h => by
    unfold setAll
    rw [wipe_setAll is vs xs _ fun j hj => h j (List.mem_cons_of_mem _ hj), wipe_set σ i _ vs (h i List.mem_cons_self)]
theorem REnv.wipe {K : PySem.W.Frag} {ct : Ct} {F : Hp} {μ : List Addr} {env : Ev} {σ : L2.St} (r : REnv K ct F μ env σ) : ∀ vs : List Nat, (∀ j ∈ vs, ct.Bears j) → REnv K ct F μ (wipeE env vs) (L2.wipe σ vs)
  | [], _ => r
  | v :: vs, hb => by
    have ih := REnv.wipe r vs fun j hj => hb j (List.mem_cons_of_mem _ hj)
    unfold wipeE L2.wipe
    refine ⟨by simp [ih.len], fun i w e => ?_, hb v List.mem_cons_self _ _ _ ih.inv⟩
    by_cases hi : v = i
    · subst hi
      by_cases hl : v < (wipeE env vs).length
      · rw [List.getElem?_set_self hl] at e; cases e
      · rw [List.getElem?_eq_none (by simpa using hl)] at e; cases e
    · rw [List.getElem?_set_ne hi] at e ⊢
      exact ih.get i w e

/-! ### a thing that is tracked apart -/
section
variable {K : PySem.W.Frag} {ct : Ct} {F F1 : Hp} {μ μ1 : List Addr} {H H1 : Hp} {st : Sto} {D : Addr} {o : HO}
theorem nt_lst {l : List V} (h : H D = some (.lst l)) : ∀ ps, H D ≠ some (.tbl ps) := fun ps e => by rw [h] at e; cases e
theorem Rel.lay (r : Rel K ct F μ st H) (hD : D ∉ μ) (hF : F D = none) (hT : ∀ ps, H D ≠ some (.tbl ps)) (o : HO) : Rel K ct F μ st (upd H D o) := by
  have ne : ∀ {p : Nat} {a : Addr}, μ[p]? = some a → a ≠ D := fun {p a} e z => hD (z ▸ List.mem_of_getElem? e)
  refine ⟨r.sub0.right fun a u e => ne_of_none e hF, r.len, fun p ob a e1 e2 => (r.obj p ob a e1 e2).mono (.refl _) List.prefix_rfl (upd_ne (ne e2)), r.dis, r.inj, fun a m => upd_there (r.mtr a m), fun P m => ⟨tabG_upd (r.tabs P m).1 hT, (r.tabs P m).2⟩⟩
theorem Ext.lay (x : Ext F1 μ1 H1 F μ H) (h1 : H1 D = none) (hD : D ∉ μ1) (o : HO) : Ext F1 μ1 H1 F μ (upd H D o) := by
  refine ⟨x.fr, x.pre, fun a u e n nt => ?_, fun P t => ?_, x.new, x.mnew, fun a e => upd_there (x.there a e)⟩
  · rw [upd_ne (ne_of_none e h1)]
    exact x.keep0 a u e n nt
  · have n := tabG_ne t (nt_none h1)
    obtain ⟨ps, h2, h3⟩ := x.tab P t
    exact ⟨ps, by rw [upd_ne n]; exact h2, h3⟩
theorem Rel.take (r : Rel K ct F μ st H) (hD : D ∉ μ) (hF : F D = none) (h : H D = some o) (hT : ∀ ps, H D ≠ some (.tbl ps)) : Rel K ct (upd F D o) μ st H := by
  have ne : ∀ {p : Nat} {a : Addr}, μ[p]? = some a → a ≠ D := fun {p a} e z => hD (z ▸ List.mem_of_getElem? e)
  refine ⟨r.sub0.left h, r.len, fun p ob a e1 e2 => (r.obj p ob a e1 e2).mono (same_upd hF) List.prefix_rfl rfl, fun p ob a e1 e2 => ?_, r.inj, r.mtr, fun P m => ⟨(r.tabs P m).1, by rw [upd_ne (tabG_ne (r.tabs P m).1 hT)]; exact (r.tabs P m).2⟩⟩
  · rw [upd_ne (ne e2)]; exact r.dis p ob a e1 e2
theorem Ext.take (x : Ext F1 μ1 H1 F μ H) (hF : F D = none) (h1 : H1 D = none) (o : HO) : Ext F1 μ1 H1 (upd F D o) μ H := by
  refine ⟨x.fr.trans (same_upd hF), x.pre, x.keep0, x.tab, fun a e => ?_, x.mnew, x.there⟩
  by_cases ha : a = D
  · subst ha; exact .inr (.inl h1)
  · rw [upd_ne ha] at e; exact x.new a e
theorem Rel.adopt (r : Rel K ct F μ st H) (hD : D ∉ μ) (hF : F D = none) {ob : Ob} (h : RO K ct F μ H D ob) : Rel K ct F (μ ++ [D]) (st ++ [some ob]) H := by
  have hl := r.len
  have hne : ∀ {p : Nat} {ob' : Ob} {a : Addr}, st[p]? = some (some ob') → (μ ++ [D])[p]? = some a → μ[p]? = some a := fun {p ob' a} e1 e2 => by
    have hq := (List.getElem?_eq_some_iff.mp e1).1
    rw [List.getElem?_append_left (by omega)] at e2
    exact e2
  have new : ∀ {q : Nat} {a : Addr}, q = st.length → (μ ++ [D])[q]? = some a → a = D := fun {q a} e1 e2 => by
    rw [e1, hl, List.getElem?_append_right (Nat.le_refl _)] at e2
    simp at e2
    exact e2.symm
  refine ⟨r.sub0, by simp [hl], fun q ob' a e1 e2 => ?_, fun q ob' a e1 e2 => ?_, fun q q' o1 o2 a e1 e2 e3 e4 => ?_, fun a m => ?_, r.tabs⟩
  · rcases get_app e1 with e1 | ⟨hq, e1'⟩
    · exact (r.obj q ob' a e1 (hne e1 e2)).mono (.refl _) pre_app rfl
    · rw [new hq e2, Option.some.inj e1']
      exact h.mono (.refl _) pre_app rfl
  · rcases get_app e1 with e1 | ⟨hq, e1'⟩
    · exact r.dis q ob' a e1 (hne e1 e2)
    · rw [new hq e2]; exact hF
  · rcases get_app e1 with e1 | ⟨h1, e1⟩ <;> rcases get_app e2 with e2 | ⟨h2, e2⟩
    · exact r.inj q q' o1 o2 a e1 e2 (hne e1 e3) (hne e2 e4)
    · exact absurd (new h2 e4 ▸ List.mem_of_getElem? (hne e1 e3)) hD
    · exact absurd (new h1 e3 ▸ List.mem_of_getElem? (hne e2 e4)) hD
    · rw [h1, h2]
  · rcases List.mem_append.mp m with m | m
    · exact r.mtr a m
    · obtain ⟨u, hu, _⟩ := h.there
      rw [List.mem_singleton.mp m, hu]
      exact fun z => nomatch z
theorem Ext.adopt (x : Ext F1 μ1 H1 F μ H) (h1 : H1 D = none) : Ext F1 μ1 H1 F (μ ++ [D]) H := by
  refine ⟨x.fr, x.pre.trans pre_app, x.keep0, x.tab, x.new, fun a m => ?_, x.there⟩
  rcases List.mem_append.mp m with m | m
  · exact x.mnew a m
  · rw [List.mem_singleton.mp m]; exact .inr h1
theorem mkL_at {W : WX} {σ : L2.St} {m : Bool} {l : List Va} {vs : List V} {Q : VK} (r : Rel K ct F μ st H) (x : Ext F1 μ1 H1 F μ H) (hD : D ∉ μ) (hF : F D = none) (h1 : H1 D = none) (h : H D = some (.lst vs)) (rs : RVs K F μ l vs)
    (p : GPost K ct W (RV K) σ F1 μ1 H1 Q (mkL m l st)) : Q (.ref D) H := by
  unfold mkL at p
  split at p
  · cases m with
    | false => exact p _ _ _ _ (x.take hF h1 _) (r.take hD hF h (nt_lst h)) (.lst upd_same (rs.mono (same_upd hF) List.prefix_rfl))
    | true =>
      refine p _ _ _ _ (x.adopt h1) (r.adopt hD hF (.lst h rs)) (.ref ?_)
      rw [r.len, List.getElem?_append_right (Nat.le_refl _)]
      simp
  · exact p.elim
end

/-! ### list comprehensions -/
def lcRun (tg : Tg) (mc : Mx Bool) (me : Mx Va) (gd : Gd) (env : Ev) : List Va → List Va → Sto → R (List Va)
  | [], acc, st => if gdB gd st then .ok acc st else .stuck
  | x :: rest, acc, st => if gdB gd st then match tgV tg x env st with
      | none => .stuck
      | some env1 => match mc env1 st with
        | .ok b st1 => if b then match me env1 st1 with
            | .ok y st2 => lcRun tg mc me gd env rest (acc ++ [y]) st2
            | _ => .stuck
          else lcRun tg mc me gd env rest acc st1
        | _ => .stuck
    else .stuck
theorem lcRun_len {tg : Tg} {mc : Mx Bool} {me : Mx Va} {gd : Gd} {env : Ev} : ∀ {xs acc : List Va} {st : Sto} {l : List Va} {st' : Sto}, lcRun tg mc me gd env xs acc st = .ok l st' → acc.length ≤ l.length
  | [], acc, st, l, st', h => by
    unfold lcRun at h
    split at h
    · cases h; exact Nat.le_refl _
    · cases h
  | x :: rest, acc, st, l, st', h => by
    unfold lcRun at h
    split at h
    · split at h
      · cases h
      · split at h
        · split at h
          · split at h
            · have := lcRun_len h
              simp at this
              omega
            · cases h
          · exact lcRun_len h
        · cases h
    · cases h
def mLc (m : Bool) (vs : List Nat) (tg : Tg) (mi : Mx (List Va × Gd)) (mc : Mx Bool) (me : Mx Va) : Mx Va := fun env st => (mi env st).bind fun wg st => (lcRun tg mc me wg.2 (wipeE env vs) wg.1 [] st).bind fun l st => mkL m l st
section
variable {X : Cx} {ct : Ct} {W : WX}
abbrev W0 : WX := fun _ _ _ _ => False
theorem tLc_of {K : PySem.W.Frag} {ct : Ct} {W : WX} {m : Bool} {vs : List Nat} {tg : Tg} {mi : Mx (List Va × Gd)} {mc : Mx Bool} {me : Mx Va} {wi : TI} {σ : L2.St} {H : Hp} {Q : VK} (hwi : ∀ R, TOf K ct W (RI K ct) mi σ H R → wi σ H R) (hvs : ∀ i ∈ tgIx tg, i ∈ vs) (hb : ∀ j ∈ vs, ct.Bears j)
    (h : TOf K ct W (RV K) (mLc m vs tg mi mc me) σ H Q) : tLc wi (gSet K tg) (TOf K ct W0 RB mc) (TOf K ct W0 (RV K) me) vs σ H Q := by
  obtain ⟨F, μ, env, st, r, re, p⟩ := h
  refine hwi _ ⟨F, μ, env, st, r, re, p.bind fun wg st1 F1 μ1 H1 J _ x1 r1 hJ p1 => fun D hD => ?_⟩
  have re1 := (re.mono x1).wipe vs hb
  have Dm : D ∉ μ1 := fun m => r1.mtr D m hD
  have DF : F1 D = none := r1.nofrz hD
  -- the run ends well
  cases hrun : lcRun tg mc me wg.2 (wipeE env vs) wg.1 [] st1 with
  | err x st' => 
    have : ∀ (xs acc : List Va) (st : Sto), lcRun tg mc me wg.2 (wipeE env vs) xs acc st ≠ .err x st' := by
      intro xs
      induction xs with
      | nil => intro acc st h; unfold lcRun at h; split at h <;> cases h
      | cons y ys ih =>
        intro acc st h
        unfold lcRun at h
        split at h
        · split at h
          · cases h
          · split at h
            · split at h
              · split at h
                · exact ih _ _ h
                · cases h
              · exact ih _ _ h
            · cases h
        · cases h
    exact absurd hrun (this _ _ _)
  | stuck => rw [hrun] at p1; exact p1.elim
  | ok l stf =>
  rw [hrun] at p1
  have hz : l.length ≤ sizeLine := by
    simp only [R.bind_ok, mkL] at p1
    split at p1
    · assumption
    · exact p1.elim
  refine ⟨fun i m H => m = wg.1.length - i ∧ i ≤ wg.1.length ∧ ∃ F2 μ2 st2 acc accV, Ext F1 μ1 H1 F2 μ2 H ∧ Rel K ct F2 μ2 st2 H ∧ D ∉ μ2 ∧ F2 D = none ∧ H D = some (.lst accV) ∧ RVs K F2 μ2 acc accV ∧ lcRun tg mc me wg.2 (wipeE env vs) (wg.1.drop i) acc st2 = .ok l stf,
    ⟨_, rfl, Nat.zero_le _, F1, μ1, st1, [], [], Ext.lay .refl hD Dm _, r1.lay Dm DF (nt_none hD) _, Dm, DF, upd_same, .nil, by rw [List.drop_zero]; exact hrun⟩, ?_⟩
  rintro i n H2 ⟨rfl, hi, F2, μ2, st2, acc, accV, x2, r2, D2, DF2, hDv, racc, hl⟩
  by_cases hlt : i < wg.1.length
  · -- a turn
    obtain ⟨w, hw⟩ : ∃ w, wg.1[i]? = some w := ⟨_, List.getElem?_eq_getElem hlt⟩
    have hdrop : wg.1.drop i = w :: wg.1.drop (i + 1) := by
      rw [List.drop_eq_getElem_cons hlt]
      rw [List.getElem?_eq_getElem hlt] at hw
      rw [Option.some.inj hw]
    rw [hdrop] at hl
    unfold lcRun at hl
    split at hl
    · rename_i hg
      have hIt := (hJ F2 μ2 st2 H2 x2.fr x2.pre r2 (gdB_ok hg) i).2 w hw
      refine .inr ⟨hIt.1, fun H' => wg.1.length - (i + 1) = wg.1.length - (i + 1) ∧ i + 1 ≤ wg.1.length ∧ ∃ F2 μ2 st2 acc accV, Ext F1 μ1 H1 F2 μ2 H' ∧ Rel K ct F2 μ2 st2 H' ∧ D ∉ μ2 ∧ F2 D = none ∧ H' D = some (.lst accV) ∧ RVs K F2 μ2 acc accV ∧ lcRun tg mc me wg.2 (wipeE env vs) (wg.1.drop (i + 1)) acc st2 = .ok l stf,
        fun H' ⟨_, q2⟩ => ⟨wg.1.length - (i + 1), by omega, rfl, q2⟩, fun x H3 y => ?_⟩
      obtain ⟨F3, x3, r3, rx⟩ := hIt.2 x H3 y
      have H1none : ∀ {F'' : Hp} {μ'' : List Addr} {H'' : Hp} {F0 : Hp} {μ0 : List Addr} {H0 : Hp}, Ext F0 μ0 H0 F'' μ'' H'' → D ∉ μ0 → F0 D = none → H0 D ≠ none → D ∉ μ'' ∧ F'' D = none := fun {F'' μ'' H'' F0 μ0 H0} x a b c => by
        refine ⟨fun m => (x.mnew D m).elim a c, ?_⟩
        cases q : F'' D with
        | none => rfl
        | some o =>
          rcases x.new D (by rw [q]; exact fun z => nomatch z) with z | z | z
          · exact absurd b z
          · exact absurd z c
          · exact absurd z a
      have c2 : H2 D ≠ none := by rw [hDv]; exact fun z => nomatch z
      obtain ⟨D3, DF3⟩ := H1none x3 D2 DF2 c2
      have hDv3 : H3 D = some (.lst accV) := x3.keep D _ hDv D2 (fun _ => nofun)
      split at hl
      · cases hl
      · rename_i env1 et
        refine gSet_of r3 ((re1.mono (x2.trans x3))) rx et (fun j hj => hb j (hvs j hj)) fun σ' re' ⟨us, eσ⟩ => ⟨by rw [eσ, wipe_setAll _ _ _ _ hvs, wipe_wipe], ?_⟩
        split at hl
        · rename_i b st4 ec
          refine ⟨F3, μ2, env1, st2, r3, re', ?_⟩
          rw [ec]
          intro F4 μ4 H4 b' x4 r4 eb
          have eb : b = b' := eb
          subst eb
          have c3 : H3 D ≠ none := by rw [hDv3]; exact fun z => nomatch z
          obtain ⟨D4, DF4⟩ := H1none x4 D3 DF3 c3
          have hDv4 : H4 D = some (.lst accV) := x4.keep D _ hDv3 D3 (fun _ => nofun)
          cases b with
          | false =>
            rw [if_neg Bool.false_ne_true] at hl ⊢
            exact ⟨rfl, hlt, F4, μ4, st4, acc, accV, (x2.trans x3).trans x4, r4, D4, DF4, hDv4, x4.rvs (x3.rvs racc), hl⟩
          | true =>
            rw [if_pos rfl] at hl ⊢
            split at hl
            · rename_i y5 st5 ee
              refine ⟨F4, μ4, env1, st4, r4, re'.mono x4, ?_⟩
              rw [ee]
              intro F5 μ5 H5 yv x5 r5 ry
              have c4 : H4 D ≠ none := by rw [hDv4]; exact fun z => nomatch z
              obtain ⟨D5, DF5⟩ := H1none x5 D4 DF4 c4
              have hDv5 : H5 D = some (.lst accV) := x5.keep D _ hDv4 D4 (fun _ => nofun)
              have hlen : acc.length + 1 ≤ l.length := by
                have := lcRun_len hl
                simpa using this
              refine ⟨accV, hDv5, ?_, ?_⟩
              · rw [← racc.length]; omega
              · refine ⟨rfl, hlt, F5, μ5, st5, acc ++ [y5], accV ++ [yv], Ext.lay (((x2.trans x3).trans x4).trans x5) hD Dm _, r5.lay D5 DF5 (nt_lst hDv5) _, D5, DF5, upd_same, (x5.rvs (x4.rvs (x3.rvs racc))).append (.cons ry .nil), hl⟩
            · cases hl
        · cases hl
    · cases hl
  · -- the end
    have hi' : i = wg.1.length := by omega
    rw [List.drop_eq_nil_of_le (by omega)] at hl
    unfold lcRun at hl
    split at hl
    · rename_i hg
      cases hl
      exact .inl ⟨(hJ F2 μ2 stf H2 x2.fr x2.pre r2 (gdB_ok hg) i).1 hi', mkL_at r2 x2 D2 DF2 hD hDv racc p1⟩
    · cases hl
end
end G

set_option Elab.async false
set_option linter.all false
set_option maxRecDepth 100000
set_option maxHeartbeats 4000000
namespace G
open PySem PySem.Spec PyProof.Rows L2

/-! ### a value out of the store: everything by value -/
mutual
/-- no reference to the store -/
def free : Va → Bool
  | .tup l => frees l
  | .lst l => frees l
  | .scr l => frees l
  | .dic _ l => frees l
  | .ref _ => false
  | _ => true
def frees : List Va → Bool
  | [] => true
  | x :: r => free x && frees r
end
def mapS (f : Va → Sto → Option (Va × Sto)) : List Va → Sto → Option (List Va × Sto)
  | [], st => some ([], st)
  | x :: r, st => match f x st with
    | some (y, st1) => match mapS f r st1 with
      | some (ys, st2) => some (y :: ys, st2)
      | none => none
    | none => none
def freezeN : Nat → Va → Sto → Option (Va × Sto)
  | 0, _, _ => none
  | n + 1, w, st => if free w then some (w, st) else match w with
    | .tup l => (mapS (freezeN n) l st).map fun p => (.tup p.1, p.2)
    | .lst l => (mapS (freezeN n) l st).map fun p => (.lst p.1, p.2)
    | .dic k l => (mapS (freezeN n) l st).map fun p => (.dic k p.1, p.2)
    | .ref p => match st[p]? with
      | some (some (.lst l)) => (mapS (freezeN n) l (st.set p none)).map fun q => (.lst q.1, q.2)
      | some (some (.dic k l)) => (mapS (freezeN n) l (st.set p none)).map fun q => (.dic k q.1, q.2)
      | _ => none
    | _ => none
section
variable {K : PySem.W.Frag} {ct : Ct} {F F' : Hp} {μ μ' : List Addr} {H : Hp}
mutual
theorem RV.free : ∀ {w : Va} {v : V}, RV K F μ w v → G.free w = true → RV K F [] w v
  | _, _, .non, _ => .non
  | _, _, .bl b, _ => .bl b
  | _, _, .int i, _ => .int i
  | _, _, .str x, _ => .str x
  | _, _, .tup h r, e => .tup h (RVs.frees r (by simpa [G.free] using e))
  | _, _, .lst h r, e => .lst h (RVs.frees r (by simpa [G.free] using e))
  | _, _, .scr h r, e => .scr h (RVs.frees r (by simpa [G.free] using e))
  | _, _, .dic h k r, e => .dic h k (RVs.frees r (by simpa [G.free] using e))
  | _, _, .ref h, e => by simp [G.free] at e
theorem RVs.frees : ∀ {ws : List Va} {vs : List V}, RVs K F μ ws vs → G.frees ws = true → RVs K F [] ws vs
  | _, _, .nil, _ => .nil
  | _, _, .cons r t, e => by
    simp only [G.frees, Bool.and_eq_true] at e
    exact .cons (RV.free r e.1) (RVs.frees t e.2)
end
/-- the frozen part has grown -/
def Frz (K : PySem.W.Frag) (ct : Ct) (F : Hp) (μ : List Addr) (H : Hp) (st st' : Sto) (P : Hp → Prop) : Prop := ∃ F', Ext F μ H F' μ H ∧ Rel K ct F' μ st' H ∧ P F' ∧ (∀ b, F' b ≠ none → F b ≠ none ∨ ∃ (q : Nat) (o : Ob), st[q]? = some (some o) ∧ μ[q]? = some b) ∧ ∀ (q : Nat) (o : Ob), st'[q]? = some (some o) → st[q]? = some (some o)
theorem Frz.id {K : PySem.W.Frag} {ct : Ct} {F : Hp} {μ : List Addr} {H : Hp} {st : Sto} {P : Hp → Prop} (r : Rel K ct F μ st H) (p : P F) : Frz K ct F μ H st st P := ⟨F, .refl, r, p, fun _ h => .inl h, fun _ _ h => h⟩
/-- two steps -/
theorem Frz.chain {K : PySem.W.Frag} {ct : Ct} {F F1 : Hp} {μ : List Addr} {H : Hp} {st st1 st2 : Sto} {P : Hp → Prop} (x1 : Ext F μ H F1 μ H) (n1 : ∀ b, F1 b ≠ none → F b ≠ none ∨ ∃ (q : Nat) (o : Ob), st[q]? = some (some o) ∧ μ[q]? = some b) (l1 : ∀ (q : Nat) (o : Ob), st1[q]? = some (some o) → st[q]? = some (some o)) (h : Frz K ct F1 μ H st1 st2 P) : Frz K ct F μ H st st2 P := by
  obtain ⟨F2, x2, r2, p2, n2, l2⟩ := h
  refine ⟨F2, x1.trans x2, r2, p2, fun b hb => ?_, fun q o e => l1 q o (l2 q o e)⟩
  rcases n2 b hb with z | ⟨q, o, z1, z2⟩
  · exact n1 b z
  · exact .inr ⟨q, o, l1 q o z1, z2⟩
theorem Frz.map {K : PySem.W.Frag} {ct : Ct} {F : Hp} {μ : List Addr} {H : Hp} {st st' : Sto} {P P' : Hp → Prop} (h : Frz K ct F μ H st st' P) (i : ∀ F', Ext F μ H F' μ H → P F' → P' F') : Frz K ct F μ H st st' P' := let ⟨F', x, r, p, n, l⟩ := h; ⟨F', x, r, i F' x p, n, l⟩
theorem set_live {st : Sto} {p : Nat} {q : Nat} {o : Ob} (e : (st.set p none)[q]? = some (some o)) : q ≠ p ∧ st[q]? = some (some o) := by
  by_cases hq : p = q
  · subst hq
    by_cases hp : p < st.length
    · rw [List.getElem?_set_self hp] at e; cases e
    · rw [List.getElem?_eq_none (by simpa using hp)] at e; cases e
  · rw [List.getElem?_set_ne hq] at e
    exact ⟨fun z => hq z.symm, e⟩
theorem mapS_ok {f : Va → Sto → Option (Va × Sto)} (ih : ∀ {F : Hp} {w w' : Va} {v : V} {st st' : Sto}, Rel K ct F μ st H → RV K F μ w v → f w st = some (w', st') → Frz K ct F μ H st st' fun F' => RV K F' [] w' v) :
    ∀ {ws ws' : List Va} {vs : List V} {F : Hp} {st st' : Sto}, Rel K ct F μ st H → RVs K F μ ws vs → mapS f ws st = some (ws', st') → Frz K ct F μ H st st' fun F' => RVs K F' [] ws' vs
  | _, _, _, F, st, st', r, .nil, h => by
    cases h
    exact .id r .nil
  | _, _, _, F, st, st', r, .cons h1 t, h => by
    unfold mapS at h
    split at h
    · rename_i y st1 e1
      split at h
      · rename_i ys st2 e2
        cases h
        obtain ⟨F1, x1, r1, q1, n1, l1⟩ := ih r h1 e1
        exact .chain x1 n1 l1 ((mapS_ok ih r1 (x1.rvs t) e2).map fun F' x q => .cons (q1.mono x.fr List.prefix_rfl) q)
      · cases h
    · cases h
theorem map_pair {α β γ : Type} {f : α × β → γ} {o : Option (α × β)} {y : γ} (h : o.map f = some y) : ∃ a b, o = some (a, b) ∧ f (a, b) = y := by
  obtain ⟨⟨a, b⟩, e, q⟩ := map_some h
  exact ⟨a, b, e, q⟩
theorem freezeN_ok : ∀ (n : Nat) {F : Hp} {w w' : Va} {v : V} {st st' : Sto}, Rel K ct F μ st H → RV K F μ w v → freezeN n w st = some (w', st') → Frz K ct F μ H st st' fun F' => RV K F' [] w' v
  | 0, _, _, _, _, _, _, _, _, h => by cases h
  | n + 1, F, w, w', v, st, st', r, rv, h => by
    unfold freezeN at h
    split at h
    · rename_i e
      cases h
      exact .id r (rv.free e)
    · cases rv with
      | tup hs rs =>
        obtain ⟨l, s, e, q⟩ := map_pair h
        cases q
        exact (mapS_ok (freezeN_ok n) r rs e).map fun F' x q => .tup (x.fr.tupl hs) q
      | lst hs rs =>
        obtain ⟨l, s, e, q⟩ := map_pair h
        cases q
        exact (mapS_ok (freezeN_ok n) r rs e).map fun F' x q => .lst (x.fr.sub _ _ hs) q
      | dic hs hk rs =>
        obtain ⟨l, s, e, q⟩ := map_pair h
        cases q
        exact (mapS_ok (freezeN_ok n) r rs e).map fun F' x q => .dic (x.fr.rd2 hs) hk q
      | @ref p a hp =>
        simp only at h
        split at h
        · rename_i l e0
          obtain ⟨l', s, e, q⟩ := map_pair h
          cases q
          cases r.obj _ _ _ e0 hp with
          | @lst _ vs0 h1 h2 =>
            have x0 := Ext.freeze r e0 hp (.lst vs0)
            have r0 := r.freeze e0 hp h1
            refine .chain x0 (fun b hb => ?_) (fun q o e => (set_live e).2) ((mapS_ok (freezeN_ok n) r0 (x0.rvs h2) e).map fun F' x q => .lst (x.fr.sub _ _ upd_same) q)
            by_cases z : b = a
            · exact .inr ⟨p, _, e0, by rw [z]; exact hp⟩
            · rw [upd_ne z] at hb; exact .inl hb
        · rename_i k l e0
          obtain ⟨l', s, e, q⟩ := map_pair h
          cases q
          cases r.obj _ _ _ e0 hp with
          | @dic _ _ kvs0 h1 hk h2 =>
            have x0 := Ext.freeze r e0 hp (.dK kvs0)
            have r0 := r.freeze e0 hp h1
            refine .chain x0 (fun b hb => ?_) (fun q o e => (set_live e).2) ((mapS_ok (freezeN_ok n) r0 (x0.rvs h2) e).map fun F' x q => .dic (x.fr.rd upd_same) hk q)
            by_cases z : b = a
            · exact .inr ⟨p, _, e0, by rw [z]; exact hp⟩
            · rw [upd_ne z] at hb; exact .inl hb
        · cases h
      | _ => cases h
theorem Rel.forget {st : Sto} (r : Rel K ct F μ st H) (p : Nat) : Rel K ct F μ (st.set p none) H :=
  ⟨r.sub0, by simp [r.len], fun q o a e1 e2 => r.obj q o a (set_live e1).2 e2, fun q o a e1 e2 => r.dis q o a (set_live e1).2 e2, fun q q' o o' a e1 e2 => r.inj q q' o o' a (set_live e1).2 (set_live e2).2, r.mtr, r.tabs⟩
/-- an object goes out of the store as it is, what it holds frozen -/
def takeO (p : Nat) (st : Sto) : Option Ob := match st[p]? with
  | some (some (.lst l)) => (mapS (freezeN 20) l (st.set p none)).map fun q => .lst q.1
  | some (some (.dic k l)) => (mapS (freezeN 20) l (st.set p none)).map fun q => .dic k q.1
  | _ => none
theorem takeO_ok {p : Nat} {a : Addr} {st : Sto} {ob : Ob} (r : Rel K ct F μ st H) (hp : μ[p]? = some a) (h : takeO p st = some ob) : ∃ F' st', Ext F μ H F' μ H ∧ Rel K ct F' μ st' H ∧ F' a = none ∧ RO K ct F' [] H a ob := by
  have fin : ∀ {F' : Hp} {o0 : Ob}, st[p]? = some (some o0) → (∀ b, F' b ≠ none → F b ≠ none ∨ ∃ (q : Nat) (o : Ob), (st.set p none)[q]? = some (some o) ∧ μ[q]? = some b) → F' a = none := fun {F' o0} e0 n => by
    cases q : F' a with
    | none => rfl
    | some u =>
      rcases n a (by rw [q]; exact fun z => nomatch z) with z | ⟨q', o, z1, z2⟩
      · exact absurd (r.dis p o0 a e0 hp) z
      · obtain ⟨z3, z4⟩ := set_live z1
        exact absurd (r.inj q' p o o0 a z4 e0 z2 hp) z3
  unfold takeO at h
  split at h
  · rename_i l e0
    obtain ⟨l', s, e, q⟩ := map_pair h
    cases q
    cases r.obj _ _ _ e0 hp with
    | @lst _ vs0 h1 h2 =>
      obtain ⟨F', x, r', q, n, _⟩ := mapS_ok (freezeN_ok 20) (r.forget p) h2 e
      exact ⟨F', _, x, r', fin e0 n, .lst h1 q⟩
  · rename_i k l e0
    obtain ⟨l', s, e, q⟩ := map_pair h
    cases q
    cases r.obj _ _ _ e0 hp with
    | @dic _ _ kvs0 h1 hk h2 =>
      obtain ⟨F', x, r', q, n, _⟩ := mapS_ok (freezeN_ok 20) (r.forget p) h2 e
      exact ⟨F', _, x, r', fin e0 n, .dic h1 hk q⟩
  · cases h
end

/-! ### calls of defs -/
mutual
/-- nothing that could be changed: no list, no dict -/
def flat : Va → Bool
  | .tup l => flats l
  | .lst _ => false
  | .scr _ => false
  | .dic _ _ => false
  | .ref _ => false
  | _ => true
def flats : List Va → Bool
  | [] => true
  | x :: r => flat x && flats r
end
mutual
theorem RV.flat {K : PySem.W.Frag} {F F' : Hp} {μ μ' : List Addr} (h : ∀ a xs, SqT K F a xs → SqT K F' a xs) : ∀ {w : Va} {v : V}, RV K F μ w v → G.flat w = true → RV K F' μ' w v
  | _, _, .non, _ => .non
  | _, _, .bl b, _ => .bl b
  | _, _, .int i, _ => .int i
  | _, _, .str x, _ => .str x
  | _, _, .tup hs r, e => .tup (h _ _ hs) (RVs.flats h r (by simpa [G.flat] using e))
  | _, _, .lst hs r, e => by simp [G.flat] at e
  | _, _, .scr hs r, e => by simp [G.flat] at e
  | _, _, .dic hs k r, e => by simp [G.flat] at e
  | _, _, .ref hs, e => by simp [G.flat] at e
theorem RVs.flats {K : PySem.W.Frag} {F F' : Hp} {μ μ' : List Addr} (h : ∀ a xs, SqT K F a xs → SqT K F' a xs) : ∀ {ws : List Va} {vs : List V}, RVs K F μ ws vs → G.flats ws = true → RVs K F' μ' ws vs
  | _, _, .nil, _ => .nil
  | _, _, .cons r t, e => by
    simp only [G.flats, Bool.and_eq_true] at e
    exact .cons (RV.flat h r e.1) (RVs.flats h t e.2)
end
def flatX (x : Exc) : Bool := x.fs.all fun p => flat p.2
abbrev Fn := List Va → R Va
/-- the mark of a thing that the def has made itself: a list, a dict that nobody else knows -/
def freshO (w : Va) (s : Sto) : Option Ob := match s, w with
  | [none], .lst l => some (.lst l)
  | [none], .dic k l => some (.dic k l)
  | _, _ => none
/-- nothing in it could be a thing of the caller's -/
def flatF (w : Va) (s : Sto) : Bool := match freshO w s with
  | some (.lst l) => flats l
  | some (.dic _ l) => flats l
  | _ => flat w
/-- what is handed over: by value; or into the store, if it is fresh -/
def takenV (m : Bool) (w : Va) (s st : Sto) : R Va := if m then match freshO w s with
    | some ob => .ok (.ref st.length) (st ++ [some ob])
    | none => if flat w then .ok w st else .stuck
  else .ok w st
/-- no dict among what was handed over -/
def lentB (st st' : Sto) : Bool := (st.zip st').all fun p => match p with
  | (some (.dic _ _), none) => false
  | _ => true
theorem lentB_at {st st' : Sto} (h : lentB st st' = true) {p : Nat} {o : Ob} (e1 : st[p]? = some (some o)) (e2 : st'[p]? = some none) : ∀ k l, o ≠ .dic k l := fun k l z => by
  subst z
  unfold lentB at h
  have hm : (some (Ob.dic k l), (none : Option Ob)) ∈ st.zip st' := by
    refine List.mem_of_getElem? (i := p) ?_
    rw [List.getElem?_zip_eq_some]
    exact ⟨e1, e2⟩
  exact absurd (List.all_eq_true.mp h _ hm) (by simp)
/-- a def that sees its arguments alone: a list of the caller's store that is handed over is the caller's no more, unless nothing that comes back could be it -/
def callP (m : Bool) (φ : Fn) (ws : List Va) (st : Sto) : R Va :=
  if frees ws then match φ ws with
    | .ok w s => takenV m w s st
    | .err x _ => .err x st
    | .stuck => .stuck
  else match mapS (freezeN 20) ws st with
    | none => .stuck
    | some (ws', st') => match φ ws' with
      | .ok w s => takenV m w s (if (flatF w s && lentB st st') = true then st else st')
      | .err x _ => if (flatX x && lentB st st') = true then .err x st else .err x st'
      | .stuck => .stuck
/-- what such a def promises -/
def spP (K : PySem.W.Frag) (ct : Ct) (φ : Fn) : Sp := fun vs H Q E => ∃ F ws, Wk F H ∧ (∀ P, P ∈ ct.tps → GxR.TabG H P ∧ F P = none) ∧ RVs K F [] ws vs ∧ match φ ws with
  | .ok w s => match freshO w s with
    | some ob => ∀ F' H' a, Ext F [] H F' [] H' → Wk F' H' → H a = none → F' a = none → RO K ct F' [] H' a ob → Q (.ref a) H'
    | none => ∀ F' H' v, Ext F [] H F' [] H' → Wk F' H' → RV K F' [] w v → Q v H'
  | .err x _ => ∀ F' H' cls d, Ext F [] H F' [] H' → Wk F' H' → RX K ct F' [] x cls d → E cls d H'
  | .stuck => False
section
variable {K : PySem.W.Frag} {ct : Ct} {F F1 F' : Hp} {μ : List Addr} {H H' : Hp} {st st1 : Sto}
theorem Ext.own (x : Ext F [] H F' [] H') : Ext F μ H F' μ H' :=
  by
  refine ⟨x.fr, List.prefix_rfl, fun a o e _ => x.keep0 a o e (by simp), x.tab, fun a e => ?_, fun a m => .inl m, x.there⟩
  rcases x.new a e with z | z | z
  · exact .inl z
  · exact .inr (.inl z)
  · cases z
theorem tab_new (x : Ext F [] H F' [] H') {P : Addr} (h : GxR.TabG H P ∧ F P = none) : GxR.TabG H' P ∧ F' P = none := by
  refine ⟨x.tab P h.1, ?_⟩
  cases q : F' P with
  | none => rfl
  | some u =>
    rcases x.new P (by rw [q]; exact fun z => nomatch z) with z | z | z
    · exact absurd h.2 z
    · obtain ⟨ps, e, _⟩ := h.1
      rw [e] at z; cases z
    · cases z
theorem nt_hmut {u : HO} (m : Mut (some u)) : ∀ ps, u ≠ .tbl ps := fun ps e => by subst e; exact m
theorem Rel.after (r : Rel K ct F μ st H) (x : Ext F [] H F' [] H') (s : Wk F' H') : Rel K ct F' μ st H' := by
  refine ⟨s, r.len, fun p o a e1 e2 => ?_, fun p o a e1 e2 => ?_, r.inj, fun a m => x.there a (r.mtr a m), fun P m => tab_new x (r.tabs P m)⟩
  · have q := r.obj p o a e1 e2
    obtain ⟨u, hu, mu⟩ := q.there
    exact q.mono x.fr List.prefix_rfl ((x.keep a u hu (by simp) (nt_hmut mu) (.inl (r.dis p o a e1 e2))).trans hu.symm)
  · obtain ⟨u, hu, _⟩ := (r.obj p o a e1 e2).there
    cases q : F' a with
    | none => rfl
    | some o' =>
      rcases x.new a (by rw [q]; exact fun z => nomatch z) with z | z | z
      · exact absurd (r.dis p o a e1 e2) z
      · rw [hu] at z; cases z
      · cases z
theorem lent_ok (r : Rel K ct F μ st H) (r1 : Rel K ct F1 μ st1 H) (hb : lentB st st1 = true) : ∀ (p : Nat) (o : Ob) (a : Addr), st[p]? = some (some o) → μ[p]? = some a → F1 a = none ∨ ∀ kvs, H a ≠ some (.dK kvs) := fun p o a e1 e2 => by
  have hp := (List.getElem?_eq_some_iff.mp e1).1
  obtain ⟨x, hx⟩ : ∃ x, st1[p]? = some x := ⟨_, List.getElem?_eq_getElem (by rw [r1.len, ← r.len]; exact hp)⟩
  cases x with
  | some o' => exact .inl (r1.dis p o' a hx e2)
  | none =>
    refine .inr fun kvs z => ?_
    have hn := lentB_at hb e1 hx
    cases r.obj p o a e1 e2 with
    | lst h1 _ => rw [h1] at z; cases z
    | dic _ _ _ => exact hn _ _ rfl
    | ins _ h1 _ _ => rw [h1] at z; cases z
/-- the callee's frozen part less what was lent to it -/
theorem lent (r : Rel K ct F μ st H) (r1 : Rel K ct F1 μ st1 H) (x1 : Ext F μ H F1 μ H) (x : Ext F1 [] H F' [] H') (s : Wk F' H') (hz : ∀ (p : Nat) (o : Ob) (a : Addr), st[p]? = some (some o) → μ[p]? = some a → F1 a = none ∨ ∀ kvs, H a ≠ some (.dK kvs)) :
    ∃ F2, Ext F μ H F2 μ H' ∧ Rel K ct F2 μ st H' ∧ (∀ a xs, SqT K F' a xs → SqT K F2 a xs) ∧ Same F2 F' ∧ ∀ a fs, F' a = some (.xd fs) → F2 a = some (.xd fs) := by
  have lv : ∀ a, (∃ (p : Nat) (o : Ob), st[p]? = some (some o) ∧ μ[p]? = some a) → ∃ u, H a = some u ∧ Mut (some u) ∧ F a = none := fun a ⟨p, o, e1, e2⟩ => by
    obtain ⟨u, hu, mu⟩ := (r.obj p o a e1 e2).there
    exact ⟨u, hu, mu, r.dis p o a e1 e2⟩
  classical
  refine ⟨fun a => if ∃ (p : Nat) (o : Ob), st[p]? = some (some o) ∧ μ[p]? = some a then none else F' a, ?_⟩
  have sub : Same (fun a => if ∃ (p : Nat) (o : Ob), st[p]? = some (some o) ∧ μ[p]? = some a then none else F' a) F' := fun a u e => by
    simp only at e
    split at e
    · cases e
    · exact e
  have keepF : ∀ a u, F' a = some u → ¬ (Mut (some u)) → (if ∃ (p : Nat) (o : Ob), st[p]? = some (some o) ∧ μ[p]? = some a then none else F' a) = some u := fun a u e nm => by
    split
    · rename_i hl
      obtain ⟨u', hu, mu, _⟩ := lv a hl
      obtain ⟨p, o, e1, e2⟩ := hl
      have hH' : H' a = some u' := x.keep a u' hu (by simp) (nt_hmut mu) ((hz p o a e1 e2).imp id fun z kvs y => z kvs (by rw [hu, y]))
      rcases s a u e with q | ⟨ob, kvs, q, q2⟩
      · rw [q] at hH'
        cases hH'
        exact absurd mu nm
      · rw [q] at nm
        exact absurd trivial nm
    · exact e
  have frF : Wk F (fun a => if ∃ (p : Nat) (o : Ob), st[p]? = some (some o) ∧ μ[p]? = some a then none else F' a) := fun a u e => by
    simp only
    split
    · rename_i hl
      obtain ⟨_, _, _, z⟩ := lv a hl
      rw [e] at z; cases z
    · exact (x1.fr.trans x.fr) a u e
  refine ⟨⟨frF, List.prefix_rfl, fun a o e n nt => ?_, x.tab, fun a e => ?_, fun a m => .inl m, x.there⟩, ⟨fun a u e => s a u (sub a u e), r.len, fun p o a e1 e2 => ?_, fun p o a e1 e2 => ?_, r.inj, fun a m => x.there a (r.mtr a m), fun P m => ⟨(tab_new x (r1.tabs P m)).1, ?_⟩⟩, fun a xs h => ?_, sub, fun a fs e => keepF a _ e fun z => z⟩
  · rcases x.keep0 a o e (by simp) nt with q | ⟨ob, kvs, rfl, q1, q2⟩
    · exact .inl q
    · refine .inr ⟨ob, kvs, rfl, ?_, q2⟩
      rcases x1.new a (by rw [q1]; exact fun z => nomatch z) with z | z | z
      · cases e9 : F a with
        | none => exact absurd e9 z
        | some u =>
          rcases x1.fr a u e9 with q9 | ⟨_, _, _, q9⟩
          · rw [q9] at q1; exact q1
          · rw [q9] at q1; cases q1
      · rw [e] at z; cases z
      · exact absurd z n
  · split at e
    · exact absurd rfl e
    · rcases x.new a e with z | z | z
      · rcases x1.new a z with z | z | z
        · exact .inl z
        · exact .inr (.inl z)
        · exact .inr (.inr z)
      · exact .inr (.inl z)
      · cases z
  · have q := r.obj p o a e1 e2
    obtain ⟨u, hu, mu⟩ := q.there
    exact q.mono frF List.prefix_rfl ((x.keep a u hu (by simp) (nt_hmut mu) ((hz p o a e1 e2).imp id fun z kvs y => z kvs (by rw [hu, y]))).trans hu.symm)
  · exact if_pos ⟨p, o, e1, e2⟩
  · cases q : (if ∃ (p : Nat) (o : Ob), st[p]? = some (some o) ∧ μ[p]? = some P then none else F' P) with
    | none => rfl
    | some u => have e := sub P u q; rw [(tab_new x (r1.tabs P m)).2] at e; cases e
  · rcases h with (h | ⟨o, h⟩) | h
    · exact .inl (.inl (keepF a _ h fun z => z))
    · exact .inl (.inr ⟨o, keepF a _ h fun z => z⟩)
    · exact .inr h
end

/-! ### a def that changes its last argument: told by value, the thing behind -/
def obV : Ob → Option Va
  | .lst l => if G.frees l then some (.lst l) else none
  | .dic k l => if G.frees l then some (.dic k l) else none
  | _ => none
def obOf : Va → Option Ob
  | .lst l => some (.lst l)
  | .dic k l => some (.dic k l)
  | _ => none
def callM (φ : Fn) (ws : List Va) (st : Sto) : R Va := match ws.getLast? with
  | some (.ref p) => if G.frees ws.dropLast then (match st[p]? with
    | some (some ob) => (match obV ob with
      | some v => (match φ (ws.dropLast ++ [v]) with
        | .ok (.tup [w, v']) _ => (match obOf v' with
          | some ob' => if G.free w = true ∧ (obV ob').isSome = true then .ok w (st.set p (some ob')) else .stuck
          | none => .stuck)
        | _ => .stuck)
      | none => .stuck)
    | _ => .stuck) else .stuck
  | _ => .stuck
def spM (K : PySem.W.Frag) (ct : Ct) (φ : Fn) : Sp := fun vs H Q E => ∃ F ws a ob v, Wk F H ∧ (∀ P, P ∈ ct.tps → GxR.TabG H P ∧ F P = none) ∧ F a = none ∧ G.frees ws = true ∧ RVs K F [a] (ws ++ [.ref 0]) vs ∧ RO K ct F [a] H a ob ∧ obV ob = some v ∧
  ∃ w v' s ob', φ (ws ++ [v]) = .ok (.tup [w, v']) s ∧ obOf v' = some ob' ∧ G.free w = true ∧ (obV ob').isSome = true ∧ ∀ F' H' u, Ext F [a] H F' [a] H' → Wk F' H' → F' a = none → RO K ct F' [a] H' a ob' → RV K F' [] w u → Q u H'
def mk7 : List Str := ["", "", "", "", "", "", ""]
def isM (ks : List Str) : Bool := ks.length == 7
def ksOf (ks : List Str) : List Str := if 7 ≤ ks.length then [] else ks
/-- a def that sees the caller's store: a plain one, a method -/
def mk8 : List Str := ["", "", "", "", "", "", "", ""]
def mkt (C m : Str) : List Str := [C, m, "", "", "", "", "", "", ""]
def isI (ks : List Str) : Bool := ks.length == 8 || ks.length == 9
def isMt (ks : List Str) : Bool := ks.length == 9
def mcl (ks : List Str) : Str := ks.getD 0 ""
def mnm (ks : List Str) : Str := ks.getD 1 ""
abbrev Fi := List Va → Sto → R Va
def spI (K : PySem.W.Frag) (ct : Ct) (φ : Fi) : Sp := fun vs H Q E => ∃ F μ ws st, Rel K ct F μ st H ∧ RVs K F μ ws vs ∧ match φ ws st with
  | .ok w st' => ∀ F' μ' H' v, Ext F μ H F' μ' H' → Rel K ct F' μ' st' H' → RV K F' μ' w v → Q v H'
  | .err x st' => ∀ F' μ' H' cls d, Ext F μ H F' μ' H' → Rel K ct F' μ' st' H' → RX K ct F' μ' x cls d → E cls d H'
  | .stuck => False
section
variable {K : PySem.W.Frag} {ct : Ct} {F F' : Hp} {μ μ2 : List Addr} {H H' : Hp} {st : Sto}
theorem ro_free {a : Addr} {ob : Ob} (h : RO K ct F μ H a ob) (e : (obV ob).isSome = true) : RO K ct F μ2 H a ob := by
  cases h with
  | @lst ws _ h1 h2 =>
    have hf : G.frees ws = true := by
      simp only [obV] at e
      by_cases hf : G.frees ws = true
      · exact hf
      · rw [if_neg hf] at e
        cases e
    exact .lst h1 ((h2.frees hf).mono (.refl _) List.nil_prefix)
  | @dic ks ws _ h1 hk h2 =>
    have hf : G.frees ws = true := by
      simp only [obV] at e
      by_cases hf : G.frees ws = true
      · exact hf
      · rw [if_neg hf] at e
        cases e
    exact .dic h1 hk ((h2.frees hf).mono (.refl _) List.nil_prefix)
  | ins _ _ _ _ => cases e
theorem rvs_snoc : ∀ {ws : List Va} {w : Va} {vs : List V}, RVs K F μ (ws ++ [w]) vs → ∃ vs' v, vs = vs' ++ [v] ∧ RVs K F μ ws vs' ∧ RV K F μ w v
  | [], w, _, .cons h .nil => ⟨[], _, rfl, .nil, h⟩
  | x :: ws, w, _, .cons h t => by
    obtain ⟨vs', v, e, a, b⟩ := rvs_snoc t
    exact ⟨_ :: vs', v, by rw [e]; rfl, .cons h a, b⟩
theorem callM_of {W : WX} {φ : Fn} {σ : L2.St} {ws : List Va} {vs : List V} {Q : VK} (r : Rel K ct F μ st H) (rs : RVs K F μ ws vs) (p : GPost K ct W (RV K) σ F μ H Q (callM φ ws st)) : spM K ct φ vs H Q (fun cls d H => W cls d σ H) := by
  unfold callM at p
  split at p
  case h_2 => exact p.elim
  rename_i q hlast
  obtain ⟨ws', rfl⟩ := List.getLast?_eq_some_iff.mp hlast
  rw [List.dropLast_concat] at p
  split at p
  case isFalse => exact p.elim
  rename_i hf
  split at p
  case h_2 => exact p.elim
  rename_i ob hob
  split at p
  case h_2 => exact p.elim
  rename_i v hv
  split at p
  case h_2 => exact p.elim
  rename_i w v' s hφ
  split at p
  case h_2 => exact p.elim
  rename_i ob' ho
  split at p
  case isFalse => exact p.elim
  rename_i hfr
  obtain ⟨vs', x, rfl, r1, r2⟩ := rvs_snoc rs
  cases r2 with
  | @ref _ a ha =>
  have ro := r.obj q ob a hob ha
  have hFa := r.dis q ob a hob ha
  refine ⟨F, ws', a, ob, v, r.sub0, r.tabs, hFa, hf, ((r1.frees hf).mono (.refl _) List.nil_prefix).append (.cons (.ref rfl) .nil), ro_free ro (by rw [hv]; rfl), hv, w, v', s, ob', hφ, ho, hfr.1, hfr.2, fun F' H' u x s' hFa' ro' rv => ?_⟩
  have hq : q < st.length := (List.getElem?_eq_some_iff.mp hob).1
  have ham : a ∈ μ := List.mem_of_getElem? ha
  have old : ∀ {i : Nat} {o : Ob}, (st.set q (some ob'))[i]? = some (some o) → (i = q ∧ o = ob') ∨ (i ≠ q ∧ st[i]? = some (some o)) := fun {i o} e => by
    by_cases z : q = i
    · subst z
      rw [List.getElem?_set_self hq] at e
      cases e
      exact .inl ⟨rfl, rfl⟩
    · rw [List.getElem?_set_ne z] at e
      exact .inr ⟨fun y => z y.symm, e⟩
  have live : ∀ {i : Nat} {o : Ob}, (st.set q (some ob'))[i]? = some (some o) → ∃ o0, st[i]? = some (some o0) := fun {i o} e => by
    rcases old e with ⟨z, _⟩ | ⟨_, z⟩
    · rw [z]; exact ⟨ob, hob⟩
    · exact ⟨o, z⟩
  have other : ∀ {i : Nat} {o : Ob} {b : Addr}, i ≠ q → st[i]? = some (some o) → μ[i]? = some b → b ≠ a := fun {i o b} hi e1 e2 z => by
    rw [z] at e2
    exact hi (r.inj i q o ob a e1 hob e2 ha)
  refine p F' μ H' u ⟨x.fr, List.prefix_rfl, fun b o e hb nt => x.keep0 b o e (fun z => ?_) nt, x.tab, fun b e => ?_, fun b m => .inl m, x.there⟩ ⟨s', by rw [List.length_set]; exact r.len, fun i o b e1 e2 => ?_, fun i o b e1 e2 => ?_, fun i j o1 o2 b e1 e2 e3 e4 => ?_, fun b m => x.there b (r.mtr b m), fun P m => ⟨x.tab P (r.tabs P m).1, ?_⟩⟩ (rv.mono (.refl _) List.nil_prefix)
  · rw [List.mem_singleton.mp z] at hb
    exact hb ham
  · rcases x.new b e with z | z | z
    · exact .inl z
    · exact .inr (.inl z)
    · rw [List.mem_singleton.mp z]
      exact .inr (.inr ham)
  · rcases old e1 with ⟨z, rfl⟩ | ⟨z, e3⟩
    · subst z
      rw [ha] at e2
      cases e2
      exact ro_free ro' hfr.2
    · have hb := other z e3 e2
      have q1 := r.obj i o b e3 e2
      obtain ⟨u1, hu, mu⟩ := q1.there
      exact q1.mono x.fr List.prefix_rfl ((x.keep b u1 hu (fun y => hb (List.mem_singleton.mp y)) (nt_hmut mu) (.inl (r.dis i o b e3 e2))).trans hu.symm)
  · rcases old e1 with ⟨z, _⟩ | ⟨z, e3⟩
    · subst z
      rw [ha] at e2
      cases e2
      exact hFa'
    · have hb := other z e3 e2
      obtain ⟨u1, hu, _⟩ := (r.obj i o b e3 e2).there
      cases q2 : F' b with
      | none => rfl
      | some o' =>
        rcases x.new b (by rw [q2]; exact fun z => nomatch z) with y | y | y
        · exact absurd (r.dis i o b e3 e2) y
        · rw [hu] at y; cases y
        · exact absurd (List.mem_singleton.mp y) hb
  · obtain ⟨o3, l1⟩ := live e1
    obtain ⟨o4, l2⟩ := live e2
    exact r.inj i j o3 o4 b l1 l2 e3 e4
  · obtain ⟨ps, e5, _⟩ := (r.tabs P m).1
    cases q2 : F' P with
    | none => rfl
    | some o' =>
      rcases x.new P (by rw [q2]; exact fun z => nomatch z) with y | y | y
      · exact absurd (r.tabs P m).2 y
      · rw [e5] at y; cases y
      · rw [List.mem_singleton.mp y] at e5
        obtain ⟨u1, hu, mu⟩ := ro.there
        rw [hu] at e5
        cases e5
        exact mu.elim
end
/-- what is known of a def that may be called -/
def KB (fd : FuncData) (ps ks : List Str) : Prop := ∀ us ws : List Value, us.length + ks.length = ps.length → ws.length = ks.length → bindArgs fd ⟨us, ks.zip ws⟩ = pure (ps.zip (us ++ ws))
theorem KB.binds {K : PySem.W.Frag} {fd : FuncData} {ps : List Str} (h : KB fd ps []) : Binds K fd ps [] := .all fun us hl => by
  have := h us [] (by simpa using hl) rfl
  rw [List.append_nil] at this
  exact this
/-- where it stands: a name of the module; a class's def -/
def AtF (K : PySem.W.Frag) (mg : Str → Option Value) (ct : Ct) (ks : List Str) (f : Str) (a : Addr) : Prop := if isMt ks = true then ∃ C, ct.own (mcl ks).cps.toList = some C ∧ Cls K C ∧ Meth K C (mnm ks) a ∧ (mnm ks = "__init__" → Mk K C a ∧ mg (mcl ks) = some (.ref C)) else mg f = some (.ref a)
def spF (K : PySem.W.Frag) (ct : Ct) (ks : List Str) (φ : Fn) (φi : Fi) : Sp := if isM ks = true then spM K ct φ else if isI ks = true then spI K ct φi else spP K ct φ
structure FnC (P : Program) (w : World) (K : PySem.W.Frag) (mg : Str → Option Value) (base : Heap) (ct : Ct) (k : Nat) (ks : List Str) (f : Str) (φ : Fn) (φi : Fi) : Prop where
  ex : ∃ (a : Addr) (fd : FuncData) (ps : List Str), AtF K mg ct ks f a ∧ PySem.W.keepIn K (.ref a) = true ∧ KB fd ps (ksOf ks) ∧ FnOk P w K mg base (L2.CX P w) k a fd ps (spF K ct ks φ φi)
theorem lookup_mem {α : Type} {n : Tx} {w : α} : ∀ {l : List (Tx × α)}, l.lookup n = some w → (n, w) ∈ l
  | [], h => by simp at h
  | (m, v) :: r, h => by
    rw [List.lookup_cons] at h
    split at h
    · rename_i e
      rw [Option.some.inj h, eq_of_beq e]
      exact List.mem_cons_self
    · exact List.mem_cons_of_mem _ (lookup_mem h)
section
variable {K : PySem.W.Frag} {ct : Ct} {F F' : Hp} {μ : List Addr} {H H' : Hp} {st : Sto}
theorem Rel.join {a : Addr} {ob : Ob} (r : Rel K ct F μ st H) (hF : F a = none) (hm : a ∉ μ) (o : RO K ct F μ H a ob) : Rel K ct F (μ ++ [a]) (st ++ [some ob]) H := by
  have hl := r.len
  have old : ∀ {q : Nat} {o' : Ob} {b : Addr}, (st ++ [some ob])[q]? = some (some o') → (μ ++ [a])[q]? = some b → (st[q]? = some (some o') ∧ μ[q]? = some b) ∨ (q = st.length ∧ b = a ∧ o' = ob) := fun {q o' b} e1 e2 => by
    by_cases hq : q < st.length
    · rw [List.getElem?_append_left hq] at e1
      rw [List.getElem?_append_left (by omega)] at e2
      exact .inl ⟨e1, e2⟩
    · have hq2 : q = st.length := by
        have := (List.getElem?_eq_some_iff.mp e1).1
        simp at this
        omega
      subst hq2
      rw [List.getElem?_append_right (Nat.le_refl _)] at e1
      rw [List.getElem?_append_right (by omega)] at e2
      simp at e1
      rw [hl] at e2
      simp at e2
      exact .inr ⟨rfl, e2.symm, e1.symm⟩
  refine ⟨r.sub0, by simp [hl], fun q o' b e1 e2 => ?_, fun q o' b e1 e2 => ?_, fun q q' o1 o2 b e1 e2 e3 e4 => ?_, fun b hb => ?_, r.tabs⟩
  · rcases old e1 e2 with ⟨z1, z2⟩ | ⟨_, z2, z3⟩
    · exact (r.obj q o' b z1 z2).mono (.refl _) (List.prefix_append _ _) rfl
    · rw [z2, z3]
      exact o.mono (.refl _) (List.prefix_append _ _) rfl
  · rcases old e1 e2 with ⟨z1, z2⟩ | ⟨_, z2, z3⟩
    · exact r.dis q o' b z1 z2
    · rw [z2]; exact hF
  · rcases old e1 e3 with ⟨z1, z2⟩ | ⟨y1, y2, _⟩
    · rcases old e2 e4 with ⟨z3, z4⟩ | ⟨y1, y2, _⟩
      · exact r.inj q q' o1 o2 b z1 z3 z2 z4
      · exact absurd (List.mem_of_getElem? z2) (by rw [y2]; exact hm)
    · rcases old e2 e4 with ⟨z3, z4⟩ | ⟨y3, y4, _⟩
      · exact absurd (List.mem_of_getElem? z4) (by rw [y2]; exact hm)
      · rw [y1, y3]
  · rcases List.mem_append.mp hb with z | z
    · exact r.mtr b z
    · rw [List.mem_singleton.mp z]
      obtain ⟨u, hu, _⟩ := o.there
      rw [hu]; exact fun z => nomatch z
theorem Ext.join {a : Addr} (x : Ext F μ H F' μ H') (hH : H a = none) : Ext F μ H F' (μ ++ [a]) H' := by
  refine ⟨x.fr, List.prefix_append _ _, x.keep0, x.tab, x.new, fun b hb => ?_, x.there⟩
  rcases List.mem_append.mp hb with z | z
  · exact x.mnew b z
  · rw [List.mem_singleton.mp z]; exact .inr hH
/-- a fresh thing, by value -/
theorem fresh_val {w : Va} {s : Sto} {a : Addr} {ob : Ob} (e : freshO w s = some ob) (o : RO K ct F [] H a ob) (hF : F a = none) (hs : Wk F H) : ∃ F2, Wk F F2 ∧ Wk F2 H ∧ (∀ b, F2 b ≠ none → F b ≠ none ∨ b = a) ∧ RV K F2 [] w (.ref a) := by
  obtain ⟨u, hu, _⟩ := o.there
  refine ⟨upd F a u, same_upd hF, hs.left hu, fun b hb => ?_, ?_⟩
  · by_cases z : b = a
    · exact .inr z
    · rw [upd_ne z] at hb; exact .inl hb
  · unfold freshO at e
    split at e
    · cases e
      cases o with
      | lst h1 h2 =>
        rw [hu] at h1; cases h1
        exact .lst upd_same (h2.mono (same_upd hF) List.prefix_rfl)
    · cases e
      cases o with
      | dic h1 hk h2 =>
        rw [hu] at h1; cases h1
        exact .dic (.inl upd_same) hk (h2.mono (same_upd hF) List.prefix_rfl)
    · cases e
end
section
variable {X : Cx} {ct : Ct} {W : WX}
theorem taken_of {K : PySem.W.Frag} {m : Bool} {w : Va} {s : Sto} {F : Hp} {μ : List Addr} {H : Hp} {st st0 : Sto} {σ : L2.St} {Q : VK} (r0 : Rel K ct F μ st0 H) (p : GPost K ct W (RV K) σ F μ H Q (takenV m w s st)) :
    match freshO w s with
    | some ob => ∀ F' H' a, Ext F μ H F' μ H' → Rel K ct F' μ st H' → H a = none → F' a = none → RO K ct F' [] H' a ob → Q (.ref a) H'
    | none => ∀ F' H' v, Ext F μ H F' μ H' → Rel K ct F' μ st H' → RV K F' [] w v → Q v H' := by
  unfold takenV at p
  cases e : freshO w s with
  | none =>
    rw [e] at p
    cases m with
    | true =>
      simp only [if_true] at p
      split at p
      · exact fun F' H' v x r rv => p F' μ H' v x r (rv.mono (.refl _) List.nil_prefix)
      · exact p.elim
    | false => exact fun F' H' v x r rv => p F' μ H' v x r (rv.mono (.refl _) List.nil_prefix)
  | some ob =>
    rw [e] at p
    intro F' H' a x r hH hF o
    have hm : a ∉ μ := fun z => r0.mtr a z hH
    cases m with
    | true =>
      refine p F' (μ ++ [a]) H' (.ref a) (x.join hH) (r.join hF hm (o.mono (.refl _) List.nil_prefix rfl)) (.ref ?_)
      rw [r.len, List.getElem?_append_right (Nat.le_refl _)]
      simp
    | false =>
      obtain ⟨F2, y1, y2, y3, y4⟩ := fresh_val e o hF r.sub0
      refine p F2 μ H' (.ref a) ⟨x.fr.trans y1, x.pre, x.keep0, x.tab, fun b hb => ?_, x.mnew, x.there⟩ ⟨y2, r.len, fun q o' b e1 e2 => (r.obj q o' b e1 e2).mono y1 List.prefix_rfl rfl, fun q o' b e1 e2 => ?_, r.inj, r.mtr, fun P m => ⟨(r.tabs P m).1, ?_⟩⟩ (y4.mono (.refl _) List.nil_prefix)
      · rcases y3 b hb with z | z
        · exact x.new b z
        · rw [z]; exact .inr (.inl hH)
      · cases q2 : F2 b with
        | none => rfl
        | some u =>
          rcases y3 b (by rw [q2]; exact fun z => nomatch z) with z | z
          · exact absurd (r.dis q o' b e1 e2) z
          · rw [z] at e2; exact absurd (List.mem_of_getElem? e2) hm
      · cases q2 : F2 P with
        | none => rfl
        | some u =>
          rcases y3 P (by rw [q2]; exact fun z => nomatch z) with z | z
          · exact absurd (r.tabs P m).2 z
          · obtain ⟨ps, e5, _⟩ := (r0.tabs P m).1
            rw [z, hH] at e5; cases e5
theorem callP_of {K : PySem.W.Frag} {m : Bool} {φ : Fn} {F : Hp} {μ : List Addr} {H : Hp} {st : Sto} {σ : L2.St} {ws : List Va} {vs : List V} {Q : VK} (r : Rel K ct F μ st H) (rs : RVs K F μ ws vs) (p : GPost K ct W (RV K) σ F μ H Q (callP m φ ws st)) : spP K ct φ vs H Q (fun cls d H => W cls d σ H) := by
  unfold callP at p
  split at p
  · rename_i hf
    refine ⟨F, ws, r.sub0, r.tabs, rs.frees hf, ?_⟩
    cases e : φ ws with
    | ok w s =>
      rw [e] at p
      have t := taken_of r p
      cases ef : freshO w s with
      | none => rw [ef] at t; exact (by simp only [ef]; exact fun F' H' v x s' rv => t F' H' v x.own (r.after x s') rv)
      | some ob => rw [ef] at t; exact (by simp only [ef]; exact fun F' H' a x s' hH hF o => t F' H' a x.own (r.after x s') hH hF o)
    | err y s =>
      rw [e] at p
      exact fun F' H' c d x s rx => p F' μ H' c d x.own (r.after x s) ⟨rx.cls, fun n w h => let ⟨d', fvs, v, h1, h2, h3, h4⟩ := rx.fs n w h; ⟨d', fvs, v, h1, h2, h3, h4.mono (.refl _) List.nil_prefix⟩, rx.dd⟩
    | stuck => rw [e] at p; exact p
  split at p
  · exact p.elim
  · rename_i ws' st' em
    obtain ⟨F1, x1, r1, rs1, _, _⟩ := mapS_ok (freezeN_ok 20) r rs em
    refine ⟨F1, ws', r1.sub0, r1.tabs, rs1, ?_⟩
    cases e : φ ws' with
    | ok w s =>
      rw [e] at p
      simp only at p
      have t := taken_of r p
      cases hfl : (flatF w s && lentB st st') with
      | false =>
        rw [hfl, if_neg Bool.false_ne_true] at t
        cases ef : freshO w s with
        | none => rw [ef] at t; exact (by simp only [ef]; exact fun F' H' v x s' rv => t F' H' v (x1.trans x.own) (r1.after x s') rv)
        | some ob => rw [ef] at t; exact (by simp only [ef]; exact fun F' H' a x s' hH hF o => t F' H' a (x1.trans x.own) (r1.after x s') hH hF o)
      | true =>
        rw [hfl, if_pos rfl] at t
        obtain ⟨hfl, hlb⟩ := (Bool.and_eq_true _ _).mp hfl
        unfold flatF at hfl
        cases ef : freshO w s with
        | none =>
          rw [ef] at t hfl
          simp only [ef]
          intro F' H' v x s' rv
          obtain ⟨F2, y1, y2, y3, _, _⟩ := lent r r1 x1 x s' (lent_ok r r1 hlb)
          exact t F2 H' v y1 y2 (rv.flat y3 hfl)
        | some ob =>
          rw [ef] at t hfl
          simp only [ef]
          intro F' H' a x s' hH hF o
          obtain ⟨F2, y1, y2, y3, y4, _⟩ := lent r r1 x1 x s' (lent_ok r r1 hlb)
          have hF2 : F2 a = none := by
            cases q : F2 a with
            | none => rfl
            | some u => have := y4 a u q; rw [hF] at this; cases this
          refine t F2 H' a y1 y2 hH hF2 ?_
          cases o with
          | lst h1 h2 => exact .lst h1 (h2.flats y3 hfl)
          | dic h1 hk h2 => exact .dic h1 hk (h2.flats y3 hfl)
          | ins h1 h2 h3 h4 => unfold freshO at ef; split at ef <;> cases ef
    | err y s =>
      rw [e] at p
      intro F' H' c d x s rx
      simp only at p
      split at p
      · rename_i hfl
        obtain ⟨hfl, hlb⟩ := (Bool.and_eq_true _ _).mp hfl
        obtain ⟨F2, y1, y2, y3, _, y5⟩ := lent r r1 x1 x s (lent_ok r r1 hlb)
        refine p F2 μ H' c d y1 y2 ⟨rx.cls, fun n w h => ?_, rx.dd.imp (fun e => e) fun ⟨d', fvs, g1, g2⟩ => ⟨d', fvs, g1, y5 _ _ g2⟩⟩
        obtain ⟨d', fvs, v, h1, h2, h3, h4⟩ := rx.fs n w h
        exact ⟨d', fvs, v, h1, y5 _ _ h2, h3, h4.flat y3 (List.all_eq_true.mp hfl _ (lookup_mem h))⟩
      · exact p F' μ H' c d (x1.trans x.own) (r1.after x s) ⟨rx.cls, fun n w h => let ⟨d', fvs, v, h1, h2, h3, h4⟩ := rx.fs n w h; ⟨d', fvs, v, h1, h2, h3, h4.mono (.refl _) List.nil_prefix⟩, rx.dd⟩
    | stuck => rw [e] at p; exact p
theorem sim_call {k : Nat} {m : Bool} {f : Str} {φ : Fn} {φi : Fi} {e : Expr} {es : List Expr} {ml : Mx (List Va)} {p pos : Pos} (tk : Takes X W) (F : FnC X.prog X.w X.K X.mg X.base ct k [] f φ φi) (hr : Room k X.A) (hg : Gl X f) (ha : PA X (e :: es) (TA' X ct W ml))
    (hdb : (f == ("__debug__" : Str)) = false) (he : starEach (e :: es) X.env = (false, eval e X.env) :: starEach es X.env) (hpl : (backTo pos (starEach es X.env)).any (·.1) = false) :
    PE X (.Call (.Name f p) (e :: es) [] pos) (TE' X ct W (mFn (callP m φ) ml)) := by
  obtain ⟨a, fd, ps, hm, hk, hb, G⟩ := F.ex
  have hm : X.mg f = some (.ref a) := hm
  have hb : KB fd ps [] := hb
  have G : FnOk X.prog X.w X.K X.mg X.base (L2.CX X.prog X.w) k a fd ps (spP X.K ct φ) := G
  refine PE.mono (pe_callSD G hr hg hm hk hb.binds .nil (fun σ => passAt tk σ) ha hdb he hpl) fun σ H Q ⟨F, μ, env, st, r, re, p⟩ => ⟨F, μ, env, st, r, re, p.bind fun ws st1 F1 μ1 H1 vs _ x1 r1 rvs p1 => ?_⟩
  rw [List.append_nil]
  exact callP_of r1 rvs p1
theorem sim_callM {k : Nat} {f : Str} {φ : Fn} {φi : Fi} {e : Expr} {es : List Expr} {ml : Mx (List Va)} {p pos : Pos} (tk : Takes X W) (F : FnC X.prog X.w X.K X.mg X.base ct k mk7 f φ φi) (hr : Room k X.A) (hg : Gl X f) (ha : PA X (e :: es) (TA' X ct W ml))
    (hdb : (f == ("__debug__" : Str)) = false) (he : starEach (e :: es) X.env = (false, eval e X.env) :: starEach es X.env) (hpl : (backTo pos (starEach es X.env)).any (·.1) = false) :
    PE X (.Call (.Name f p) (e :: es) [] pos) (TE' X ct W (mFn (callM φ) ml)) := by
  obtain ⟨a, fd, ps, hm, hk, hb, G⟩ := F.ex
  have hm : X.mg f = some (.ref a) := hm
  have hb : KB fd ps [] := hb
  have G : FnOk X.prog X.w X.K X.mg X.base (L2.CX X.prog X.w) k a fd ps (spM X.K ct φ) := G
  refine PE.mono (pe_callSD G hr hg hm hk hb.binds .nil (fun σ => passAt tk σ) ha hdb he hpl) fun σ H Q ⟨F, μ, env, st, r, re, p⟩ => ⟨F, μ, env, st, r, re, p.bind fun ws st1 F1 μ1 H1 vs _ x1 r1 rvs p1 => ?_⟩
  rw [List.append_nil]
  exact callM_of r1 rvs p1
def mSnoc (ml : Mx (List Va)) (me : Mx Va) : Mx (List Va) := fun env st => (ml env st).bind fun l st => (me env st).bind fun x st => .ok (l ++ [x]) st
theorem sim_callK {k : Nat} {m : Bool} {f kw : Str} {φ : Fn} {φi : Fi} {e v : Expr} {es : List Expr} {ml : Mx (List Va)} {me : Mx Va} {p pos kpos : Pos} (tk : Takes X W) (F : FnC X.prog X.w X.K X.mg X.base ct k [kw] f φ φi) (hr : Room k X.A) (hg : Gl X f) (ha : PA X (e :: es) (TA' X ct W ml)) (hv : PE X v (TE' X ct W me))
    (hdb : (f == ("__debug__" : Str)) = false) (he : starEach (e :: es) X.env = (false, eval e X.env) :: starEach es X.env) (hpl : (backTo pos (starEach (e :: es) X.env)).any (·.1) = false) :
    PE X (.Call (.Name f p) (e :: es) [⟨some kw, v, kpos⟩] pos) (TE' X ct W (mFn (callP m φ) (mSnoc ml me))) := by
  obtain ⟨a, fd, ps, hm, hk, hb, G⟩ := F.ex
  have hm : X.mg f = some (.ref a) := hm
  have hb : KB fd ps [kw] := hb
  have G : FnOk X.prog X.w X.K X.mg X.base (L2.CX X.prog X.w) k a fd ps (spP X.K ct φ) := G
  refine ⟨fun pins s σ H Q I ⟨F, μ, env, st, r, re, p0⟩ => ?_⟩
  refine wpAny_Call_Name_kw (ld_glob I hg hm ?_ hdb)
  refine PySem.W.callWith_KW (h₀ := X.base) I.ok.mod.kin hk rfl (thn (ha.run pos pins s σ H (fun vs H1 => ∃ F1 μ1 st1 l, Rel X.K ct F1 μ1 st1 H1 ∧ REnv X.K ct F1 μ1 env σ ∧ RVs X.K F1 μ1 l vs ∧ GPost X.K ct W (RV X.K) σ F1 μ1 H1 Q ((me env st1).bind fun x st => callP m φ (l ++ [x]) st)) I ⟨F, μ, env, st, r, re, ?_⟩) fun us s1 ⟨vs, H1, I1, r1, F1, μ1, st1, l, rl1, re1, rv1, q1⟩ => ?_) (by rw [hpl]; rfl) he
  · unfold mFn mSnoc at p0
    have p1 : GPost X.K ct W (RV X.K) σ F μ H Q ((ml env st).bind fun l st => (me env st).bind fun x st => callP m φ (l ++ [x]) st) := by
      cases e1 : ml env st with
      | ok l st1 =>
        rw [e1] at p0
        simp only [R.bind_ok] at p0 ⊢
        cases e2 : me env st1 with
        | ok x st2 => rw [e2] at p0; exact p0
        | err y st2 => rw [e2] at p0; exact p0
        | stuck => rw [e2] at p0; exact p0
      | err y st2 => rw [e1] at p0; exact p0
      | stuck => rw [e1] at p0; exact p0
    exact p1.bind fun l st1 F1 μ1 H1 vs _ x1 r1 rv1 q1 => ⟨F1, μ1, st1, l, r1, re.mono x1, rv1, q1⟩
  · refine thn ((pk_cons (nm := some kw) (kpos := kpos) hv pk_nil).run pos pins s1 σ H1 (fun zs H2 => zs.length = 1 ∧ spP X.K ct φ (vs ++ zs) H2 Q (fun cls d H => W cls d σ H)) I1 ⟨F1, μ1, env, st1, rl1, re1, q1.bind fun x st2 F2 μ2 H2 v _ x2 r2 rv2 q2 => ⟨rfl, callP_of r2 ((x2.rvs rv1).append (.cons rv2 .nil)) q2⟩⟩) fun ws s2 ⟨zs, H2, I2, rz, hz, q2⟩ => ⟨I2.kIn, ?_⟩
    have l2 : ws.length = [kw].length := by rw [← rz.length]; exact hz
    have l1 := G.len _ _ _ _ q2
    rw [List.length_append, r1.length, rz.length] at l1
    refine wpAny_call (codeAny_mono (G.run X.A X.stack s2 H2 ⟨us, [kw].zip ws⟩ (us ++ ws) (vs ++ zs) Q (fun cls d H => W cls d σ H) hr I2.env0 (.of_eq (hb us ws (by rw [← l2]; exact l1) l2)) (r1.append rz) q2) fun r s' hq => ?_)
    cases r with
    | error e => exact passAt tk σ pins H2 s2 e s' I2 hq
    | ok fl =>
      cases fl with
      | ret u => exact I2.after hq
      | next => exact False.elim hq
      | brk => exact False.elim hq
      | cont => exact False.elim hq
end
end G

set_option Elab.async false
set_option linter.all false
set_option maxRecDepth 100000
set_option maxHeartbeats 4000000
namespace G
open PySem PySem.Spec PyProof.Rows L2

/-! ### a comprehension with two sources -/
theorem REnv.keep {K : PySem.W.Frag} {ct : Ct} {F F' : Hp} {μ μ' : List Addr} {env : Ev} {σ : L2.St} (e : Wk F F') (hp : μ <+: μ') (r : REnv K ct F μ env σ) : REnv K ct F' μ' env σ :=
  ⟨r.len, fun i w h => let ⟨v, h1, h2⟩ := r.get i w h; ⟨v, h1, h2.mono e hp⟩, ct.mono _ _ _ e r.inv⟩
theorem lc_in {K : PySem.W.Frag} {ct : Ct} {F1 Fa : Hp} {μ1 μa : List Addr} {H1 Ha : Hp} {D : Addr} {tg : Tg} {mc : Mx Bool} {me : Mx Va} {gd : Gd} {envA : Ev} {σA : L2.St} {vs : List Nat} {J : It} {ws acc l : List Va} {accV : List V} {st stf : Sto} {Nx : Hp → Prop}
    (h1 : H1 D = none) (Dm : D ∉ μ1) (hvs : ∀ i ∈ tgIx tg, i ∈ vs) (hb : ∀ j ∈ vs, ct.Bears j) (hJ : IterOk K ct Fa μa J (ws, gd)) (re : REnv K ct Fa μa envA σA) (xa : Ext F1 μ1 H1 Fa μa Ha) (ra : Rel K ct Fa μa st Ha) (Da : D ∉ μa) (DFa : Fa D = none) (hDa : Ha D = some (.lst accV)) (racc : RVs K Fa μa acc accV)
    (hrun : lcRun tg mc me gd (wipeE envA vs) ws acc st = .ok l stf) (hz : l.length ≤ sizeLine)
    (hNx : ∀ F' μ' H' accV', Wk Fa F' → μa <+: μ' → Ext F1 μ1 H1 F' μ' H' → Rel K ct F' μ' stf H' → D ∉ μ' → F' D = none → H' D = some (.lst accV') → RVs K F' μ' l accV' → Nx H') :
    ∃ W1 : Nat → Nat → Hp → Prop, (∃ m, W1 0 m Ha) ∧ ∀ j k H, W1 j k H → (J.stop j H ∧ Nx H) ∨ (J.go j H ∧ ∃ Nx1 : Hp → Prop, (∀ H', Nx1 H' → ∃ k', k' < k ∧ W1 (j + 1) k' H') ∧ ∀ x H', J.yld j H x H' → gSet K tg x (L2.wipe σA vs) H' fun σ3 H5 => L2.wipe σ3 vs = L2.wipe σA vs ∧
      TOf K ct W0 RB mc σ3 H5 fun b H6 => if b = true then TOf K ct W0 (RV K) me σ3 H6 fun y H7 => ∃ acc, H7 D = some (.lst acc) ∧ acc.length < sizeLine ∧ Nx1 (upd H7 D (.lst (acc ++ [y]))) else Nx1 H6) := by
  have re1 := re.wipe vs hb
  refine ⟨fun i m H => m = ws.length - i ∧ i ≤ ws.length ∧ ∃ F2 μ2 st2 acc accV, Wk Fa F2 ∧ μa <+: μ2 ∧ Ext F1 μ1 H1 F2 μ2 H ∧ Rel K ct F2 μ2 st2 H ∧ D ∉ μ2 ∧ F2 D = none ∧ H D = some (.lst accV) ∧ RVs K F2 μ2 acc accV ∧ lcRun tg mc me gd (wipeE envA vs) (ws.drop i) acc st2 = .ok l stf,
    ⟨_, rfl, Nat.zero_le _, Fa, μa, st, acc, accV, .refl _, List.prefix_rfl, xa, ra, Da, DFa, hDa, racc, by rw [List.drop_zero]; exact hrun⟩, ?_⟩
  rintro i n H2 ⟨rfl, hi, F2, μ2, st2, acc, accV, sm, pm, x2, r2, D2, DF2, hDv, racc, hl⟩
  by_cases hlt : i < ws.length
  · obtain ⟨w, hw⟩ : ∃ w, ws[i]? = some w := ⟨_, List.getElem?_eq_getElem hlt⟩
    have hdrop : ws.drop i = w :: ws.drop (i + 1) := by
      rw [List.drop_eq_getElem_cons hlt]
      rw [List.getElem?_eq_getElem hlt] at hw
      rw [Option.some.inj hw]
    rw [hdrop] at hl
    unfold lcRun at hl
    split at hl
    · rename_i hg
      have hIt := (hJ F2 μ2 st2 H2 sm pm r2 (gdB_ok hg) i).2 w hw
      refine .inr ⟨hIt.1, fun H' => i + 1 ≤ ws.length ∧ ∃ F2 μ2 st2 acc accV, Wk Fa F2 ∧ μa <+: μ2 ∧ Ext F1 μ1 H1 F2 μ2 H' ∧ Rel K ct F2 μ2 st2 H' ∧ D ∉ μ2 ∧ F2 D = none ∧ H' D = some (.lst accV) ∧ RVs K F2 μ2 acc accV ∧ lcRun tg mc me gd (wipeE envA vs) (ws.drop (i + 1)) acc st2 = .ok l stf,
        fun H' q2 => ⟨ws.length - (i + 1), by omega, rfl, q2⟩, fun x H3 y => ?_⟩
      obtain ⟨F3, x3, r3, rx⟩ := hIt.2 x H3 y
      have out : ∀ {F'' : Hp} {μ'' : List Addr} {H'' : Hp} {F0 : Hp} {μ0 : List Addr} {H0 : Hp}, Ext F0 μ0 H0 F'' μ'' H'' → D ∉ μ0 → F0 D = none → H0 D ≠ none → D ∉ μ'' ∧ F'' D = none := fun {F'' μ'' H'' F0 μ0 H0} x a b c => by
        refine ⟨fun m => (x.mnew D m).elim a c, ?_⟩
        cases q : F'' D with
        | none => rfl
        | some o =>
          rcases x.new D (by rw [q]; exact fun z => nomatch z) with z | z | z
          · exact absurd b z
          · exact absurd z c
          · exact absurd z a
      have c2 : H2 D ≠ none := by rw [hDv]; exact fun z => nomatch z
      obtain ⟨D3, DF3⟩ := out x3 D2 DF2 c2
      have hDv3 : H3 D = some (.lst accV) := x3.keep D _ hDv D2 (fun _ => nofun)
      split at hl
      · cases hl
      · rename_i env1 et
        refine gSet_of r3 (re1.keep (sm.trans x3.fr) (pm.trans x3.pre)) rx et (fun j hj => hb j (hvs j hj)) fun σ' re' ⟨us, eσ⟩ => ⟨by rw [eσ, wipe_setAll _ _ _ _ hvs, wipe_wipe], ?_⟩
        split at hl
        · rename_i b st4 ec
          refine ⟨F3, μ2, env1, st2, r3, re', ?_⟩
          rw [ec]
          intro F4 μ4 H4 b' x4 r4 eb
          have eb : b = b' := eb
          subst eb
          have c3 : H3 D ≠ none := by rw [hDv3]; exact fun z => nomatch z
          obtain ⟨D4, DF4⟩ := out x4 D3 DF3 c3
          have hDv4 : H4 D = some (.lst accV) := x4.keep D _ hDv3 D3 (fun _ => nofun)
          have sm4 : Wk Fa F4 := (sm.trans x3.fr).trans x4.fr
          cases b with
          | false =>
            rw [if_neg Bool.false_ne_true] at hl ⊢
            exact ⟨hlt, F4, μ4, st4, acc, accV, sm4, (pm.trans x3.pre).trans x4.pre, (x2.trans x3).trans x4, r4, D4, DF4, hDv4, x4.rvs (x3.rvs racc), hl⟩
          | true =>
            rw [if_pos rfl] at hl ⊢
            split at hl
            · rename_i y5 st5 ee
              refine ⟨F4, μ4, env1, st4, r4, re'.mono x4, ?_⟩
              rw [ee]
              intro F5 μ5 H5 yv x5 r5 ry
              have c4 : H4 D ≠ none := by rw [hDv4]; exact fun z => nomatch z
              obtain ⟨D5, DF5⟩ := out x5 D4 DF4 c4
              have hDv5 : H5 D = some (.lst accV) := x5.keep D _ hDv4 D4 (fun _ => nofun)
              have hlen : acc.length + 1 ≤ l.length := by
                have := lcRun_len hl
                simpa using this
              refine ⟨accV, hDv5, ?_, ?_⟩
              · rw [← racc.length]; omega
              · exact ⟨hlt, F5, μ5, st5, acc ++ [y5], accV ++ [yv], sm4.trans x5.fr, ((pm.trans x3.pre).trans x4.pre).trans x5.pre, Ext.lay (((x2.trans x3).trans x4).trans x5) h1 Dm _, r5.lay D5 DF5 (nt_lst hDv5) _, D5, DF5, upd_same, (x5.rvs (x4.rvs (x3.rvs racc))).append (.cons ry .nil), hl⟩
            · cases hl
        · cases hl
    · cases hl
  · have hi' : i = ws.length := by omega
    rw [List.drop_eq_nil_of_le (by omega)] at hl
    unfold lcRun at hl
    split at hl
    · rename_i hg
      cases hl
      exact .inl ⟨(hJ F2 μ2 _ H2 sm pm r2 (gdB_ok hg) i).1 hi', hNx F2 μ2 H2 accV sm pm x2 r2 D2 DF2 hDv racc⟩
    · cases hl
/-- two sources: the second one is looked at anew for each of the first -/
def lcRun2 (tg : Tg) (mc : Mx Bool) (mi1 : Mx (List Va × Gd)) (vs1 : List Nat) (tg1 : Tg) (mc1 : Mx Bool) (me : Mx Va) (gd : Gd) (env : Ev) : List Va → List Va → Sto → R (List Va)
  | [], acc, st => if gdB gd st then .ok acc st else .stuck
  | x :: rest, acc, st => if gdB gd st then match tgV tg x env st with
      | none => .stuck
      | some env1 => match mc env1 st with
        | .ok b st1 => if b then match mi1 env1 st1 with
            | .ok wg st2 => match lcRun tg1 mc1 me wg.2 (wipeE env1 vs1) wg.1 acc st2 with
              | .ok acc2 st3 => lcRun2 tg mc mi1 vs1 tg1 mc1 me gd env rest acc2 st3
              | _ => .stuck
            | _ => .stuck
          else lcRun2 tg mc mi1 vs1 tg1 mc1 me gd env rest acc st1
        | _ => .stuck
    else .stuck
theorem lcRun2_len {tg : Tg} {mc : Mx Bool} {mi1 : Mx (List Va × Gd)} {vs1 : List Nat} {tg1 : Tg} {mc1 : Mx Bool} {me : Mx Va} {gd : Gd} {env : Ev} : ∀ {xs acc : List Va} {st : Sto} {l : List Va} {st' : Sto}, lcRun2 tg mc mi1 vs1 tg1 mc1 me gd env xs acc st = .ok l st' → acc.length ≤ l.length
  | [], acc, st, l, st', h => by
    unfold lcRun2 at h
    split at h
    · cases h; exact Nat.le_refl _
    · cases h
  | x :: xs, acc, st, l, st', h => by
    unfold lcRun2 at h
    split at h
    · split at h
      · cases h
      · split at h
        · split at h
          · split at h
            · split at h
              · rename_i e
                exact Nat.le_trans (lcRun_len e) (lcRun2_len h)
              · cases h
            · cases h
          · exact lcRun2_len h
        · cases h
    · cases h
theorem lcRun2_err {tg : Tg} {mc : Mx Bool} {mi1 : Mx (List Va × Gd)} {vs1 : List Nat} {tg1 : Tg} {mc1 : Mx Bool} {me : Mx Va} {gd : Gd} {env : Ev} {x : Exc} {st' : Sto} : ∀ {xs acc : List Va} {st : Sto}, lcRun2 tg mc mi1 vs1 tg1 mc1 me gd env xs acc st ≠ .err x st'
  | [], acc, st, h => by
    unfold lcRun2 at h
    split at h <;> cases h
  | y :: xs, acc, st, h => by
    unfold lcRun2 at h
    split at h
    · split at h
      · cases h
      · split at h
        · split at h
          · split at h
            · split at h
              · exact lcRun2_err h
              · cases h
            · cases h
          · exact lcRun2_err h
        · cases h
    · cases h
def mLc2 (m : Bool) (vs vs1 : List Nat) (tg : Tg) (mi : Mx (List Va × Gd)) (mc : Mx Bool) (tg1 : Tg) (mi1 : Mx (List Va × Gd)) (mc1 : Mx Bool) (me : Mx Va) : Mx Va := fun env st => (mi env st).bind fun wg st => (lcRun2 tg mc mi1 vs1 tg1 mc1 me wg.2 (wipeE env vs) wg.1 [] st).bind fun l st => mkL m l st
theorem tLc2_of {K : PySem.W.Frag} {ct : Ct} {W : WX} {m : Bool} {vs vs1 : List Nat} {tg tg1 : Tg} {mi mi1 : Mx (List Va × Gd)} {mc mc1 : Mx Bool} {me : Mx Va} {wi : TI} {σ : L2.St} {H : Hp} {Q : VK} (hwi : ∀ R, TOf K ct W (RI K ct) mi σ H R → wi σ H R) (hvs : ∀ i ∈ tgIx tg, i ∈ vs) (hvs1 : ∀ i ∈ tgIx tg1, i ∈ vs1) (hb : ∀ j ∈ vs, ct.Bears j) (hb1 : ∀ j ∈ vs1, ct.Bears j)
    (h : TOf K ct W (RV K) (mLc2 m vs vs1 tg mi mc tg1 mi1 mc1 me) σ H Q) : tLc2 wi (gSet K tg) (TOf K ct W0 RB mc) (TOf K ct W0 (RI K ct) mi1) (gSet K tg1) (TOf K ct W0 RB mc1) (TOf K ct W0 (RV K) me) vs vs1 σ H Q := by
  obtain ⟨F, μ, env, st, r, re, p⟩ := h
  refine hwi _ ⟨F, μ, env, st, r, re, p.bind fun wg st1 F1 μ1 H1 J _ x1 r1 hJ p1 => fun D hD => ?_⟩
  have re1 := (re.mono x1).wipe vs hb
  have Dm : D ∉ μ1 := fun m => r1.mtr D m hD
  have DF : F1 D = none := r1.nofrz hD
  cases hrun : lcRun2 tg mc mi1 vs1 tg1 mc1 me wg.2 (wipeE env vs) wg.1 [] st1 with
  | err x st' => exact absurd hrun lcRun2_err
  | stuck => rw [hrun] at p1; exact p1.elim
  | ok l stf =>
  rw [hrun] at p1
  have hz : l.length ≤ sizeLine := by
    simp only [R.bind_ok, mkL] at p1
    split at p1
    · assumption
    · exact p1.elim
  refine ⟨fun i m H => m = wg.1.length - i ∧ i ≤ wg.1.length ∧ ∃ F2 μ2 st2 acc accV, Ext F1 μ1 H1 F2 μ2 H ∧ Rel K ct F2 μ2 st2 H ∧ D ∉ μ2 ∧ F2 D = none ∧ H D = some (.lst accV) ∧ RVs K F2 μ2 acc accV ∧ lcRun2 tg mc mi1 vs1 tg1 mc1 me wg.2 (wipeE env vs) (wg.1.drop i) acc st2 = .ok l stf,
    ⟨_, rfl, Nat.zero_le _, F1, μ1, st1, [], [], Ext.lay .refl hD Dm _, r1.lay Dm DF (nt_none hD) _, Dm, DF, upd_same, .nil, by rw [List.drop_zero]; exact hrun⟩, ?_⟩
  rintro i n H2 ⟨rfl, hi, F2, μ2, st2, acc, accV, x2, r2, D2, DF2, hDv, racc, hl⟩
  by_cases hlt : i < wg.1.length
  · obtain ⟨w, hw⟩ : ∃ w, wg.1[i]? = some w := ⟨_, List.getElem?_eq_getElem hlt⟩
    have hdrop : wg.1.drop i = w :: wg.1.drop (i + 1) := by
      rw [List.drop_eq_getElem_cons hlt]
      rw [List.getElem?_eq_getElem hlt] at hw
      rw [Option.some.inj hw]
    rw [hdrop] at hl
    unfold lcRun2 at hl
    split at hl
    · rename_i hg
      have hIt := (hJ F2 μ2 st2 H2 x2.fr x2.pre r2 (gdB_ok hg) i).2 w hw
      refine .inr ⟨hIt.1, fun H' => i + 1 ≤ wg.1.length ∧ ∃ F2 μ2 st2 acc accV, Ext F1 μ1 H1 F2 μ2 H' ∧ Rel K ct F2 μ2 st2 H' ∧ D ∉ μ2 ∧ F2 D = none ∧ H' D = some (.lst accV) ∧ RVs K F2 μ2 acc accV ∧ lcRun2 tg mc mi1 vs1 tg1 mc1 me wg.2 (wipeE env vs) (wg.1.drop (i + 1)) acc st2 = .ok l stf,
        fun H' q2 => ⟨wg.1.length - (i + 1), by omega, rfl, q2⟩, fun x H3 y => ?_⟩
      obtain ⟨F3, x3, r3, rx⟩ := hIt.2 x H3 y
      have out : ∀ {F'' : Hp} {μ'' : List Addr} {H'' : Hp} {F0 : Hp} {μ0 : List Addr} {H0 : Hp}, Ext F0 μ0 H0 F'' μ'' H'' → D ∉ μ0 → F0 D = none → H0 D ≠ none → D ∉ μ'' ∧ F'' D = none := fun {F'' μ'' H'' F0 μ0 H0} x a b c => by
        refine ⟨fun m => (x.mnew D m).elim a c, ?_⟩
        cases q : F'' D with
        | none => rfl
        | some o =>
          rcases x.new D (by rw [q]; exact fun z => nomatch z) with z | z | z
          · exact absurd b z
          · exact absurd z c
          · exact absurd z a
      have c2 : H2 D ≠ none := by rw [hDv]; exact fun z => nomatch z
      obtain ⟨D3, DF3⟩ := out x3 D2 DF2 c2
      have hDv3 : H3 D = some (.lst accV) := x3.keep D _ hDv D2 (fun _ => nofun)
      split at hl
      · cases hl
      · rename_i env1 et
        refine gSet_of r3 ((re1.mono (x2.trans x3))) rx et (fun j hj => hb j (hvs j hj)) fun σ' re' ⟨us, eσ⟩ => ⟨by rw [eσ, wipe_setAll _ _ _ _ hvs, wipe_wipe], ?_⟩
        split at hl
        · rename_i b st4 ec
          refine ⟨F3, μ2, env1, st2, r3, re', ?_⟩
          rw [ec]
          intro F4 μ4 H4 b' x4 r4 eb
          have eb : b = b' := eb
          subst eb
          have c3 : H3 D ≠ none := by rw [hDv3]; exact fun z => nomatch z
          obtain ⟨D4, DF4⟩ := out x4 D3 DF3 c3
          have hDv4 : H4 D = some (.lst accV) := x4.keep D _ hDv3 D3 (fun _ => nofun)
          cases b with
          | false =>
            rw [if_neg Bool.false_ne_true] at hl ⊢
            exact ⟨hlt, F4, μ4, st4, acc, accV, (x2.trans x3).trans x4, r4, D4, DF4, hDv4, x4.rvs (x3.rvs racc), hl⟩
          | true =>
            rw [if_pos rfl] at hl ⊢
            split at hl
            · rename_i wg1 st5 ei
              refine ⟨F4, μ4, env1, st4, r4, re'.mono x4, ?_⟩
              rw [ei]
              intro F5 μ5 H5 J1 x5 r5 hJ1
              have c4 : H4 D ≠ none := by rw [hDv4]; exact fun z => nomatch z
              obtain ⟨D5, DF5⟩ := out x5 D4 DF4 c4
              have hDv5 : H5 D = some (.lst accV) := x5.keep D _ hDv4 D4 (fun _ => nofun)
              split at hl
              · rename_i acc2 st6 el
                have hlen : acc2.length ≤ sizeLine := Nat.le_trans (lcRun2_len hl) hz
                exact lc_in hD Dm hvs1 hb1 hJ1 ((re'.mono x4).mono x5) (((x2.trans x3).trans x4).trans x5) r5 D5 DF5 hDv5 (x5.rvs (x4.rvs (x3.rvs racc))) el hlen fun F' μ' H' accV' _ _ xx rr dd ff hh rs => ⟨hlt, F', μ', st6, acc2, accV', xx, rr, dd, ff, hh, rs, hl⟩
              · cases hl
            · cases hl
        · cases hl
    · cases hl
  · have hi' : i = wg.1.length := by omega
    rw [List.drop_eq_nil_of_le (by omega)] at hl
    unfold lcRun2 at hl
    split at hl
    · rename_i hg
      cases hl
      exact .inl ⟨(hJ F2 μ2 stf H2 x2.fr x2.pre r2 (gdB_ok hg) i).1 hi', mkL_at r2 x2 D2 DF2 hD hDv racc p1⟩
    · cases hl
end G

set_option Elab.async false
set_option linter.all false
set_option maxRecDepth 100000
set_option maxHeartbeats 4000000
namespace G
open PySem PySem.Spec PyProof.Rows L2

/-! ### list(range(a, b)) -/
def rgB (a b : Int) : Bool := i62 a && i62 b && decide ((b - a).toNat ≤ 2 ^ 24)
def mLrg (m : Bool) (ma mb : Mx Va) : Mx Va := fun env st => (ma env st).bind fun x st => (mb env st).bind fun y st => match intOf x, intOf y with
  | some a, some b => if rgB a b then mkL m (rints a (b - a).toNat) st else .stuck
  | _, _ => .stuck
theorem rints_rv {K : PySem.W.Frag} {F : Hp} {μ : List Addr} (a b : Int) : RVs K F μ (rints a (b - a).toNat) (rgV a b) := by
  unfold rints rgV
  generalize (b - a).toNat = n
  have key : ∀ l : List Nat, RVs K F μ (l.map fun i => Va.int (a + (i : Nat))) (l.map fun i => V.int (a + (i : Nat))) := by
    intro l
    induction l with
    | nil => exact .nil
    | cons i r ih => exact .cons (.int _) ih
  exact key _
theorem sim_lrg {X : Cx} {ct : Ct} {W : WX} {m : Bool} {a b : Expr} {ma mb : Mx Va} {p p2 pos pos2 : Pos} (hc : X.calm = true) (hg : Gl X "list") (hm : X.mg "list" = none) (hg2 : Gl X "range") (hm2 : X.mg "range" = none) (ha : PE X a (TE' X ct W ma)) (hb : PE X b (TE' X ct W mb))
    (na : starEach [a, b] X.env = (false, eval a X.env) :: starEach [b] X.env) (nb : starEach [b] X.env = (false, eval b X.env) :: starEach [] X.env) (hp : (backTo pos2 (starEach [b] X.env)).any (·.1) = false) :
    PE X (.Call (.Name "list" p) [.Call (.Name "range" p2) [a, b] [] pos2] [] pos) (TE' X ct W (mLrg m ma mb)) := by
  refine PE.mono (pe_listRg hc hg hm (prg_2 hg2 hm2 ha hb na nb hp)) fun σ H Q ⟨F, μ, env, st, r, re, q⟩ => ⟨F, μ, env, st, r, re, q.bind fun x st1 F1 μ1 H1 xv _ x1 r1 rx q1 => ⟨F1, μ1, env, st1, r1, re.mono x1, q1.bind fun y st2 F2 μ2 H2 yv _ x2 r2 ry q2 => ?_⟩⟩
  split at q2
  · rename_i i j ei ej
    obtain rfl := intOf_ok (x2.rv rx) ei
    obtain rfl := intOf_ok ry ej
    split at q2
    · rename_i hh
      simp only [rgB, Bool.and_eq_true, decide_eq_true_eq] at hh
      obtain ⟨c1, c2⟩ := (of_decide_eq_true hh.1.1 : -(2 ^ 62) ≤ i ∧ i < 2 ^ 62)
      obtain ⟨c3, c4⟩ := (of_decide_eq_true hh.1.2 : -(2 ^ 62) ≤ j ∧ j < 2 ^ 62)
      exact ⟨i, j, rfl, rfl, ⟨c1, c2, c3, c4, hh.2⟩, (mkL_ok r2 (rints_rv i j) q2).2⟩
    · exact q2.elim
  · exact q2.elim
end G

set_option Elab.async false
set_option linter.all false
set_option maxRecDepth 100000
set_option maxHeartbeats 4000000
/-! min, max of a list of ints, of pairs of ints -/
namespace G
open PySem PySem.Spec PyProof.Rows L2
def ltPI (p q : Int × Int) : Bool := decide (p.1 < q.1 ∨ (p.1 = q.1 ∧ p.2 < q.2))
def bestI (f : Int × Int → Int × Int → Bool) (p : Int × Int) (l : List (Int × Int)) : Int × Int := l.foldl (fun a y => if f y a then y else a) p
theorem lex2 (a b c d : Int) : Ob.lexAt (fun j => decide (([a, b] : List Int).getD j 0 = ([c, d] : List Int).getD j 0)) (fun j => decide (([a, b] : List Int).getD j 0 < ([c, d] : List Int).getD j 0)) (decide (2 < 2)) 0 (min 2 2) = ltPI (a, b) (c, d) := by
  show (if decide (a = c) = true then (if decide (b = d) = true then decide (2 < 2) else decide (b < d)) else decide (a < c)) = _
  unfold ltPI
  by_cases h : a = c
  · rw [if_pos (decide_eq_true h)]
    by_cases h2 : b = d
    · rw [if_pos (decide_eq_true h2), h, h2]
      simp
    · rw [if_neg (by simpa using h2)]
      simp [h]
  · rw [if_neg (by simpa using h)]
    simp [h]
theorem lex2g (a b c d : Int) : Ob.lexAt (fun j => decide (([a, b] : List Int).getD j 0 = ([c, d] : List Int).getD j 0)) (fun j => decide (([c, d] : List Int).getD j 0 < ([a, b] : List Int).getD j 0)) (decide (2 > 2)) 0 (min 2 2) = ltPI (c, d) (a, b) := by
  show (if decide (a = c) = true then (if decide (b = d) = true then decide (2 > 2) else decide (d < b)) else decide (c < a)) = _
  unfold ltPI
  by_cases h : a = c
  · rw [if_pos (decide_eq_true h)]
    by_cases h2 : b = d
    · rw [if_pos (decide_eq_true h2), h, h2]
      simp
    · rw [if_neg (by simpa using h2)]
      simp [h]
  · rw [if_neg (by simpa using h)]
    have : ¬ c = a := fun e => h e.symm
    simp [this]
section
variable {prog : Program} {w : World} {A : Around} {s : Shared}
theorem pairs_lt {u v : Value} {p q : Int × Int} (hu : A.units < cLine) (h1 : TS.TupInts s.heap u [p.1, p.2]) (h2 : TS.TupInts s.heap v [q.1, q.2]) : Ob.RcOp .Lt A s u v (ltPI p q) := by
  obtain ⟨a, its, rfl, t1, i1⟩ := h1
  obtain ⟨b, its2, rfl, t2, i2⟩ := h2
  have e1 : its.size = 2 := by rw [← Array.length_toList]; exact i1.length
  have e2 : its2.size = 2 := by rw [← Array.length_toList]; exact i2.length
  have at1 : ∀ j (h1 : j < its.size), ∃ t, its[j] = .int (([p.1, p.2] : List Int).getD j 0) t := fun j h1 => PyProof.Rows.IntsAre.int_at i1 _ _ (by simp [h1])
  have at2 : ∀ j (h1 : j < its2.size), ∃ t, its2[j] = .int (([q.1, q.2] : List Int).getD j 0) t := fun j h1 => PyProof.Rows.IntsAre.int_at i2 _ _ (by simp [h1])
  have R := Ob.RcOp.tuples_lt (A := A) (s := s) (e := fun j => decide (([p.1, p.2] : List Int).getD j 0 = ([q.1, q.2] : List Int).getD j 0)) (r := fun j => decide (([p.1, p.2] : List Int).getD j 0 < ([q.1, q.2] : List Int).getD j 0)) t1 t2 hu (fun j h1 h2 => by
    obtain ⟨t, et⟩ := at1 j h1
    obtain ⟨t', et'⟩ := at2 j h2
    rw [et, et']
    have z : (([p.1, p.2] : List Int).getD j 0 == ([q.1, q.2] : List Int).getD j 0) = decide (([p.1, p.2] : List Int).getD j 0 = ([q.1, q.2] : List Int).getD j 0) := by
      by_cases c : ([p.1, p.2] : List Int).getD j 0 = ([q.1, q.2] : List Int).getD j 0
      · rw [decide_eq_true c]; exact beq_iff_eq.mpr c
      · rw [decide_eq_false c]; exact beq_eq_false_iff_ne.mpr c
    rw [← z]
    exact SeqAt.EqAt.int_int _ _ _ _) (fun j h1 h2 _ => by
    obtain ⟨t, et⟩ := at1 j h1
    obtain ⟨t', et'⟩ := at2 j h2
    rw [et, et']
    exact Ob.RcOp.lt_int _ _ _ _)
  rw [e1, e2, lex2] at R
  exact R
theorem pairs_gt {u v : Value} {p q : Int × Int} (hu : A.units < cLine) (h1 : TS.TupInts s.heap u [p.1, p.2]) (h2 : TS.TupInts s.heap v [q.1, q.2]) : Ob.RcOp .Gt A s u v (ltPI q p) := by
  obtain ⟨a, its, rfl, t1, i1⟩ := h1
  obtain ⟨b, its2, rfl, t2, i2⟩ := h2
  have e1 : its.size = 2 := by rw [← Array.length_toList]; exact i1.length
  have e2 : its2.size = 2 := by rw [← Array.length_toList]; exact i2.length
  have at1 : ∀ j (h1 : j < its.size), ∃ t, its[j] = .int (([p.1, p.2] : List Int).getD j 0) t := fun j h1 => PyProof.Rows.IntsAre.int_at i1 _ _ (by simp [h1])
  have at2 : ∀ j (h1 : j < its2.size), ∃ t, its2[j] = .int (([q.1, q.2] : List Int).getD j 0) t := fun j h1 => PyProof.Rows.IntsAre.int_at i2 _ _ (by simp [h1])
  have R := Ob.RcOp.tuples_gt (A := A) (s := s) (e := fun j => decide (([p.1, p.2] : List Int).getD j 0 = ([q.1, q.2] : List Int).getD j 0)) (r := fun j => decide (([q.1, q.2] : List Int).getD j 0 < ([p.1, p.2] : List Int).getD j 0)) t1 t2 hu (fun j h1 h2 => by
    obtain ⟨t, et⟩ := at1 j h1
    obtain ⟨t', et'⟩ := at2 j h2
    rw [et, et']
    have z : (([p.1, p.2] : List Int).getD j 0 == ([q.1, q.2] : List Int).getD j 0) = decide (([p.1, p.2] : List Int).getD j 0 = ([q.1, q.2] : List Int).getD j 0) := by
      by_cases c : ([p.1, p.2] : List Int).getD j 0 = ([q.1, q.2] : List Int).getD j 0
      · rw [decide_eq_true c]; exact beq_iff_eq.mpr c
      · rw [decide_eq_false c]; exact beq_eq_false_iff_ne.mpr c
    rw [← z]
    exact SeqAt.EqAt.int_int _ _ _ _) (fun j h1 h2 _ => by
    obtain ⟨t, et⟩ := at1 j h1
    obtain ⟨t', et'⟩ := at2 j h2
    rw [et, et']
    exact Ob.RcOp.gt_int _ _ _ _)
  rw [e1, e2, lex2g] at R
  exact R
end
theorem tup_keep {h h' : Heap} (k : ∀ b o, h.get? b = some o → h'.get? b = some o) {v : Value} {ns : List Int} (t : TS.TupInts h v ns) : TS.TupInts h' v ns := by
  obtain ⟨a, its, rfl, ⟨o, ho, hc, n, hd⟩, i⟩ := t
  exact ⟨a, its, rfl, ⟨o, k _ _ ho, hc, n, hd⟩, i⟩
def rBest (K : PySem.W.Frag) (f : Int × Int → Int × Int → Bool) : List V → Hp → VK → Prop := fun vs H Q => ∃ (a : Addr) (xs : List V) (p : Int × Int) (ps : List (Int × Int)), vs = [.ref a] ∧ SqL K H a xs ∧ xs.length = ps.length + 1 ∧
  (∀ (i : Nat) (x : V) (q : Int × Int), xs[i]? = some x → (p :: ps)[i]? = some q → ∃ t, x = .ref t ∧ SqT K H t [.int q.1, .int q.2]) ∧ ∀ (i : Nat) (x : V), xs[i]? = some x → (p :: ps)[i]? = some (bestI f p ps) → Q x H
section
variable {X : Cx}
theorem cr_minP (hc : X.calm = true) (hu : X.A.units + 64 < cLine) : CallR X (.builtin "min") (rBest X.K ltPI) := by
  intro pins s σ H vs us Q I r h
  obtain ⟨a, xs, p, ps, rfl, hs, hl, hx, q⟩ := h
  rw [Vals.ref1 r]
  obtain ⟨its, rv, hli, hz⟩ := I.list hs
  have hlen : its.toArray.size = ps.length + 1 := by rw [List.size_toArray, ← rv.length, hl]
  have tupi : ∀ (i : Nat) (v : Value), its.toArray[i]? = some v → TS.TupInts s.heap v [((p :: ps).getD i (0, 0)).1, ((p :: ps).getD i (0, 0)).2] ∧ ∃ x, xs[i]? = some x ∧ RelV x v ∧ i < ps.length + 1 := fun i v hv => by
    have hi : i < its.length := by
      rw [List.getElem?_toArray] at hv
      exact (List.getElem?_eq_some_iff.mp hv).1
    have hl2 := rv.length
    obtain ⟨x, hx'⟩ : ∃ x, xs[i]? = some x := ⟨_, List.getElem?_eq_getElem (by omega)⟩
    obtain ⟨q, hq⟩ : ∃ q, (p :: ps)[i]? = some q := ⟨_, List.getElem?_eq_getElem (by simp; omega)⟩
    obtain ⟨t, e, ht⟩ := hx i x q hx' hq
    obtain ⟨u, hu', rr⟩ := rv.get hx'
    rw [List.getElem?_toArray, hu'] at hv
    cases hv
    subst e
    obtain rfl : v = Value.ref t := rr
    have hg : (p :: ps).getD i (0, 0) = q := by rw [List.getD_eq_getElem?_getD, hq]; rfl
    rw [hg]
    exact ⟨tupI_raw I (ns := [q.1, q.2]) ht, _, hx', rfl, by omega⟩
  refine call_min_walkH (PySem.W.iter_listW (A := X.A.in1) (I.ok.hd hc) hli.isList fun s₂ e W st hfp hw hk => ?_)
  refine ⟨_, _, _, _, _, _, _, s.heap, (fun i j => ltPI ((p :: ps).getD i (0, 0)) ((p :: ps).getD j (0, 0))), rfl, W, st, hfp, by rw [hlen]; omega, hw, hk, fun i j vi vj s' Q' E' hk' hi hj hq => ?_, fun v s' hP m => ?_⟩
  · have k1 := tup_keep hk' (tupi i vi hi).1
    have k2 := tup_keep hk' (tupi j vj hj).1
    exact pairs_lt (by show X.A.units + 1 < cLine; omega) k1 k2 _ _ E' Q' hq
  · obtain ⟨h', tk, rfl, hk'⟩ := PySem.W.moved_old e rfl m
    obtain ⟨_, x, hx', rr, hlt⟩ := tupi _ v hP
    have e1 : its.toArray.size - 1 = ps.length := by rw [hlen]; rfl
    have e2 := (PySem.W.argBest_fold ltPI (0, 0) p ps ps.length (Nat.le_refl _)).2
    rw [List.take_length] at e2
    rw [e1] at hx' hlt
    refine ⟨x, H, I.kept (t' := tk) hk', rr, q _ x hx' ?_⟩
    obtain ⟨z, hz'⟩ : ∃ z, (p :: ps)[argBest (fun i j => ltPI ((p :: ps).getD i (0, 0)) ((p :: ps).getD j (0, 0))) ps.length]? = some z := ⟨_, List.getElem?_eq_getElem (by rw [List.length_cons]; exact hlt)⟩
    rw [List.getD_eq_getElem?_getD, hz'] at e2
    rw [hz']
    exact congrArg some e2
theorem cr_maxP (hc : X.calm = true) (hu : X.A.units + 64 < cLine) : CallR X (.builtin "max") (rBest X.K fun a b => ltPI b a) := by
  intro pins s σ H vs us Q I r h
  obtain ⟨a, xs, p, ps, rfl, hs, hl, hx, q⟩ := h
  rw [Vals.ref1 r]
  obtain ⟨its, rv, hli, hz⟩ := I.list hs
  have hlen : its.toArray.size = ps.length + 1 := by rw [List.size_toArray, ← rv.length, hl]
  have tupi : ∀ (i : Nat) (v : Value), its.toArray[i]? = some v → TS.TupInts s.heap v [((p :: ps).getD i (0, 0)).1, ((p :: ps).getD i (0, 0)).2] ∧ ∃ x, xs[i]? = some x ∧ RelV x v ∧ i < ps.length + 1 := fun i v hv => by
    have hi : i < its.length := by
      rw [List.getElem?_toArray] at hv
      exact (List.getElem?_eq_some_iff.mp hv).1
    have hl2 := rv.length
    obtain ⟨x, hx'⟩ : ∃ x, xs[i]? = some x := ⟨_, List.getElem?_eq_getElem (by omega)⟩
    obtain ⟨q, hq⟩ : ∃ q, (p :: ps)[i]? = some q := ⟨_, List.getElem?_eq_getElem (by simp; omega)⟩
    obtain ⟨t, e, ht⟩ := hx i x q hx' hq
    obtain ⟨u, hu', rr⟩ := rv.get hx'
    rw [List.getElem?_toArray, hu'] at hv
    cases hv
    subst e
    obtain rfl : v = Value.ref t := rr
    have hg : (p :: ps).getD i (0, 0) = q := by rw [List.getD_eq_getElem?_getD, hq]; rfl
    rw [hg]
    exact ⟨tupI_raw I (ns := [q.1, q.2]) ht, _, hx', rfl, by omega⟩
  refine call_max_walkH (PySem.W.iter_listW (A := X.A.in1) (I.ok.hd hc) hli.isList fun s₂ e W st hfp hw hk => ?_)
  refine ⟨_, _, _, _, _, _, _, s.heap, (fun i j => ltPI ((p :: ps).getD j (0, 0)) ((p :: ps).getD i (0, 0))), rfl, W, st, hfp, by rw [hlen]; omega, hw, hk, fun i j vi vj s' Q' E' hk' hi hj hq => ?_, fun v s' hP m => ?_⟩
  · have k1 := tup_keep hk' (tupi i vi hi).1
    have k2 := tup_keep hk' (tupi j vj hj).1
    exact pairs_gt (by show X.A.units + 1 < cLine; omega) k1 k2 _ _ E' Q' hq
  · obtain ⟨h', tk, rfl, hk'⟩ := PySem.W.moved_old e rfl m
    obtain ⟨_, x, hx', rr, hlt⟩ := tupi _ v hP
    have e1 : its.toArray.size - 1 = ps.length := by rw [hlen]; rfl
    have e2 := (PySem.W.argBest_fold (fun a b => ltPI b a) (0, 0) p ps ps.length (Nat.le_refl _)).2
    rw [List.take_length] at e2
    rw [e1] at hx' hlt
    refine ⟨x, H, I.kept (t' := tk) hk', rr, q _ x hx' ?_⟩
    obtain ⟨z, hz'⟩ : ∃ z, (p :: ps)[argBest (fun i j => ltPI ((p :: ps).getD j (0, 0)) ((p :: ps).getD i (0, 0))) ps.length]? = some z := ⟨_, List.getElem?_eq_getElem (by rw [List.length_cons]; exact hlt)⟩
    rw [List.getD_eq_getElem?_getD, hz'] at e2
    rw [hz']
    exact congrArg some e2
end
end G

set_option Elab.async false
set_option linter.all false
set_option maxRecDepth 100000
set_option maxHeartbeats 4000000
/-! built-ins outside of except suites: sorted, sum, dict; d.get; {} -/
namespace G
open PySem PySem.Spec PyProof.Rows L2

theorem sorted_eq : ∀ {a b : List Int}, a.Perm b → a.Pairwise (· ≤ ·) → b.Pairwise (· ≤ ·) → a = b
  | [], b, h, _, _ => by rw [List.nil_perm.mp h]
  | x :: a, b, h, h1, h2 => by
    cases b with
    | nil => exact absurd h.length_eq (by simp)
    | cons y b =>
      rw [List.pairwise_cons] at h1 h2
      have e : x = y := by
        have m1 : x ∈ y :: b := h.mem_iff.mp List.mem_cons_self
        have m2 : y ∈ x :: a := h.mem_iff.mpr List.mem_cons_self
        rcases List.mem_cons.mp m1 with e | m1
        · exact e
        · rcases List.mem_cons.mp m2 with e | m2
          · exact e.symm
          · have := h1.1 y m2
            have := h2.1 x m1
            omega
      subst e
      rw [sorted_eq (List.Perm.cons_inv h) h1.2 h2.2]
def sortI (l : List Int) : List Int := l.mergeSort fun a b => decide (a ≤ b)
theorem sortI_perm (l : List Int) : (sortI l).Perm l := List.mergeSort_perm _ _
theorem sortI_sorted (l : List Int) : (sortI l).Pairwise (· ≤ ·) := by
  have := List.pairwise_mergeSort (le := fun a b : Int => decide (a ≤ b)) (fun a b c h1 h2 => by simp at h1 h2 ⊢; omega) (fun a b => by simp; omega) l
  exact this.imp fun h => by simpa using h
theorem sortI_of {l ys : List Int} (h : ys.Perm l) (h2 : ys.Pairwise (· ≤ ·)) : ys = sortI l := sorted_eq (h.trans (sortI_perm l).symm) h2 (sortI_sorted l)
def kyInts : List Ky → Option (List Int)
  | [] => some []
  | .inl i :: r => (kyInts r).map (i :: ·)
  | .inr _ :: _ => none
def vaInts : List Va → Option (List Int)
  | [] => some []
  | .int i :: r => (vaInts r).map (i :: ·)
  | _ :: _ => none
theorem kyInts_ok : ∀ {ks : List Ky} {is : List Int}, kyInts ks = some is → ks = is.map Sum.inl
  | [], is, h => by cases h; rfl
  | .inl i :: r, is, h => by
    obtain ⟨js, e, rfl⟩ := map_some h
    rw [kyInts_ok e]
    rfl
  | .inr _ :: _, is, h => by cases h
theorem vaInts_ok : ∀ {l : List Va} {is : List Int}, vaInts l = some is → l = is.map Va.int
  | [], is, h => by cases h; rfl
  | .int i :: r, is, h => by
    obtain ⟨js, e, rfl⟩ := map_some h
    rw [vaInts_ok e]
    rfl
  | .non :: _, is, h => by cases h
  | .bl _ :: _, is, h => by cases h
  | .str _ :: _, is, h => by cases h
  | .tup _ :: _, is, h => by cases h
  | .lst _ :: _, is, h => by cases h
  | .dic _ _ :: _, is, h => by cases h
  | .scr _ :: _, is, h => by cases h
  | .ref _ :: _, is, h => by cases h
theorem rvs_ints {K : PySem.W.Frag} {F : Hp} {μ : List Addr} : ∀ {is : List Int} {vs : List V}, RVs K F μ (is.map Va.int) vs → vs = is.map V.int
  | [], _, .nil => rfl
  | i :: is, _, .cons r t => by cases r; rw [rvs_ints t]; rfl
theorem ints_rvs {K : PySem.W.Frag} {F : Hp} {μ : List Addr} : ∀ (is : List Int), RVs K F μ (is.map Va.int) (is.map V.int)
  | [] => .nil
  | i :: is => .cons (.int i) (ints_rvs is)
/-! ### texts sorted -/
def leT (a b : Tx) : Bool := !decide (b < a)
theorem leT_iff {a b : Tx} : leT a b = true ↔ a ≤ b := by
  unfold leT
  rw [Bool.not_eq_true', decide_eq_false_iff_not]
  exact List.not_lt
theorem leT_trans (a b c : Tx) (h1 : leT a b = true) (h2 : leT b c = true) : leT a c = true := leT_iff.mpr (List.le_trans (leT_iff.mp h1) (leT_iff.mp h2))
theorem leT_total (a b : Tx) : (leT a b || leT b a) = true := by
  rw [Bool.or_eq_true, leT_iff, leT_iff]
  exact List.le_total a b
theorem leT_anti {a b : Tx} (h1 : leT a b = true) (h2 : leT b a = true) : a = b := List.le_antisymm (leT_iff.mp h1) (leT_iff.mp h2)
theorem sortedT_eq : ∀ {a b : List Tx}, a.Perm b → a.Pairwise (fun x y => leT x y = true) → b.Pairwise (fun x y => leT x y = true) → a = b
  | [], b, h, _, _ => by rw [List.nil_perm.mp h]
  | x :: a, b, h, h1, h2 => by
    cases b with
    | nil => exact absurd h.length_eq (by simp)
    | cons y b =>
      rw [List.pairwise_cons] at h1 h2
      have e : x = y := by
        have m1 : x ∈ y :: b := h.mem_iff.mp List.mem_cons_self
        have m2 : y ∈ x :: a := h.mem_iff.mpr List.mem_cons_self
        rcases List.mem_cons.mp m1 with e | m1
        · exact e
        · rcases List.mem_cons.mp m2 with e | m2
          · exact e.symm
          · exact leT_anti (h1.1 y m2) (h2.1 x m1)
      subst e
      rw [sortedT_eq (List.Perm.cons_inv h) h1.2 h2.2]
def sortT (l : List Tx) : List Tx := l.mergeSort leT
theorem sortT_perm (l : List Tx) : (sortT l).Perm l := List.mergeSort_perm _ _
theorem sortT_sorted (l : List Tx) : (sortT l).Pairwise fun x y => leT x y = true := List.pairwise_mergeSort leT_trans leT_total l
theorem risingS_pw : ∀ (l : List Str) (p : Str), risingS p l = true → (p :: l).Pairwise fun x y => leT x.cps.toList y.cps.toList = true
  | [], p, _ => by simp
  | x :: r, p, h => by
    unfold risingS at h
    rw [Bool.and_eq_true] at h
    have ih := risingS_pw r x h.2
    have h1 : leT p.cps.toList x.cps.toList = true := by
      have := h.1
      rw [ltCps_eq] at this
      exact this
    refine List.pairwise_cons.mpr ⟨fun y hy => ?_, ih⟩
    rcases List.mem_cons.mp hy with e | hm
    · rw [e]; exact h1
    · exact leT_trans _ _ _ h1 ((List.pairwise_cons.mp ih).1 y hm)
theorem sortT_of {l : List Tx} {ys : List Str} (h : ys.Perm (l.map mkS)) (h2 : sortedS ys = true) : ys = (sortT l).map mkS := by
  have e1 : ∀ z : Str, mkS z.cps.toList = z := fun z => by cases z; rfl
  have e2 : (ys.map fun z : Str => z.cps.toList) = sortT l := by
    refine sortedT_eq ?_ ?_ (sortT_sorted l)
    · have h3 := h.map fun z : Str => z.cps.toList
      rw [List.map_map] at h3
      have e3 : (l.map ((fun z : Str => z.cps.toList) ∘ mkS)) = l := by
        conv => rhs; rw [← List.map_id l]
        rfl
      rw [e3] at h3
      exact h3.trans (sortT_perm l).symm
    · rw [List.pairwise_map]
      cases ys with
      | nil => exact List.Pairwise.nil
      | cons y r => exact risingS_pw r y h2
  rw [← e2, List.map_map]
  conv => lhs; rw [← List.map_id ys]
  exact List.map_congr_left fun z _ => (e1 z).symm
def kyTxs : List Ky → Option (List Tx)
  | [] => some []
  | .inr x :: r => (kyTxs r).map (x :: ·)
  | .inl _ :: _ => none
theorem kyTxs_ok : ∀ {ks : List Ky} {is : List Tx}, kyTxs ks = some is → ks = is.map Sum.inr
  | [], is, h => by cases h; rfl
  | .inr i :: r, is, h => by
    obtain ⟨js, e, rfl⟩ := map_some h
    rw [kyTxs_ok e]
    rfl
  | .inl _ :: _, is, h => by cases h
theorem strs_rvs {K : PySem.W.Frag} {F : Hp} {μ : List Addr} : ∀ (is : List Tx), RVs K F μ (is.map Va.str) ((is.map mkS).map V.str)
  | [] => .nil
  | i :: is => .cons (.str i) (strs_rvs is)
def mkD (m : Bool) (ks : List Ky) (l : List Va) (st : Sto) : R Va := if m then .ok (.ref st.length) (st ++ [some (.dic ks l)]) else .ok (.dic ks l) st
section
variable {K : PySem.W.Frag} {ct : Ct} {W : WX} {F : Hp} {μ : List Addr} {H : Hp} {σ : L2.St} {st : Sto}
theorem mkD_ok {m : Bool} {ks : List Ky} {l : List Va} {kvs : List (Key × V)} {Q : VK} (r : Rel K ct F μ st H) (hk : kvs.map (·.1) = ks.map kyK) (rs : RVs K F μ l (kvs.map (·.2))) (h : GPost K ct W (RV K) σ F μ H Q (mkD m ks l st)) : ∀ p, H p = none → Q (.ref p) (upd H p (.dK kvs)) := by
  intro p hp
  cases m with
  | false => exact h _ _ _ _ (.frz r hp _) (r.frz hp _) (.dic (.inl upd_same) hk (rs.mono (same_upd (r.nofrz hp)) List.prefix_rfl))
  | true =>
    refine h _ _ _ _ (.put r hp _) (r.put hp (.dic upd_same hk rs)) (.ref ?_)
    rw [r.len, List.getElem?_append_right (Nat.le_refl _)]
    simp
end
inductive Cb | sorted | sum | dict | mn | mx
def vPr (p : Int × Int) : Va := .tup [.int p.1, .int p.2]
def prsI : List Va → Option (List (Int × Int))
  | [] => some []
  | .tup [.int i, .int j] :: r => (prsI r).map ((i, j) :: ·)
  | _ :: _ => none
theorem prsI_ok : ∀ {l : List Va} {ps : List (Int × Int)}, prsI l = some ps → l = ps.map vPr
  | [], ps, h => by cases h; rfl
  | x :: r, ps, h => by
    unfold prsI at h
    split at h
    · cases h; rename_i e; cases e
    · rename_i i j r' e
      cases e
      obtain ⟨js, e, rfl⟩ := map_some h
      rw [prsI_ok e]
      rfl
    · cases h
theorem max_in : ∀ (is : List Int) (i : Int), is.foldl max i ∈ i :: is ∧ ∀ y ∈ i :: is, y ≤ is.foldl max i
  | [], i => ⟨by simp, fun y h => by simp at h; simp [h]⟩
  | j :: is, i => by
    obtain ⟨h1, h2⟩ := max_in is (max i j)
    rw [List.foldl_cons]
    refine ⟨?_, fun y hy => ?_⟩
    · rcases List.mem_cons.mp h1 with e | h
      · rw [e]
        by_cases c : i ≤ j
        · rw [Int.max_eq_right c]; simp
        · rw [Int.max_eq_left (by omega)]; simp
      · exact List.mem_cons_of_mem _ (List.mem_cons_of_mem _ h)
    · have h0 := h2 (max i j) List.mem_cons_self
      rcases List.mem_cons.mp hy with rfl | hy
      · omega
      · rcases List.mem_cons.mp hy with rfl | hy
        · omega
        · exact h2 y (List.mem_cons_of_mem _ hy)
theorem min_in : ∀ (is : List Int) (i : Int), is.foldl min i ∈ i :: is ∧ ∀ y ∈ i :: is, is.foldl min i ≤ y
  | [], i => ⟨by simp, fun y h => by simp at h; simp [h]⟩
  | j :: is, i => by
    obtain ⟨h1, h2⟩ := min_in is (min i j)
    rw [List.foldl_cons]
    refine ⟨?_, fun y hy => ?_⟩
    · rcases List.mem_cons.mp h1 with e | h
      · rw [e]
        by_cases c : i ≤ j
        · rw [Int.min_eq_left c]; simp
        · rw [Int.min_eq_right (by omega)]; simp
      · exact List.mem_cons_of_mem _ (List.mem_cons_of_mem _ h)
    · have h0 := h2 (min i j) List.mem_cons_self
      rcases List.mem_cons.mp hy with rfl | hy
      · omega
      · rcases List.mem_cons.mp hy with rfl | hy
        · omega
        · exact h2 y (List.mem_cons_of_mem _ hy)
/-- min, max of a list of ints, or of pairs of ints -/
def bestV (f : Int × Int → Int × Int → Bool) (g : Int → Int → Int) (l : List Va) (st : Sto) : R Va := match l with
  | [x] => match lstOf x st with
    | some l => match vaInts l with
      | some (i :: is) => .ok (.int (is.foldl g i)) st
      | some [] => .stuck
      | none => match prsI l with
        | some (p :: ps) => .ok (vPr (bestI f p ps)) st
        | _ => .stuck
    | none => .stuck
  | _ => .stuck
def sortedV (m : Bool) (l : List Va) (st : Sto) : R Va := match l with
  | [x] => match dicOf x st with
    | some (ks, _) => match kyInts ks with
      | some is => if is.length < 64 then mkL m ((sortI is).map .int) st else .stuck
      | none => match kyTxs ks with
        | some ts => if ts.length < 64 then mkL m ((sortT ts).map .str) st else .stuck
        | none => .stuck
    | none => match lstOf x st with
      | some l => match vaInts l with
        | some is => mkL m ((sortI is).map .int) st
        | none => match strsOf l with
          | some ts => if ts.length < 64 then mkL m ((sortT ts).map .str) st else .stuck
          | none => .stuck
      | none => .stuck
  | _ => .stuck
def sumV (l : List Va) (st : Sto) : R Va := match l with
  | [x] => match lstOf x st with
    | some l => match vaInts l with
      | some is => .ok (.int is.sum) st
      | none => .stuck
    | none => .stuck
  | _ => .stuck
def dictV (m : Bool) (l : List Va) (st : Sto) : R Va := match l with
  | [x] => match dicOf x st with
    | some (ks, l) => mkD m ks l st
    | none => .stuck
  | _ => .stuck
def cbV (b : Cb) (m : Bool) : List Va → Sto → R Va := match b with
  | .sorted => sortedV m | .sum => sumV | .dict => dictV m | .mn => bestV ltPI min | .mx => bestV (fun a b => ltPI b a) max
def cbN : Cb → Str
  | .sorted => "sorted" | .sum => "sum" | .dict => "dict" | .mn => "min" | .mx => "max"
section
variable {X : Cx} {ct : Ct} {W : WX}
theorem call_sortedV (hc : X.calm = true) (m : Bool) : CallR X (.builtin "sorted") (cOf X.K ct W (sortedV m)) := by
  intro pins s σ H xs us Q I rs h
  obtain ⟨F, μ, st, ws, σ', r, rv, p⟩ := h
  unfold sortedV at p
  split at p
  · rename_i x
    obtain ⟨v, rfl, r1⟩ := rv.one
    split at p
    · rename_i ks l ed
      obtain ⟨a, kvs, rfl, g1, g2, g3⟩ := dicOf_ok r r1 ed
      split at p
      · rename_i is ei
        split at p
        · rename_i hl
          refine call_sortedDI hc pins s σ H _ us Q I rs ⟨a, kvs, is, rfl, g1, by rw [g2, kyInts_ok ei, List.map_map]; rfl, hl, fun ys p' h1 h2 hn => ?_⟩
          rw [sortI_of h1 h2]
          exact (mkL_ok r (ints_rvs _) p).2 p' hn
        · exact p.elim
      · split at p
        · rename_i ts et
          split at p
          · rename_i hl
            refine call_sortedD hc pins s σ H _ us Q I rs ⟨a, kvs, ts.map mkS, rfl, g1, by rw [g2, kyTxs_ok et, List.map_map, List.map_map]; rfl, by rw [List.length_map]; exact hl, fun ys p' h1 h2 hn => ?_⟩
            rw [sortT_of h1 h2]
            exact (mkL_ok r (strs_rvs _) p).2 p' hn
          · exact p.elim
        · exact p.elim
    · split at p
      · rename_i l el
        obtain ⟨a, vs, rfl, g1, g2⟩ := lstOf_ok r r1 el
        split at p
        · rename_i is ei
          rw [vaInts_ok ei] at g2
          have := rvs_ints g2
          subst this
          refine cr_sortedI pins s σ H _ us Q I rs ⟨a, is, rfl, .of g1, fun ys p' h1 h2 hn => ?_⟩
          rw [sortI_of h1 h2]
          exact (mkL_ok r (ints_rvs _) p).2 p' hn
        · split at p
          · rename_i ts et
            split at p
            · rename_i hl
              rw [strsOf_ok g2 et] at g1
              refine cr_sortedS pins s σ H _ us Q I rs ⟨a, ts.map mkS, rfl, .of g1, by rw [List.length_map]; exact hl, fun ys p' h1 h2 hn => ?_⟩
              rw [sortT_of h1 h2]
              exact (mkL_ok r (strs_rvs _) p).2 p' hn
            · exact p.elim
          · exact p.elim
      · exact p.elim
  · exact p.elim
theorem call_sumV (hc : X.calm = true) : CallR X (.builtin "sum") (cOf X.K ct W sumV) := by
  intro pins s σ H xs us Q I rs h
  obtain ⟨F, μ, st, ws, σ', r, rv, p⟩ := h
  unfold sumV at p
  split at p
  · rename_i x
    obtain ⟨v, rfl, r1⟩ := rv.one
    split at p
    · rename_i l el
      obtain ⟨a, vs, rfl, g1, g2⟩ := lstOf_ok r r1 el
      split at p
      · rename_i is ei
        rw [vaInts_ok ei] at g2
        have := rvs_ints g2
        subst this
        exact cr_sum hc pins s σ H _ us Q I rs ⟨a, is, rfl, .of g1, p.here r (.int _)⟩
      · exact p.elim
    · exact p.elim
  · exact p.elim
theorem call_dictV (m : Bool) : CallR X (.type "dict") (cOf X.K ct W (dictV m)) := by
  intro pins s σ H xs us Q I rs h
  obtain ⟨F, μ, st, ws, σ', r, rv, p⟩ := h
  unfold dictV at p
  split at p
  · rename_i x
    obtain ⟨v, rfl, r1⟩ := rv.one
    split at p
    · rename_i ks l ed
      obtain ⟨a, kvs, rfl, g1, g2, g3⟩ := dicOf_ok r r1 ed
      obtain ⟨u, rfl, ru⟩ := vals1 rs
      obtain rfl : u = Value.ref a := ru
      exact d_copyOf I g1 fun p' s' hn J => ⟨.ref p', _, J, rfl, mkD_ok r g2 g3 p p' hn⟩
    · exact p.elim
  · exact p.elim
theorem pairs_here {K : PySem.W.Frag} {F : Hp} {μ : List Addr} {H : Hp} {st : Sto} {ps : List (Int × Int)} {vs : List V} (r : Rel K ct F μ st H) (rs : RVs K F μ (ps.map vPr) vs) : vs.length = ps.length ∧ (∀ (i : Nat) (x : V) (q : Int × Int), vs[i]? = some x → ps[i]? = some q → ∃ t, x = .ref t ∧ SqT K H t [.int q.1, .int q.2]) ∧ ∀ (i : Nat) (x : V) (q : Int × Int), vs[i]? = some x → ps[i]? = some q → RV K F μ (vPr q) x := by
  have hg : ∀ (i : Nat) (x : V) (q : Int × Int), vs[i]? = some x → ps[i]? = some q → RV K F μ (vPr q) x := fun i x q hx hq => by
    obtain ⟨v, hv, rv⟩ := rs.get (i := i) (w := vPr q) (by rw [List.getElem?_map, hq]; rfl)
    rw [hx] at hv
    cases hv
    exact rv
  refine ⟨by rw [← rs.length, List.length_map], fun i x q hx hq => ?_, hg⟩
  have rv := hg i x q hx hq
  obtain ⟨a, ws, e, h1, h2⟩ := tupOf_ok (l := [.int q.1, .int q.2]) rv rfl
  obtain ⟨u, v, rfl, r1, r2⟩ := h2.two
  cases r1
  cases r2
  exact ⟨a, e, r.sub0.tupl h1⟩
theorem call_bestMn (hc : X.calm = true) (hu : X.A.units + 64 < cLine) : CallR X (.builtin "min") (cOf X.K ct W (bestV ltPI min)) := by
  intro pins s σ H xs us Q I rs h
  obtain ⟨F, μ, st, ws, σ', r, rv, p⟩ := h
  unfold bestV at p
  split at p
  · rename_i x
    obtain ⟨v, rfl, r1⟩ := rv.one
    split at p
    · rename_i l el
      obtain ⟨a, vs, rfl, g1, g2⟩ := lstOf_ok r r1 el
      split at p
      · rename_i i is ei
        rw [vaInts_ok ei] at g2
        have := rvs_ints g2
        subst this
        refine cr_min hc pins s σ H _ us Q I rs ⟨a, i :: is, rfl, .of g1, by simp, fun m h1 h2 => ?_⟩
        obtain ⟨k1, k2⟩ := min_in is i
        have e : m = is.foldl min i := Int.le_antisymm (h2 _ k1) (k2 m h1)
        rw [e]
        exact p.here r (.int _)
      · exact p.elim
      · split at p
        · rename_i q ps ep
          rw [prsI_ok ep] at g2
          obtain ⟨k1, k2, k3⟩ := pairs_here r g2
          exact cr_minP hc hu pins s σ H _ us Q I rs ⟨a, vs, q, ps, rfl, .of g1, by rw [k1]; rfl, k2, fun i x hx hq => p.here r (k3 i x _ hx hq)⟩
        · exact p.elim
    · exact p.elim
  · exact p.elim
theorem call_bestMx (hc : X.calm = true) (hu : X.A.units + 64 < cLine) : CallR X (.builtin "max") (cOf X.K ct W (bestV (fun a b => ltPI b a) max)) := by
  intro pins s σ H xs us Q I rs h
  obtain ⟨F, μ, st, ws, σ', r, rv, p⟩ := h
  unfold bestV at p
  split at p
  · rename_i x
    obtain ⟨v, rfl, r1⟩ := rv.one
    split at p
    · rename_i l el
      obtain ⟨a, vs, rfl, g1, g2⟩ := lstOf_ok r r1 el
      split at p
      · rename_i i is ei
        rw [vaInts_ok ei] at g2
        have := rvs_ints g2
        subst this
        refine cr_max hc pins s σ H _ us Q I rs ⟨a, i :: is, rfl, .of g1, by simp, fun m h1 h2 => ?_⟩
        obtain ⟨k1, k2⟩ := max_in is i
        have e : m = is.foldl max i := Int.le_antisymm (k2 m h1) (h2 _ k1)
        rw [e]
        exact p.here r (.int _)
      · exact p.elim
      · split at p
        · rename_i q ps ep
          rw [prsI_ok ep] at g2
          obtain ⟨k1, k2, k3⟩ := pairs_here r g2
          exact cr_maxP hc hu pins s σ H _ us Q I rs ⟨a, vs, q, ps, rfl, .of g1, by rw [k1]; rfl, k2, fun i x hx hq => p.here r (k3 i x _ hx hq)⟩
        · exact p.elim
    · exact p.elim
  · exact p.elim
theorem cb_ok (hc : X.calm = true) (hu : X.A.units + 64 < cLine) (b : Cb) (m : Bool) : (∃ id, CallR X (.builtin id) (cOf X.K ct W (cbV b m)) ∧ bootBuiltins (cbN b) = some (.builtin id)) ∨ ∃ t, CallR X (.type t) (cOf X.K ct W (cbV b m)) ∧ bootBuiltins (cbN b) = some (.type t) := by
  cases b
  · exact .inl ⟨_, call_sortedV hc m, by decide +kernel⟩
  · exact .inl ⟨_, call_sumV hc, by decide +kernel⟩
  · exact .inr ⟨_, call_dictV m, by decide +kernel⟩
  · exact .inl ⟨_, call_bestMn hc hu, by decide +kernel⟩
  · exact .inl ⟨_, call_bestMx hc hu, by decide +kernel⟩
/-- d.get(k), d.get(k, x) -/
def getV (x : Va) (l : List Va) (st : Sto) : R Va := match dicOf x st with
  | some (ks, ws) => match l with
    | [k] => match kyOf k with
      | some k => .ok ((atKy ks ws k).getD .non) st
      | none => .stuck
    | [k, d] => match kyOf k with
      | some k => .ok ((atKy ks ws k).getD d) st
      | none => .stuck
    | _ => .stuck
  | none => .stuck
theorem getD_ok {K : PySem.W.Frag} {F : Hp} {μ : List Addr} {k : Ky} {ks : List Ky} {ws : List Va} {kvs : List (Key × V)} {d : Va} {dv : V} (g2 : kvs.map (·.1) = ks.map kyK) (g3 : RVs K F μ ws (kvs.map (·.2))) (rd : RV K F μ d dv) : RV K F μ ((atKy ks ws k).getD d) ((valV kvs (kyK k)).getD dv) := by
  obtain ⟨h1, h2⟩ := atKy_ok k g2 g3
  cases e : atKy ks ws k with
  | none => rw [h2 e]; exact rd
  | some w =>
    obtain ⟨v, hv, rv⟩ := h1 w e
    rw [hv]
    exact rv
theorem mt_getV (hu : X.A.units + 64 < cLine) : MtR X "dict.get" (mOf X.K ct W getV) := by
  intro pins s σ H x vs v us Q I rx rv h
  obtain ⟨F, μ, st, w, ws, σ', r, r1, r2, p⟩ := h
  unfold getV at p
  split at p
  · rename_i ks l ed
    obtain ⟨a, kvs, rfl, g1, g2, g3⟩ := dicOf_ok r r1 ed
    obtain rfl : v = Value.ref a := rx
    split at p
    · rename_i k
      obtain ⟨kv, rfl, rk⟩ := r2.one
      obtain ⟨u, rfl, ru⟩ := vals1 rv
      split at p
      · rename_i ky ek
        obtain rfl := kyOf_ok rk ek
        exact d_get1 (by omega) I (.inl ⟨kvs, _, g1, rfl, rfl⟩) ru fun w' s' J rw' => ⟨_, H, J, rw', p.here r (getD_ok g2 g3 .non)⟩
      · exact p.elim
    · rename_i k d
      obtain ⟨kv, dv, rfl, rk, rd⟩ := r2.two
      cases rv with
      | cons ru rr =>
      cases rr with
      | cons ru2 rr =>
      cases rr
      split at p
      · rename_i ky ek
        obtain rfl := kyOf_ok rk ek
        exact d_get2 (by omega) I (.inl ⟨kvs, _, g1, rfl, rfl⟩) ru ru2 fun w' s' J rw' => ⟨_, H, J, rw', p.here r (getD_ok g2 g3 rd)⟩
      · exact p.elim
    · exact p.elim
  · exact p.elim
/-- {} -/
def mDnew (m : Bool) : Mx Va := fun _ st => mkD m [] [] st
theorem sim_dnew {m : Bool} {pos : Pos} : PE X (.Dict [] [] pos) (TE' X ct W (mDnew m)) := PE.mono pe_dnewK fun σ H Q ⟨F, μ, env, st, r, re, p⟩ => fun p' hn => mkD_ok (kvs := []) r rfl .nil p p' hn
end
end G

set_option Elab.async false
set_option linter.all false
set_option maxRecDepth 100000
set_option maxHeartbeats 8000000
namespace G
open PySem PySem.Spec PyProof.Rows L2

/-! ### all(test(sign) for sign in text) -/
/-- the test's body: return p.isalnum() or p in g -/
def signB (p g : Str) (sc : Scope) : List Stmt → Bool
  | [.Return (some (.BoolOp .Or [.Call (.Attribute (.Name p1 _) m apos) [] [] cpos, .Compare (.Name p2 _) [.In] [.Name g1 _] _] _)) _] =>
    decide (p1 = p) && (decide (m = "isalnum") && (decide (p2 = p) && (decide (g1 = g) && ((apos.endLine == cpos.line) && (!(p == ("__debug__" : Str)) && (!(g == ("__debug__" : Str)) && (decide (sc.names.lookup p = some .local) && (decide (sc.names.lookup g = some .globalImplicit) && sc.names.all fun y => decide (y.2 ≠ .cell)))))))))
  | _ => false
/-- the test's body: return p.isalnum() or p == "c" -/
def signB2 (p : Str) (gs : Tx) (sc : Scope) : List Stmt → Bool
  | [.Return (some (.BoolOp .Or [.Call (.Attribute (.Name p1 _) m apos) [] [] cpos, .Compare (.Name p2 _) [.Eq] [.Constant (.str z) _ _] _] _)) _] =>
    decide (p1 = p) && (decide (m = "isalnum") && (decide (p2 = p) && (decide (z.cps.toList = gs) && (decide (gs.length = 1) && ((apos.endLine == cpos.line) && (!(p == ("__debug__" : Str)) && (decide (sc.names.lookup p = some .local) && sc.names.all fun y => decide (y.2 ≠ .cell))))))))
  | _ => false
/-- what is known of such a test -/
structure SignF (K : PySem.W.Frag) (mg : Str → Option Value) (f : Str) (gs : Tx) : Prop where
  ex : ∃ (a : Addr) (x qual : Str) (params : Arguments) (body : List Stmt) (scope : Scope) (kws : List (Str × V)) (fd : FuncData) (N : List Str) (p : Str),
    mg f = some (.ref a) ∧ FunD K x qual params body scope [] kws a fd ∧ FnScope N [p] scope ∧ KB fd [p] [] ∧ ((∃ (g : Str) (t : Tok), signB p g scope body = true ∧ mg g = some (.str (mkS gs) t)) ∨ signB2 p gs scope body = true)
def sgV (gs : Tx) (c : Nat) : Bool := Txt.isalnum ⟨#[c]⟩ || decide (c ∈ gs)
theorem keeps_of {s : Shared} {h : Heap} {k : Nat} (e : ∀ b o, s.heap.get? b = some o → h.get? b = some o) : Keeps s { s with heap := h, toks := k } := ⟨h, k, rfl, e⟩

/-- the test's call -/
theorem elt_sign {prog : Program} {w : World} {K : PySem.W.Frag} {mg : Str → Option Value} {base : Heap} {f x : Str} {gs : Tx} {p1 p2 pos : Pos} {gsc : Scope} (S : SignF K mg f gs) (KX : K.In base) (hns : base.Ns mainGlobals mg) (hlm : base.NoLimit)
    (hk : gsc.kind = .function) (hx : gsc.names.lookup x = some .local) (hf : gsc.names.lookup f = some .globalImplicit) (hfd : (f == ("__debug__" : Str)) = false) (hxd : (x == ("__debug__" : Str)) = false)
    {cenv : Env} {A' : Around} {E' : Value → Shared → Prop} {c : Nat} {t : Tok} {s₂ : Shared} {m₂ : Str → Option Value} (hs : cenv.scope = gsc) (hgl : cenv.globals = mainGlobals) (hh : A'.handled = none) (hd : A'.depth < recursionLimit)
    (hb : ∀ b o, base.get? b = some o → s₂.heap.get? b = some o) (hn : s₂.heap.Ns cenv.locals m₂) (hm : m₂ x = some (.str ⟨#[c]⟩ t)) :
    wpAny (model prog w) A' (eval (.Call (.Name f p1) [.Name x p2] [] pos) cenv) (fun y s₃ => y = .bool (sgV gs c) ∧ Keeps s₂ s₃) E' s₂ := by
  obtain ⟨a, xn, qual, params, body, scope, kws, fd, N, p, e1, F, FS, kb, hsb⟩ := S.ex
  obtain ⟨oc, od, dV, kV, doc, pm, an, cdv, ct, osl, rfl, lk, hcd, _, _⟩ := F.ex
  have kx2 : K.In s₂.heap := KX.keeps hb
  refine wpAny_Call_Name_kw (Calls.Name_function_global (by rw [hs]; exact hk) (by show cenv.scope.names.lookup f = _; rw [hs]; exact hf) (Calls.loadGlobal_global (by rw [hgl]; exact hns.keeps hb) e1 ?_) hfd)
  refine PySem.W.callWith_K (h₀ := base) KX F.kp ?_
  refine Calls.spliced_cons (wpAny_Name (wpAny_loadName_local (by rw [hs]; exact hk) (show cenv.scope.names.lookup x = _ by rw [hs]; exact hx) hn hm ?_) hxd)
  refine Calls.spliced_nil ⟨kx2, wpAny_call ?_⟩
  have cls : scope.names.lookup p = some .local ∧ (∀ y ∈ scope.names, y.2 ≠ .cell) ∧ (p == ("__debug__" : Str)) = false := by
    rcases hsb with ⟨g, tg, sb, _⟩ | sb
    · unfold signB at sb
      split at sb
      case h_2 => cases sb
      simp only [Bool.and_eq_true, decide_eq_true_eq, Bool.not_eq_true', List.all_eq_true] at sb
      exact ⟨sb.2.2.2.2.2.2.2.1, sb.2.2.2.2.2.2.2.2.2, sb.2.2.2.2.2.1⟩
    · unfold signB2 at sb
      split at sb
      case h_2 => cases sb
      simp only [Bool.and_eq_true, decide_eq_true_eq, Bool.not_eq_true', List.all_eq_true] at sb
      exact ⟨sb.2.2.2.2.2.2.2.1, sb.2.2.2.2.2.2.2.2, sb.2.2.2.2.2.2.1⟩
  obtain ⟨hpl, hcl, hpd⟩ := cls
  refine codeAny_call_def hd (kx2 _ _ lk) rfl (hlm.keeps hb) (PySem.W.codeRec_of kx2 hcd) rfl (BindsTo.of_eq (kb [.str ⟨#[c]⟩ t] [] rfl rfl)) (fun y hy => hcl y hy) (fun y hy => ?_) (fun h₀ hns₀ hk₀ => ?_) FS.co FS.gen FS.kind
  · have hy : y ∈ [(p, Value.str ⟨#[c]⟩ t)] := hy
    rw [List.mem_singleton.mp hy]
    exact hpl
  have look : (fun x => (List.zip [p] ([Value.str ⟨#[c]⟩ t] ++ [])).reverse.lookup x) p = some (.str ⟨#[c]⟩ t) := by simp
  have ld : ∀ {A : Around} {E : Value → Shared → Prop} {Q : Value → Shared → Prop} {s : Shared} {ps : Pos} {env : Env}, env.scope = scope → env.locals = s₂.heap.objs.size → (∀ b o, h₀.get? b = some o → s.heap.get? b = some o) → Q (.str ⟨#[c]⟩ t) s → wpAny (model prog w) A (eval (.Name p ps) env) Q E s := fun {A E Q s ps env} h1 h2 h3 h4 => by
    refine wpAny_Name (wpAny_loadName_local (by rw [h1]; exact FS.kind) (show env.scope.names.lookup p = _ by rw [h1]; exact hpl) (by rw [h2]; exact hns₀.keeps h3) look h4) hpd
  have fin : ∀ (k : Nat), Keeps s₂ { s₂ with heap := h₀, toks := k } := fun k => keeps_of hk₀
  rcases hsb with ⟨g, tg, sb, e2⟩ | sb
  · unfold signB at sb
    split at sb
    case h_2 => cases sb
    rename_i p1' k4 m apos cpos p2' k5 g1 k6 k7 k8 k9
    simp only [Bool.and_eq_true, decide_eq_true_eq, Bool.not_eq_true', List.all_eq_true] at sb
    obtain ⟨rfl, rfl, rfl, rfl, hline, _, hgd, _, hgg, _⟩ := sb
    refine wpAny_execs_cons (wpAny_Return_some ?_)
    refine BoolOp_or (Call_method0 rfl hline (ld rfl rfl (fun b o e => e) (SB.isalnum (wpAny_truthy_bool ?_))))
    cases hi : Txt.isalnum ⟨#[c]⟩ with
    | true =>
      simp only [if_true]
      exact ⟨by unfold sgV; rw [hi]; rfl, fin _⟩
    | false =>
      rw [if_neg Bool.false_ne_true]
      refine BoolOp_one (wpAny_Compare1 (ld rfl rfl (fun b o e => e) (Calls.Name_function_global FS.kind hgg (Calls.loadGlobal_global (hns.keeps fun b o e => hk₀ b o (hb b o e)) e2 (in_str ?_)) hgd)))
      have fo := StrLaws.found_one (mkS gs) c
      refine ⟨?_, fin _⟩
      unfold sgV
      rw [hi, Bool.false_or]
      rw [tl_mkS] at fo
      exact congrArg Value.bool fo
  · unfold signB2 at sb
    split at sb
    case h_2 => cases sb
    rename_i p1' k4 m apos cpos p2' k5 z k6 k7 k8 k9 k10
    simp only [Bool.and_eq_true, decide_eq_true_eq, Bool.not_eq_true', List.all_eq_true] at sb
    obtain ⟨rfl, rfl, rfl, hz, hgl1, hline, _, _, _⟩ := sb
    refine wpAny_execs_cons (wpAny_Return_some ?_)
    refine BoolOp_or (Call_method0 rfl hline (ld rfl rfl (fun b o e => e) (SB.isalnum (wpAny_truthy_bool ?_))))
    cases hi : Txt.isalnum ⟨#[c]⟩ with
    | true =>
      simp only [if_true]
      exact ⟨by unfold sgV; rw [hi]; rfl, fin _⟩
    | false =>
      rw [if_neg Bool.false_ne_true]
      refine BoolOp_one (wpAny_Compare1 (ld rfl rfl (fun b o e => e) (wpAny_Constant_str (PyProof.Rows.eq_str ?_))))
      refine ⟨?_, fin _⟩
      unfold sgV
      rw [hi, Bool.false_or, ← PyProof.Rows.toList_beq, hz]
      obtain ⟨c', rfl⟩ := List.length_eq_one_iff.mp hgl1
      refine congrArg Value.bool ?_
      rw [Bool.eq_iff_iff]
      simp

section
variable {X : Cx} {pins : List (Addr × Obj)} {σ : L2.St} {H : Hp} {s : Shared}
/-- the element tests the sign c, in the frame of the generator -/
def EltQ (X : Cx) (gsc : Scope) (x : Str) (elt : Expr) (pb : Nat → Bool) : Prop :=
  ∀ (ce : Env) (A' : Around) (E' : Value → Shared → Prop) (c : Nat) (t : Tok) (u : Shared) (m : Str → Option Value), ce.scope = gsc → ce.globals = X.env.globals → A'.handled = none → A'.depth ≤ X.A.depth + 1 →
    (∀ b o, X.base.get? b = some o → u.heap.get? b = some o) → u.heap.Ns ce.locals m → m x = some (.str ⟨#[c]⟩ t) → wpAny (model X.prog X.w) A' (eval elt ce) (fun y z => y = .bool (pb c) ∧ Keeps u z) E' u
/-- the generator over the signs of a text, made and ready -/
theorem gen_signs {cd P : Addr} {elt src : Expr} {x : Str} {px gp : Pos} {gsc : Scope} {pb : Nat → Bool} {te : TE} {k : Nat} {Q : Value → Shared → Prop} {R : Str → Hp → Prop}
    (hr : Room k X.A) (tb : GxR.TabB X.base X.mg cd P) (ec : X.env.code = .ref cd) (gs : GxR.GenS X.env gsc x) (hi : PE X src te) (hel : X.Ok → EltQ X gsc x elt pb) (hf : ∀ v, genFold src X.env v = pure v) (I : Inv X pins σ H s)
    (h : te σ H fun v H1 => ∃ a : Str, v = .str a ∧ GxR.TabG H1 P ∧ R a H1) (hQ : ∀ a H1 g s5, R a H1 → GxR.Ready X pins σ H1 P a pb g s5 → Q (.ref g) s5) :
    wpAny (model X.prog X.w) X.A (eval (.GeneratorExp elt [⟨.Name x px, src, [], 0⟩] gsc gp) X.env) Q X.xe s := by
  have dp := hr.dp
  refine wpAny_GeneratorExp_walksQD hr.hd gs.co (closure_ok gs.free) gs.cell gs.dot gs.loc gs.kind (by omega) ?_ hf
  refine thn (hi.run pins s σ H _ I h) fun xv u1 ⟨v, H1, J, rel, a, ev, ⟨ps, hP, tri⟩, hR⟩ => ?_
  subst ev
  obtain ⟨tk0, rfl⟩ := _root_.id rel
  refine wpAny_pyIter_str fun it St walk at0 => ?_
  have tabAt : u1.heap.get? P = some { cls := .none, data := .fields ps } := J.hok P _ hP
  have ltP : P < u1.heap.objs.size := Heap.lt_size tabAt
  have tabAt2 : (u1.heap.push it).get? P = some { cls := .none, data := .fields ps } := Heap.get?_push_of_some _ tabAt
  have cdh : PySem.W.CodeHd (u1.heap.push it) cd P := tb.code.keeps fun b o e => Heap.get?_push_of_some _ (J.bk b o e)
  have noP : ∀ b o, X.base.get? b = some o → b ≠ P := fun b o e z => by
    have q := (J.bs b o e).2
    rw [z, hP] at q
    cases q
  have lm2 : (u1.heap.push it).NoLimit := J.nolimit.push it
  have szp : (u1.heap.push it).objs.size = u1.heap.objs.size + 1 := Heap.size_push ..
  have main : ∀ (code : Value) (h3 : Heap) (tk : Nat) (more : Array Value), Heap.ExtBut P (u1.heap.push it) h3 → u1.heap.objs.size + 1 ≤ h3.objs.size → h3.get? P = some { cls := .none, data := .fields (ps ++ more) } → TriplesOk (ps ++ more).toList →
      wpAny (model X.prog X.w) X.A (builtinsFor X.env.globals X.env.builtins) (fun bi s₄ =>
        ∃ Ia fp wr n₀ Pf St₀ pz F, Value.ref u1.heap.objs.size = .ref Ia ∧ (∀ A' : Around, A'.handled = none → Walks X.prog X.w A' Ia fp wr n₀ Pf St₀) ∧ St₀ 0 s₄.heap ∧ (∀ b ∈ fp, b < s₄.heap.objs.size) ∧ s₄.heap.NoLimit ∧ cStatics ∉ wr ∧
          (∀ hr : Heap, (∀ b o, s₄.heap.get? b = some o → hr.get? b = some o) → QuietGenD X.prog X.w (genEnv gsc (cloFrom X.env.cells gsc.names []) s₄.heap.objs.size code bi X.env) x [] elt (List.range s₄.heap.objs.size) wr Pf pz F hr (X.A.depth + 1) (X.A.units + 8)) ∧
          (∀ a h₅ tk gs, gs.bare = true → s₄.heap.objs.size < a → h₅.objs.size = a + 1 → (∀ b o, s₄.heap.get? b = some o → h₅.get? b = some o) →
            WalksS X.prog X.w X.A.in4 a (a :: s₄.heap.objs.size :: List.range s₄.heap.objs.size) (s₄.heap.objs.size :: wr) (GenOnlyQ s₄.gens.size) (passing pz n₀ 0).length
              (fun j y => ∃ i, (passing pz n₀ 0)[j]? = some i ∧ F i y) (GenAt X.prog X.w X.A.in4 a s₄.gens.size s₄.heap.objs.size (List.range s₄.heap.objs.size) wr pz n₀ F) →
            GenAt X.prog X.w X.A.in4 a s₄.gens.size s₄.heap.objs.size (List.range s₄.heap.objs.size) wr pz n₀ F 0 { s₄ with gens := s₄.gens.push gs, toks := tk, heap := h₅ } →
            Q (.ref a) { s₄ with gens := s₄.gens.push gs, toks := tk, heap := h₅ })) X.xe { u1 with heap := h3, toks := tk } := by
    intro code h3 tk more hx hsz tab3 tri3
    obtain ⟨bm, ob, g1, g2, g3, g4, g5, g6, g7, g8⟩ := tb.bm
    have stP : cStatics ≠ P := fun e => by
      obtain ⟨_, ⟨o', es, ep, ho, hd, _⟩, _⟩ := J.nolimit
      rw [e, tabAt] at ho
      cases ho
      cases hd
    have stLt : cStatics < u1.heap.objs.size := (let ⟨_, z, _⟩ := J.nolimit; z.lt)
    have old : ∀ b o, b ≠ P → u1.heap.get? b = some o → h3.get? b = some o := fun b o n e => hx b o n (Heap.get?_push_of_some _ e)
    refine wpAny_builtinsFor (m := X.mg) (by rw [J.ok.glob]; exact ((J.mod.glob.keeps J.bk).push it).extBut hx tb.gP) g1 g2 (old _ _ g4 (J.bk _ _ g5)) g6 g7 g8 ?_
    refine ⟨u1.heap.objs.size, [u1.heap.objs.size], [u1.heap.objs.size], a.cps.size, SignAt a, St, fun _ => true, fun i y => ∃ cc, a.cps[i]? = some cc ∧ y = .bool (pb cc), rfl, walk, ?_, fun b hb => ?_, lm2.extBut hx stP, fun z => ?_, fun hr' keepR => ?_, fun g h5 tk5 gst bare5 gt5 sz5 keep5 w5 at5 => ?_⟩
    · refine (walk X.A hr.hd).frame _ _ _ at0 fun b hb o e => hx b o (fun z => ?_) e
      rw [List.mem_singleton.mp hb] at z
      exact Nat.ne_of_lt ltP z.symm
    · rw [List.mem_singleton.mp hb]
      exact Nat.lt_of_succ_le hsz
    · exact Nat.ne_of_lt stLt (List.mem_singleton.mp z)
    · refine ⟨fun A' E' i v u m hA _ _ pv hn hm kp => ?_, fun A' E' i v u m hA dA _ pv _ hn hm kp => ?_⟩
      · simp only [List.forIn_nil]
        exact wpAny_pure ⟨rfl, GxR.keeps_refl _⟩
      · obtain ⟨cc, t1, e5, rfl⟩ := pv
        refine wpAny_mono (hel J.ok _ A' E' cc t1 u m rfl rfl hA dA (fun b o e => ?_) hn hm) (fun y z r => ⟨⟨cc, e5, r.1⟩, r.2⟩) fun _ _ e => e
        have e1 := J.bk b o e
        have lb := Heap.lt_size e1
        refine kp b (List.mem_range.mpr (Nat.lt_of_lt_of_le lb (Nat.le_of_succ_le hsz))) (fun z => ?_) o (keepR b o (old b o (noP b o e) e1))
        exact Nat.ne_of_lt lb (List.mem_singleton.mp z)
    · simp only [passing_true, GxR.passing_true, List.length_range] at w5
      refine hQ a H1 g _ hR ⟨_, _, _, _, _, w5.in4_1, at5, fun j y sj Qj Ej hy hq => ?_, fun s' mv => ?_⟩
      · obtain ⟨i, hij, cc, hcc, rfl⟩ := hy
        obtain ⟨hj, ej⟩ := List.getElem?_eq_some_iff.mp hij
        rw [List.getElem_range] at ej
        subst ej
        have e9 : a.cps.toList[j]? = some cc := by rw [Array.getElem?_toList]; exact hcc
        have hq : Qj (GxR.trF pb a.cps.toList j) sj := hq
        rw [GxR.trF_some e9] at hq
        exact wpAny_truthy_bool hq
      · have apart : ∀ b o, u1.heap.get? b = some o → b ∉ h3.objs.size :: [u1.heap.objs.size] := fun b o e hb => by
          have lb : (b : Nat) < u1.heap.objs.size := Heap.lt_size e
          have l3 : (u1.heap.objs.size : Nat) + 1 ≤ h3.objs.size := hsz
          rcases List.mem_cons.mp hb with z | z
          · exact Nat.ne_of_lt (Nat.lt_trans lb (Nat.lt_of_succ_le l3)) z
          · exact Nat.ne_of_lt lb (List.mem_singleton.mp z)
        have J2 := GxR.inv_tab (more := more) (h' := s'.heap) (g' := s'.gens) (d' := s'.drawn) (t' := s'.toks) J hP (fun b o n e => mv.heap b o (apart b o e) (keep5 b o (old b o n e))) (mv.heap P _ (apart P _ tabAt) (keep5 P _ tab3)) (AllBare.movedS (J.bare.push bare5) mv)
        rw [GxR.sh_eta u1 s' mv.os] at J2
        exact ⟨upd H1 P (.tbl (ps ++ more)), ⟨⟨ps ++ more, upd_same, tri3⟩, fun b n => upd_ne n⟩, J2⟩
  refine ⟨lm2, ?_⟩
  cases hc : codeAmong gp ps.toList with
  | some cv => exact wpAny_genexprCode_hit ec (cdh.code tabAt2 tri) hc (main cv (u1.heap.push it) u1.toks #[] (Heap.ExtBut.refl _ _) (Nat.le_of_eq szp.symm) (by rw [Array.append_empty]; exact tabAt2) (by rw [Array.append_empty]; exact tri))
  | none =>
    refine wpAny_genexprCodeX ec (cdh.code tabAt2 tri) (cdh.tab tabAt2) hc fun c' h' tk hx hge hlt hco _ htab _ => ?_
    obtain ⟨o1, vs, f1, tf, fl, tg, inF, tx, tt, op, _, _, _, _, _, _, _, _, _, tr, _⟩ := hco
    exact main _ h' tk _ hx (by rw [← szp]; exact Nat.le_trans hge (Nat.le_of_lt hlt)) htab.2 tr
/-- all(test for x in text) -/
theorem pe_allQ {cd P : Addr} {elt src : Expr} {x : Str} {px p pos gp : Pos} {gsc : Scope} {pb : Nat → Bool} {te : TE} {k : Nat}
    (hr : Room k X.A) (hg : Gl X "all") (hm : X.mg "all" = none) (tb : GxR.TabB X.base X.mg cd P) (ec : X.env.code = .ref cd) (gs : GxR.GenS X.env gsc x) (hi : PE X src te) (hel : X.Ok → EltQ X gsc x elt pb) (hf : ∀ v, genFold src X.env v = pure v) :
    PE X (.Call (.Name "all" p) [.GeneratorExp elt [⟨.Name x px, src, [], 0⟩] gsc gp] [] pos) (GxR.tAllS P pb te) := by
  have he : starEach [.GeneratorExp elt [⟨.Name x px, src, [], 0⟩] gsc gp] X.env = (false, eval (.GeneratorExp elt [⟨.Name x px, src, [], 0⟩] gsc gp) X.env) :: starEach [] X.env := rfl
  refine ⟨fun pins s σ H Q I h => wpAny_Call_Name_kw (ld_blt I hg hm (show bootBuiltins "all" = some (.builtin "all") by decide +kernel) (PyProof.Rows.callWith_builtin1 ?_ he (by rfl)))⟩
  rw [he]
  show wpAny _ _ (spliced ((false, eval (.GeneratorExp elt [⟨.Name x px, src, [], 0⟩] gsc gp) X.env) :: backTo pos (starEach [] X.env))) _ _ s
  refine Calls.spliced_cons (gen_signs (R := fun a H1 => ∀ H2, GxR.Tabbed P H1 H2 → Q (.bl (a.cps.toList.all pb)) H2) hr tb ec gs hi hel hf I h fun a H1 g s5 q ⟨fp, wr, G, F, Sx, walk, at0, tr, out⟩ => Calls.spliced_nil (call_all_walkS (walk.self 0 _ _ _ at0 ⟨g, fp, wr, G, _, F, Sx, _, rfl, walk, at0, tr, fun s' mv => ?_⟩)))
  obtain ⟨H2, hT, J⟩ := out s' mv
  refine ⟨.bl _, H2, J, rfl, ?_⟩
  rw [GxR.all_signs a pb]
  exact q H2 hT
end

/-! ### text.split(text) -/
def splitV (x : Va) (l : List Va) (st : Sto) : R Va := match l with
  | [y] => match strOf x, strOf y with
    | some a, some b => if b ≠ [] ∧ b.all (· < 256) = true ∧ a.length + 2 ≤ sizeLine then .ok (.lst ((TL.spl b 0 [] a).map .str)) st else .stuck
    | _, _ => .stuck
  | _ => .stuck
section
variable {X : Cx} {ct : Ct} {W : WX}
theorem rvs_strs {K : PySem.W.Frag} {F : Hp} {μ : List Addr} : ∀ l : List Tx, RVs K F μ (l.map .str) ((l.map mkS).map V.str)
  | [] => .nil
  | x :: l => .cons (.str x) (rvs_strs l)
theorem mt_splitV : MtR X "str.split" (mOf X.K ct W splitV) := by
  intro pins s σ H x vs v us Q I rx rv h
  obtain ⟨F, μ, st, w, ws, σ', r, r1, r2, p⟩ := h
  unfold splitV at p
  split at p
  · rename_i y
    obtain ⟨yv, rfl, ry⟩ := r2.one
    split at p
    · rename_i a b ea eb
      obtain rfl := strOf_ok r1 ea
      obtain rfl := strOf_ok ry eb
      split at p
      · rename_i hc
        obtain ⟨h1, h2, h3⟩ := hc
        refine mt_split pins s σ H _ _ v us Q I rx rv ⟨mkS a, mkS b, rfl, rfl, ?_, by rw [mkS_len]; exact h3, fun q hq => ?_⟩
        · rw [mkS_len]
          cases b with
          | nil => exact absurd rfl h1
          | cons c l => rfl
        · have e : Txt.split (mkS a) (mkS b) = (TL.spl b 0 [] a).map mkS := SX.split_S h1 h2
          rw [e]
          exact p (upd F q _) μ _ _ (Ext.frz r hq _) (Rel.frz r hq _) (.lst upd_same (rvs_strs _))
      · exact p.elim
    · exact p.elim
  · exact p.elim
end
/-- all(test(sign) for sign in text) by value -/
def mAllS (gs : Tx) (ma : Mx Va) : Mx Va := fun env st => (ma env st).bind fun v st => match v with
  | .str a => .ok (.bl (a.all (sgV gs))) st
  | _ => .stuck
section
variable {X : Cx} {ct : Ct} {W : WX}
theorem tAllS_of {P : Addr} {gs : Tx} {ma : Mx Va} {σ : L2.St} {H : Hp} {Q : VK} (hP : P ∈ ct.tps) (h : TOf X.K ct W (RV X.K) (mAllS gs ma) σ H Q) : GxR.tAllS P (sgV gs) (TE' X ct W ma) σ H Q := by
  obtain ⟨F, μ, env, st, r, re, p⟩ := h
  refine ⟨F, μ, env, st, r, re, p.bind fun w st1 F1 μ1 H1 v _ x1 r1 rv p1 => ?_⟩
  split at p1
  · rename_i a _
    cases rv
    refine ⟨mkS a, rfl, (r1.tabs P hP).1, fun H2 ⟨t2, o2⟩ => ?_⟩
    rw [tl_mkS]
    have nF : F1 P = none := (r1.tabs P hP).2
    have ne : ∀ b u, H1 b = some u → (∀ ps, u ≠ .tbl ps) → b ≠ P := fun b u e nt z => by
      obtain ⟨ps, e2, _⟩ := (r1.tabs P hP).1
      rw [z, e2] at e
      exact nt ps (Option.some.inj e).symm
    refine p1 F1 μ1 H2 _ ⟨.refl _, List.prefix_rfl, fun b u e _ nt => by rw [o2 b (ne b u e nt)]; exact .inl e, fun P' t' => ?_, fun b e => .inl e, fun b m => .inl m, fun b e => ?_⟩ ⟨fun b u e => ?_, r1.len, fun p o b e1 e2 => ?_, r1.dis, r1.inj, fun b m => ?_, fun P' m => ⟨?_, (r1.tabs P' m).2⟩⟩ (.bl _)
    · by_cases z : P' = P
      · rw [z]; exact t2
      · obtain ⟨ps, e2, e3⟩ := t'
        exact ⟨ps, by rw [o2 P' z]; exact e2, e3⟩
    · by_cases z : b = P
      · obtain ⟨ps, e2, _⟩ := t2
        rw [z, e2]; exact fun z => nomatch z
      · rw [o2 b z]; exact e
    · rw [o2 b fun z => by rw [z, nF] at e; cases e]
      exact r1.sub0 b u e
    · have q := r1.obj p o b e1 e2
      obtain ⟨u, hu, mu⟩ := q.there
      exact q.mono (.refl _) List.prefix_rfl (o2 b (ne b u hu (nt_hmut mu)))
    · by_cases z : b = P
      · obtain ⟨ps, e2, _⟩ := t2
        rw [z, e2]; exact fun z => nomatch z
      · rw [o2 b z]; exact r1.mtr b m
    · by_cases z : P' = P
      · rw [z]; exact t2
      · obtain ⟨ps, e2, e3⟩ := (r1.tabs P' m).1
        exact ⟨ps, by rw [o2 P' z]; exact e2, e3⟩
  · exact p1.elim
end
end G

set_option Elab.async false
set_option linter.all false
set_option maxRecDepth 100000
set_option maxHeartbeats 8000000
namespace G
open PySem PySem.Spec PyProof.Rows L2

def putKy (ks : List Ky) (ws : List Va) (k : Ky) (v : Va) : List Ky × List Va := if ks.any (fun j => decide (j = k)) then (ks, List.zipWith (fun j w => if j = k then v else w) ks ws) else (ks ++ [k], ws ++ [v])
theorem putKy_ok {K : PySem.W.Frag} {F : Hp} {μ : List Addr} {k : Ky} {w : Va} {v : V} (rv : RV K F μ w v) {ks : List Ky} {ws : List Va} {kvs : List (Key × V)} (h1 : kvs.map (·.1) = ks.map kyK) (h2 : RVs K F μ ws (kvs.map (·.2))) :
    (putK kvs (kyK k) v).map (·.1) = (putKy ks ws k w).1.map kyK ∧ RVs K F μ (putKy ks ws k w).2 ((putK kvs (kyK k) v).map (·.2)) := by
  have hany : (kvs.any fun kv => decide (kv.1 = kyK k)) = ks.any fun j => decide (j = k) := by
    have e1 : (kvs.any fun kv => decide (kv.1 = kyK k)) = (kvs.map (·.1)).any fun j => decide (j = kyK k) := by rw [List.any_map]; rfl
    rw [e1, h1, List.any_map]
    congr 1
    funext j
    show decide (kyK j = kyK k) = decide (j = k)
    exact decide_eq_decide.mpr ⟨kyK_inj, fun e => by rw [e]⟩
  unfold putK putKy
  rw [hany]
  by_cases hk : (ks.any fun j => decide (j = k)) = true
  · rw [if_pos hk, if_pos hk]
    clear hany hk
    induction kvs generalizing ks ws with
    | nil =>
      cases ks with
      | nil => cases h2; exact ⟨rfl, .nil⟩
      | cons j ks => simp at h1
    | cons p kvs ih =>
      cases ks with
      | nil => simp at h1
      | cons j ks =>
        simp only [List.map_cons, List.cons.injEq] at h1
        cases h2 with
        | @cons w1 ws1 _ _ r1 t =>
          obtain ⟨i1, i2⟩ := ih h1.2 t
          simp only [List.map_cons, List.zipWith_cons_cons]
          by_cases e : j = k
          · have e' : p.1 = kyK k := by rw [h1.1, e]
            rw [if_pos e', if_pos e]
            exact ⟨by rw [h1.1]; simp only [List.cons.injEq, true_and]; exact i1, .cons rv i2⟩
          · have e' : ¬ p.1 = kyK k := fun z => e (kyK_inj (h1.1.symm.trans z))
            rw [if_neg e', if_neg e]
            exact ⟨by rw [h1.1]; simp only [List.cons.injEq, true_and]; exact i1, .cons r1 i2⟩
  · rw [if_neg hk, if_neg hk]
    simp only [List.map_append, List.map_cons, List.map_nil]
    exact ⟨by rw [h1], h2.append (.cons rv .nil)⟩

/-! ### d.setdefault(k, x) -/
def setdV (x : Va) (l : List Va) (st : Sto) : R Va := match x, l with
  | .ref p, [k, d] => match st[p]? with
    | some (some (.dic ks ws)) => match kyOf k with
      | some ky => if ks.length < sizeLine then (match atKy ks ws ky with
        | some w => .ok w st
        | none => .ok d (st.set p (some (.dic (putKy ks ws ky d).1 (putKy ks ws ky d).2)))) else .stuck
      | none => .stuck
    | _ => .stuck
  | _, _ => .stuck
section
variable {X : Cx} {ct : Ct} {W : WX}
theorem mt_setdV : MtR X "dict.setdefault" (mOf X.K ct W setdV) := by
  intro pins s σ H x vs v us Q I rx rv h
  obtain ⟨F, μ, st, w, ws, σ', r, r1, r2, p⟩ := h
  unfold setdV at p
  split at p
  · rename_i pp k d
    cases r1 with
    | @ref _ a hp =>
    obtain ⟨kv, dv, rfl, rk, rd⟩ := r2.two
    obtain rfl : v = Value.ref a := rx
    cases rv with
    | cons ru rr =>
    cases rr with
    | cons ru2 rr =>
    cases rr
    split at p
    · rename_i ks l e0
      split at p
      · rename_i ky ek
        obtain rfl := kyOf_ok rk ek
        split at p
        · rename_i hl
          cases r.obj _ _ _ e0 hp with
          | @dic _ _ kvs g1 g2 g3 =>
            have hkl : kvs.length = ks.length := by
              have := congrArg List.length g2
              simpa using this
            obtain ⟨h1, h2⟩ := atKy_ok ky g2 g3
            cases ea : atKy ks l ky with
            | some w0 =>
              rw [ea] at p
              obtain ⟨v0, hv0, rv0⟩ := h1 w0 ea
              exact d_setd I g1 ru ru2 (by omega) (fun u hu w' s' J rw' => by
                rw [hv0] at hu
                cases hu
                exact ⟨_, H, J, rw', p.here r rv0⟩) fun hn => by rw [hv0] at hn; cases hn
            | none =>
              rw [ea] at p
              have hvn := h2 ea
              refine d_setd I g1 ru ru2 (by omega) (fun u hu => by rw [hvn] at hu; cases hu) fun _ w' s' J rw' => ⟨_, _, J, rw', ?_⟩
              obtain ⟨q1, q2⟩ := putKy_ok (k := ky) rd g2 g3
              exact p _ _ _ _ (.write r e0 hp _) (r.write e0 hp (.dic upd_same q1 q2)) rd
        · exact p.elim
      · exact p.elim
    · exact p.elim
  · exact p.elim
/-! ### l.index(x), l of texts -/
def idxT (b : Tx) : List Tx → Option Nat
  | [] => none
  | z :: r => if z = b then some 0 else (idxT b r).map (· + 1)
theorem idxT_ok {b : Tx} : ∀ {l : List Tx} {j : Nat}, idxT b l = some j → l[j]? = some b ∧ ∀ m z, m < j → l[m]? = some z → z ≠ b
  | [], _, h => by cases h
  | z :: r, j, h => by
    rw [idxT] at h
    split at h
    · rename_i e
      cases h
      exact ⟨by rw [e]; rfl, fun m z hm => absurd hm (Nat.not_lt_zero m)⟩
    · rename_i e
      cases q : idxT b r with
      | none => rw [q] at h; cases h
      | some i =>
        rw [q] at h
        cases h
        obtain ⟨h1, h2⟩ := idxT_ok q
        refine ⟨h1, fun m z' hm hz => ?_⟩
        cases m with
        | zero => cases hz; exact e
        | succ m => exact h2 m z' (Nat.lt_of_succ_lt_succ hm) hz
def indexV (x : Va) (l : List Va) (st : Sto) : R Va := match lstOf x st, l with
  | some zs, [y] => match strsOf zs, strOf y with
    | some ts, some b => match idxT b ts with
      | some j => .ok (.int (j : Nat)) st
      | none => .stuck
    | _, _ => .stuck
  | _, _ => .stuck
theorem mt_indexV : MtR X "list.index" (mOf X.K ct W indexV) := by
  intro pins s σ H x vs v us Q I rx rv h
  obtain ⟨F, μ, st, w, ws, σ', r, r1, r2, p⟩ := h
  unfold indexV at p
  split at p
  · rename_i zs y el
    obtain ⟨a, vs', rfl, ha, rs⟩ := lstOf_ok r r1 el
    obtain ⟨yv, rfl, ry⟩ := r2.one
    split at p
    · rename_i ts b e1 e2
      obtain rfl := strOf_ok ry e2
      have e3 := strsOf_ok rs e1
      split at p
      · rename_i j ej
        obtain ⟨h1, h2⟩ := idxT_ok ej
        refine mt_index pins s σ H _ _ v us Q I rx rv ⟨a, vs', .str (mkS b), j, .str (mkS b), rfl, rfl, .inl (.inl ha), rfl, ?_, ?_, ?_, fun m z' hm hz => ?_, p.here r (.int _)⟩
        · rw [e3, List.all_eq_true]
          intro z hz
          obtain ⟨t, _, rfl⟩ := List.mem_map.mp hz
          rfl
        · rw [e3, List.getElem?_map, List.getElem?_map, h1]
          rfl
        · show decide (mkS b = mkS b) = true
          exact decide_eq_true rfl
        · rw [e3, List.getElem?_map, List.getElem?_map] at hz
          cases q : ts[m]? with
          | none => rw [q] at hz; cases hz
          | some t =>
            rw [q] at hz
            cases hz
            show decide (mkS t = mkS b) = false
            exact decide_eq_false fun z => h2 m t hm q (mkS_inj z)
      · exact p.elim
    · exact p.elim
  · exact p.elim
/-! ### reversed(l), l by value -/
def mRev (me : Mx Va) : Mx (List Va × Gd) := fun env st => (me env st).bind fun x st => match x with
  | .lst l => .ok (l.reverse, none) st
  | _ => .stuck
theorem iter_rev {K : PySem.W.Frag} {F : Hp} {μ : List Addr} {a : Addr} {ws : List Va} {vs : List V} (rs : RVs K F μ ws vs) (hf : F a = some (.lst vs)) : IterOk K ct F μ (Itv K a vs.length) (ws.reverse, none) := by
  intro F' μ' st' H' e hp r hg i
  have h : SqL K H' a vs := .inl (.inl (r.sub _ _ (e.sub _ _ hf)))
  have hl := rs.length
  refine ⟨fun hi => ?_, fun w hw => ?_⟩
  · show vs.length ≤ i
    rw [hi, List.length_reverse, hl]
    exact Nat.le_refl _
  · have hi := (List.getElem?_eq_some_iff.mp hw).1
    rw [List.length_reverse] at hi
    rw [List.getElem?_reverse (by omega)] at hw
    obtain ⟨v, hv, rv⟩ := rs.get hw
    rw [hl] at hv
    refine ⟨⟨by omega, vs, v, h, hv⟩, fun x H'' y => ?_⟩
    obtain ⟨rfl, y⟩ := y
    have ex := y vs h
    rw [hv] at ex
    cases ex
    exact ⟨F', .refl, r, rv.mono e hp⟩
theorem sim_rev {tg e : Expr} {me : Mx Va} {p pos : Pos} (hg : Gl X "reversed") (hm : X.mg "reversed" = none) (he : PE X e (TE' X ct W me)) (hs : starEach [e] X.env = (false, eval e X.env) :: starEach [] X.env) : PI X tg (.Call (.Name "reversed" p) [e] [] pos) (TI' X ct W (mRev me)) := by
  refine PI.mono (RT.pi_revA hg hm he hs) fun σ H Q ⟨F, μ, env, st, r, re, p⟩ => ⟨F, μ, env, st, r, re, p.bind fun w st1 F1 μ1 H1 v _ x1 r1 rv p1 => ?_⟩
  split at p1
  · rename_i l _
    cases rv with
    | @lst a _ vs hf rs =>
      exact ⟨a, vs, rfl, .inl ⟨.inl (.inl (r1.sub _ _ hf)), p1 F1 μ1 H1 _ .refl r1 (iter_rev rs hf)⟩⟩
  · exact p1.elim
end
end G

set_option Elab.async false
set_option linter.all false
set_option maxRecDepth 100000
set_option maxHeartbeats 8000000
namespace G
open PySem PySem.Spec PyProof.Rows L2
/-! ### texts put together of parts -/
def fmtV (x : Va) (st : Sto) : R Va := match x with
  | .str y => if y.length ≤ sizeLine then .ok (.str y) st else .stuck
  | .int i => if decide (i.natAbs.log2 < 1920) = true then .ok (.str (numI i)) st else .stuck
  | _ => .stuck
def mFmt (m : Mx Va) : Mx Va := fun env st => (m env st).bind fmtV
def mJs : List (Mx Va) → Tx → Mx Va
  | [], acc => fun _ st => .ok (.str acc) st
  | m :: ms, acc => fun env st => (m env st).bind fun w st => match w with
    | .str y => if acc.length + y.length ≤ sizeLine then mJs ms (acc ++ y) env st else .stuck
    | _ => .stuck
section
variable {X : Cx} {ct : Ct} {W : WX}
theorem sim_fmt {e : Expr} {m : Mx Va} {p : Pos} (he : PE X e (TE' X ct W m)) : PE X (.FormattedValue e (-1) none p) (TE' X ct W (mFmt m)) := by
  refine PE.mono (pe_fmt he) fun σ H Q ⟨F, μ, env, st, r, re, q⟩ => ⟨F, μ, env, st, r, re, q.bind fun w st1 F1 μ1 H1 v _ x1 r1 rv q1 => ?_⟩
  unfold fmtV at q1
  cases rv with
  | str y =>
    simp only at q1
    split at q1
    · rename_i hz
      exact .inl ⟨_, rfl, by rw [mkS_len]; exact hz, q1.here r1 (.str y)⟩
    · exact q1.elim
  | int i =>
    simp only at q1
    split at q1
    · rename_i hz
      refine .inr ⟨i, rfl, of_decide_eq_true hz, ?_⟩
      rw [numI_ok]
      exact q1.here r1 (.str _)
    · exact q1.elim
  | _ => exact q1.elim
/-- the parts of a text: each with its meaning -/
inductive Prts (X : Cx) (ct : Ct) (W : WX) : List Expr → List (Mx Va) → Prop
  | nil : Prts X ct W [] []
  | cons {e : Expr} {m : Mx Va} {es : List Expr} {ms : List (Mx Va)} : PE X e (TE' X ct W m) → Prts X ct W es ms → Prts X ct W (e :: es) (m :: ms)
theorem Prts.pj {es : List Expr} {ms : List (Mx Va)} (h : Prts X ct W es ms) : PJ X es (ms.map fun m => TE' X ct W m) := by
  induction h with
  | nil => exact .nil
  | cons a b ih => exact .cons a ih
theorem tJs_of {σ : L2.St} : ∀ {ms : List (Mx Va)} {acc : Tx} {F : Hp} {μ : List Addr} {H : Hp} {env : Ev} {st : Sto} {Q : VK}, Rel X.K ct F μ st H → REnv X.K ct F μ env σ → GPost X.K ct W (RV X.K) σ F μ H Q (mJs ms acc env st) → tJs (ms.map fun m => TE' X ct W m) (mkS acc) σ H fun out H1 => Q (.str out) H1
  | [], acc, F, μ, H, env, st, Q, r, re, q => q.here r (.str acc)
  | m :: ms, acc, F, μ, H, env, st, Q, r, re, q => by
    refine ⟨F, μ, env, st, r, re, q.bind fun w st1 F1 μ1 H1 v _ x1 r1 rv q1 => ?_⟩
    cases rv with
    | str y =>
      simp only at q1
      split at q1
      · rename_i hz
        refine ⟨mkS y, rfl, ?_, ?_⟩
        · rw [mkS_app, mkS_len]
          simpa using hz
        · rw [mkS_app]
          exact tJs_of r1 (re.mono x1) q1
      · exact q1.elim
    | _ => exact q1.elim
theorem sim_js {v1 v2 : Expr} {rest : List Expr} {ms : List (Mx Va)} {pos : Pos} (h : Prts X ct W (v1 :: v2 :: rest) ms) : PE X (.JoinedStr (v1 :: v2 :: rest) pos) (TE' X ct W (mJs ms [])) := by
  refine PE.mono (pe_joined h.pj) fun σ H Q ⟨F, μ, env, st, r, re, q⟩ => ?_
  exact tJs_of (acc := []) r re q
end
end G

set_option Elab.async false
set_option linter.all false
set_option maxRecDepth 100000
set_option maxHeartbeats 8000000
/-! any, all of a generator expression over a list or a tuple: the element asks data alone -/
namespace G
open PySem PySem.Spec PyProof.Rows L2
/-- the words of a quiet element: names, texts, items of tuples, ==, in, and -/
inductive QT | var (j : Nat) | str (z : Tx) | ix (a : QT) (k : Nat) | eq (a b : QT) | isin (a b : QT) | and (a b : QT)
/-- what a name holds: data, or a dict of which the keys are told -/
inductive QD | d (x : PyData) | dic (g : Ky → Bool)
def qDic (ρ : Nat → Option QD) : QT → Option (Ky → Bool)
  | .var j => match ρ j with
    | some (.dic g) => some g
    | _ => none
  | _ => none
def qv (ρ : Nat → Option QD) : QT → Option PyData
  | .var j => match ρ j with
    | some (.d x) => some x
    | _ => none
  | .str z => some (.str (mkS z))
  | .ix a k => match qv ρ a with
    | some (.tuple ds) => ds[k]?
    | _ => none
  | .eq a b => match qv ρ a, qv ρ b with
    | some d, some e => some (.bool (PyData.eqv d e))
    | _, _ => none
  | .isin a b => match qDic ρ b with
    | some g => match qv ρ a with
      | some (.str z) => some (.bool (g (.inr z.cps.toList)))
      | _ => none
    | none => match qv ρ b, qv ρ a with
      | some (.list ds), some d => some (.bool (ds.any fun y => PyData.eqv y d))
      | some (.tuple ds), some d => some (.bool (ds.any fun y => PyData.eqv y d))
      | _, _ => none
  | .and a b => match qv ρ a with
    | some (.bool true) => qv ρ b
    | some (.bool false) => some (.bool false)
    | _ => none
def qRight : Expr → Bool
  | .Name _ _ => true
  | .Constant (.str _) _ _ => true
  | _ => false
def qck (N : List Str) (gsc : Scope) (x : Str) (i : Nat) : QT → Expr → Bool
  | .var j, e => match e with
    | .Name y _ => !(y == ("__debug__" : Str)) && (!(y == ("__classdict__" : Str)) && ((decide (j = i) && decide (y = x)) || (decide (j ≠ i) && (decide (gsc.names.lookup y = some .free) && decide (N[j]? = some y)))))
    | _ => false
  | .str z, e => match e with
    | .Constant (.str s) _ _ => decide (s.cps.toList = z)
    | _ => false
  | .ix a k, e => match e with
    | .Subscript e (.Constant (.int n) _ _) _ => qck N gsc x i a e && (decide (n = (k : Int)) && decide (k < 1000))
    | _ => false
  | .eq a b, e => match e with
    | .Compare e [.Eq] [f] _ => qck N gsc x i a e && (qck N gsc x i b f && qRight f)
    | _ => false
  | .isin a b, e => match e with
    | .Compare e [.In] [.Name y p] _ => qck N gsc x i a e && qck N gsc x i b (.Name y p)
    | _ => false
  | .and a b, e => match e with
    | .BoolOp .And [e, f] _ => qck N gsc x i a e && qck N gsc x i b f
    | _ => false
/-- a value holds what is told -/
def RdP (P : Program) (w : World) (h : Heap) (v : Value) : QD → Prop
  | .d x => (∃ as, Reads h v x as) ∧ x.plain = true ∧ x.depth ≤ 40
  | .dic g => ∃ (a : Addr) (kvs : List (Key × V)) (vs : List (Key × Value)), v = .ref a ∧ (a == sysModules) = false ∧ KV kvs vs ∧ h.DictOf (mixKind P w) a vs ∧ ∀ k : Ky, (valV kvs (kyK k)).isSome = g k
theorem plain_get : ∀ {ds : List PyData} {k : Nat} {d : PyData}, PyData.plainAll ds = true → ds[k]? = some d → d.plain = true ∧ d.depth ≤ PyData.depthAll ds
  | x :: ds, 0, d, h, e => by
    cases e
    unfold PyData.plainAll at h
    unfold PyData.depthAll
    rw [Bool.and_eq_true] at h
    exact ⟨h.1, Nat.le_max_left _ _⟩
  | x :: ds, k + 1, d, h, e => by
    unfold PyData.plainAll at h
    unfold PyData.depthAll
    rw [Bool.and_eq_true] at h
    obtain ⟨h1, h2⟩ := plain_get h.2 (show ds[k]? = some d from e)
    exact ⟨h1, Nat.le_trans h2 (Nat.le_max_right _ _)⟩
theorem reads_get : ∀ {h : Heap} {vs : List Value} {ds : List PyData} {as : List Addr} {k : Nat} {d : PyData}, ReadsAll h vs ds as → ds[k]? = some d → ∃ v bs, vs[k]? = some v ∧ Reads h v d bs
  | _, _, _, _, 0, d, .cons h1 h2, e => by cases e; exact ⟨_, _, rfl, h1⟩
  | _, _, _, _, k + 1, d, .cons h1 h2, e => by
    obtain ⟨v, bs, g1, g2⟩ := reads_get (k := k) h2 e
    exact ⟨v, bs, g1, g2⟩
section
variable {prog : Program} {w : World} {N : List Str} {gsc : Scope} {x : Str} {i : Nat} {ρ : Nat → Option QD} {ce : Env} {h : Heap} {m : Str → Option Value} {v : Value}
theorem q_name (hs : ce.scope = gsc) (hk : gsc.kind = .function) (hx : gsc.names.lookup x = some .local) (hn : h.Ns ce.locals m) (hm : m x = some v) (h0 : ∀ q, ρ i = some q → RdP prog w h v q)
    (h1 : ∀ y j q, gsc.names.lookup y = some .free → N[j]? = some y → j ≠ i → ρ j = some q → ∃ c vv, ce.cells.lookup y = some c ∧ h.IsCell c (some vv) ∧ RdP prog w h vv q)
    {j : Nat} {e : Expr} {q : QD} {A : Around} {E : Value → Shared → Prop} {u : Shared} {Q : Value → Shared → Prop} (hu : u.heap = h) (hq : qck N gsc x i (.var j) e = true) (hr : ρ j = some q) (H : ∀ z, RdP prog w h z q → Q z u) :
    wpAny (model prog w) A (eval e ce) Q E u := by
  unfold qck at hq
  split at hq
  case h_2 => cases hq
  rename_i y p
  simp only [Bool.and_eq_true, Bool.or_eq_true, decide_eq_true_eq, Bool.not_eq_true'] at hq
  obtain ⟨hd, hd2, ⟨rfl, rfl⟩ | ⟨hj, hf, hN⟩⟩ := hq
  · exact wpAny_Name (wpAny_loadName_local (by rw [hs]; exact hk) (show ce.scope.names.lookup y = _ by rw [hs]; exact hx) (by rw [hu]; exact hn) hm (H _ (h0 _ hr))) hd
  · obtain ⟨c, vv, g1, g2, g3⟩ := h1 y j q hf hN hj hr
    exact wpAny_Name (wpAny_loadName_free (by rw [hs]; exact hk) (show ce.scope.names.lookup y = _ by rw [hs]; exact hf) g1 (by rw [hu]; exact g2) (H _ g3) (hn := hd2)) hd
theorem qDic_some {t : QT} {g : Ky → Bool} (h : qDic ρ t = some g) : ∃ j, t = .var j ∧ ρ j = some (.dic g) := by
  cases t with
  | var j =>
    have h : (match ρ j with | some (.dic g) => some g | _ => none) = some g := h
    cases e : ρ j with
    | none => rw [e] at h; cases h
    | some q =>
      rw [e] at h
      cases q with
      | d x => cases h
      | dic g' => cases h; exact ⟨j, rfl, e⟩
  | _ => cases h
theorem right_marks {f : Expr} (h : qRight f = true) : behindInMarks .Eq f = false := by
  cases f <;> first | rfl | (simp [qRight] at h)
theorem qv_ok (hs : ce.scope = gsc) (hk : gsc.kind = .function) (hx : gsc.names.lookup x = some .local) (hn : h.Ns ce.locals m) (hm : m x = some v) (h0 : ∀ q, ρ i = some q → RdP prog w h v q)
    (h1 : ∀ y j q, gsc.names.lookup y = some .free → N[j]? = some y → j ≠ i → ρ j = some q → ∃ c vv, ce.cells.lookup y = some c ∧ h.IsCell c (some vv) ∧ RdP prog w h vv q) :
    ∀ (t : QT) (e : Expr) (d : PyData) (A : Around) (E : Value → Shared → Prop) (u : Shared) (Q : Value → Shared → Prop), u.heap = h → A.units + 50 < cLine → qck N gsc x i t e = true → qv ρ t = some d → (∀ z k, RdP prog w h z (.d d) → Q z { u with toks := k }) →
      wpAny (model prog w) A (eval e ce) Q E u
  | .var j, e, d, A, E, u, Q, hu, ha, hq, hv, H => by
    unfold qv at hv
    split at hv
    · rename_i y er
      cases hv
      exact q_name hs hk hx hn hm h0 h1 hu hq er fun z hz => H z u.toks hz
    · cases hv
  | .str z, e, d, A, E, u, Q, hu, ha, hq, hv, H => by
    cases hv
    unfold qck at hq
    split at hq
    case h_2 => cases hq
    rename_i s kd p
    have hz := of_decide_eq_true hq
    refine wpAny_Constant_str (H _ _ ⟨⟨[], ?_⟩, rfl, Nat.zero_le _⟩)
    have : mkS z = s := by
      rw [← hz]
      cases s
      simp [mkS]
    rw [this]
    exact .str _ _
  | .ix a k, e, d, A, E, u, Q, hu, ha, hq, hv, H => by
    unfold qck at hq
    split at hq
    case h_2 => cases hq
    rename_i e n kd p pos
    simp only [Bool.and_eq_true, decide_eq_true_eq] at hq
    obtain ⟨hq1, rfl, hk1⟩ := hq
    unfold qv at hv
    split at hv
    case h_2 => cases hv
    rename_i ds er
    refine Subscript_ (qv_ok hs hk hx hn hm h0 h1 a e _ A E u _ hu ha hq1 er fun z k1 ⟨⟨as, r⟩, pl, dp⟩ => wpAny_Constant_int ?_)
    cases r with
    | tuple g1 g2 g3 g4 =>
      rename_i ad o vs nn as'
      obtain ⟨y, bs, e1, e2⟩ := reads_get g4 hv
      have pl2 : PyData.plainAll ds = true := pl
      have dp2 : PyData.depthAll ds + 1 ≤ 40 := dp
      obtain ⟨p1, p2⟩ := plain_get pl2 hv
      have hlen : k < vs.toList.length := (List.getElem?_eq_some_iff.mp e1).1
      have ip : IsTup u.heap ad vs := ⟨o, by rw [hu]; exact g1, g2, nn, g3⟩
      have fin : Q y { u with toks := k1 + 1 } := H y _ ⟨⟨bs, e2⟩, p1, by omega⟩
      refine subscriptTail_builtinR (T := "tuple") ⟨o, by rw [← hu] at g1; exact g1, g2⟩ slot_tuple_getitem.lookup (getItem_tuple (j := k) (x := y) (Q := fun r s' => r = y ∧ Q r s') ip (by omega) (by omega) ?_ (by rw [← Array.getElem?_toList]; exact e1) ⟨rfl, fin⟩) rfl
      have hi : ixN vs.size (k : Int) = some k := by
        unfold ixN
        rw [if_pos (by omega), if_pos (by rw [Array.length_toList] at hlen; omega)]
        simp
      exact (ixN_seq hi).1
  | .eq a b, e, d, A, E, u, Q, hu, ha, hq, hv, H => by
    unfold qck at hq
    split at hq
    case h_2 => cases hq
    rename_i e f pos
    simp only [Bool.and_eq_true] at hq
    obtain ⟨hq1, hq2, hq3⟩ := hq
    unfold qv at hv
    split at hv
    case h_2 => cases hv
    rename_i d1 d2 er1 er2
    cases hv
    refine wpAny_Compare1 (qv_ok hs hk hx hn hm h0 h1 a e _ A E u _ hu ha hq1 er1 fun y k1 ⟨⟨as, r1⟩, pl1, dp1⟩ => qv_ok hs hk hx hn hm h0 h1 b f _ A E { u with toks := k1 } _ hu ha hq2 er2 fun z k2 ⟨⟨bs, r2⟩, pl2, dp2⟩ => ?_) (right_marks hq3)
    refine SeqAt.eq_plain (s := { u with toks := k2 }) (by rw [← hu] at r1; exact r1) (by rw [← hu] at r2; exact r2) pl1 pl2 (by have := Nat.min_le_left d1.depth d2.depth; omega) (H _ k2 ⟨⟨[], .bool _⟩, rfl, Nat.zero_le _⟩)
  | .isin a b, e, d, A, E, u, Q, hu, ha, hq, hv, H => by
    unfold qck at hq
    split at hq
    case h_2 => cases hq
    rename_i e y p pos
    simp only [Bool.and_eq_true] at hq
    obtain ⟨hq1, hq2⟩ := hq
    unfold qv at hv
    split at hv
    · rename_i g eg
      split at hv
      case h_2 => cases hv
      rename_i z er1
      cases hv
      obtain ⟨j, rfl, er2⟩ := qDic_some eg
      refine wpAny_Compare1 (qv_ok hs hk hx hn hm h0 h1 a e _ A E u _ hu ha hq1 er1 fun y k1 ⟨⟨as, r1⟩, pl1, dp1⟩ => q_name hs hk hx hn hm h0 h1 (u := { u with toks := k1 }) hu hq2 er2 fun zz ⟨ad, kvs, vs, e1, e2, rel, dd, hg⟩ => ?_)
      subst e1
      cases r1
      rename_i tk _
      have dd' : ({ u with toks := k1 } : Shared).heap.DictOf (mixKind prog w) ad vs := by rw [← hu] at dd; exact dd
      refine wpAny_in_of (knd := mixKind prog w) (k := .inr z) (mixKind_str prog w z tk) e2 dd'.mapOf ?_
      rw [← (rel.val (.inr z)).isSome_eq]
      have ez : (.inr z : Key) = kyK (.inr z.cps.toList) := by
        cases z
        simp [kyK, mkS]
      rw [ez, hg]
      exact H _ _ ⟨⟨[], .bool _⟩, rfl, Nat.zero_le _⟩
    · rename_i eg
      have key : ∀ (ds : List PyData) (dd : PyData) (isL : Bool), qv ρ b = some (if isL then .list ds else .tuple ds) → qv ρ a = some dd → d = .bool (ds.any fun y => PyData.eqv y dd) → wpAny (model prog w) A (eval (.Compare e [.In] [.Name y p] pos) ce) Q E u := fun ds dd isL eb ea hd => by
        subst hd
        refine wpAny_Compare1 (qv_ok hs hk hx hn hm h0 h1 a e _ A E u _ hu ha hq1 ea fun z k1 ⟨⟨as, r1⟩, pl1, dp1⟩ => qv_ok hs hk hx hn hm h0 h1 b (.Name y p) _ A E { u with toks := k1 } _ hu ha hq2 eb fun zz k2 ⟨⟨bs, r2⟩, pl2, dp2⟩ => ?_)
        have hm2 := Nat.min_le_right (PyData.depthAll ds) dd.depth
        cases isL with
        | true => exact SeqAt.in_list_data (s := { u with toks := k2 }) (by rw [← hu] at r2; exact r2) (by rw [← hu] at r1; exact r1) pl2 pl1 (by omega) (H _ k2 ⟨⟨[], .bool _⟩, rfl, Nat.zero_le _⟩)
        | false => exact SeqAt.in_tuple_data (s := { u with toks := k2 }) (by rw [← hu] at r2; exact r2) (by rw [← hu] at r1; exact r1) pl2 pl1 (by omega) (H _ k2 ⟨⟨[], .bool _⟩, rfl, Nat.zero_le _⟩)
      split at hv
      · rename_i ds dd er1 er2
        cases hv
        exact key ds dd true er1 er2 rfl
      · rename_i ds dd er1 er2
        cases hv
        exact key ds dd false er1 er2 rfl
      · cases hv
  | .and a b, e, d, A, E, u, Q, hu, ha, hq, hv, H => by
    unfold qck at hq
    split at hq
    case h_2 => cases hq
    rename_i e f pos
    simp only [Bool.and_eq_true] at hq
    obtain ⟨hq1, hq2⟩ := hq
    unfold qv at hv
    split at hv
    · rename_i er
      refine BoolOp_and (qv_ok hs hk hx hn hm h0 h1 a e _ A E u _ hu ha hq1 er fun y k1 ⟨⟨as, r1⟩, pl1, dp1⟩ => ?_)
      cases r1
      refine wpAny_truthy_bool ?_
      rw [if_pos rfl]
      exact BoolOp_one (qv_ok hs hk hx hn hm h0 h1 b f _ A E { u with toks := k1 } _ hu ha hq2 hv fun z k2 r2 => H z k2 r2)
    · rename_i er
      cases hv
      refine BoolOp_and (qv_ok hs hk hx hn hm h0 h1 a e _ A E u _ hu ha hq1 er fun y k1 ⟨⟨as, r1⟩, pl1, dp1⟩ => ?_)
      cases r1
      refine wpAny_truthy_bool ?_
      rw [if_neg Bool.false_ne_true]
      exact H _ k1 ⟨⟨[], .bool _⟩, rfl, Nat.zero_le _⟩
    · cases hv
end
/-! ### what is kept while the table of code objects grows -/
mutual
theorem reads_but {P : Addr} {h h' : Heap} (k : ∀ b o, b ≠ P → h.get? b = some o → h'.get? b = some o) (hP : ∀ o, h.get? P = some o → o.cls = .none) : ∀ {v : Value} {d : PyData} {as : List Addr}, Reads h v d as → Reads h' v d as
  | _, _, _, .none => .none
  | _, _, _, .bool b => .bool b
  | _, _, _, .int i t => .int i t
  | _, _, _, .str x t => .str x t
  | _, _, _, .list h1 h2 h3 h4 => .list (k _ _ (fun z => by rw [z] at h1; rw [hP _ h1] at h2; cases h2) h1) h2 h3 (readsAll_but k hP h4)
  | _, _, _, .tuple h1 h2 h3 h4 => .tuple (k _ _ (fun z => by rw [z] at h1; rw [hP _ h1] at h2; cases h2) h1) h2 h3 (readsAll_but k hP h4)
  | _, _, _, .dict h1 h2 h3 h4 h5 => .dict (k _ _ (fun z => by rw [z] at h1; rw [hP _ h1] at h2; cases h2) h1) h2 h3 (readsAll_but k hP h4) (readsAll_but k hP h5)
theorem readsAll_but {P : Addr} {h h' : Heap} (k : ∀ b o, b ≠ P → h.get? b = some o → h'.get? b = some o) (hP : ∀ o, h.get? P = some o → o.cls = .none) : ∀ {vs : List Value} {ds : List PyData} {as : List Addr}, ReadsAll h vs ds as → ReadsAll h' vs ds as
  | _, _, _, .nil => .nil
  | _, _, _, .cons h1 h2 => .cons (reads_but k hP h1) (readsAll_but k hP h2)
end
theorem rdp_but {P : Program} {w : World} {T : Addr} {h h' : Heap} (k : ∀ b o, b ≠ T → h.get? b = some o → h'.get? b = some o) (hT : ∀ o, h.get? T = some o → o.cls = .none) (hT2 : ∀ o es ep, h.get? T = some o → o.data ≠ .dict es ep) {v : Value} : ∀ {q : QD}, RdP P w h v q → RdP P w h' v q
  | .d x, ⟨⟨as, r⟩, p, d⟩ => ⟨⟨as, reads_but k hT r⟩, p, d⟩
  | .dic g, ⟨a, kvs, vs, e1, e2, rel, dd, hg⟩ => by
    obtain ⟨o, es, ep, ho, he, hd, rest⟩ := dd
    exact ⟨a, kvs, vs, e1, e2, rel, ⟨o, es, ep, k a o (fun z => by rw [z] at ho; exact hT2 o es ep ho hd) ho, he, hd, rest⟩, hg⟩
/-- what a name's value holds, told of the heap -/
def QdH (K : PySem.W.Frag) (H : Hp) (v : V) : QD → Prop
  | .d x => Dp K H v x ∧ x.plain = true ∧ x.depth ≤ 40
  | .dic g => ∃ (a : Addr) (kvs : List (Key × V)), v = .ref a ∧ Rd H a (.dK kvs) ∧ ∀ k : Ky, (valV kvs (kyK k)).isSome = g k
section
variable {X : Cx} {pins : List (Addr × Obj)} {σ : L2.St} {H : Hp} {s : Shared}
theorem qdh_rdp (I : Inv X pins σ H s) {v : V} {u : Value} (r : RelV v u) : ∀ {q : QD}, QdH X.K H v q → RdP X.prog X.w s.heap u q
  | .d x, ⟨h1, h2, h3⟩ => ⟨Dp.reads I x v u h1 r, h2, h3⟩
  | .dic g, ⟨a, kvs, e, h1, h2⟩ => by
    subst e
    cases (show u = Value.ref a from r)
    obtain ⟨z, hd, vs, rel, dd⟩ := dk_rd I.hok h1
    exact ⟨a, kvs, vs, rfl, hd, rel, dd, h2⟩
/-- the facts about a walk over a list or a tuple -/
theorem iter_seq {p : Addr} {xs : List V} {isL : Bool} {Q : Value → Shared → Prop} {E : Value → Shared → Prop} (I : Inv X pins σ H s) (hs : if isL then SqL X.K H p xs else SqT X.K H p xs)
    (h : ∀ (its : List Value) (it : Obj) (St : Nat → Heap → Prop), Vals xs its → xs.length ≤ sizeLine → (∃ o, s.heap.get? p = some o ∧ o.cls ≠ .none) → (∀ A' : Around, A'.handled = none → Walks X.prog X.w A' s.heap.objs.size [s.heap.objs.size, p] [s.heap.objs.size] its.toArray.size (fun i v => its.toArray[i]? = some v) St) →
      St 0 (s.heap.push it) → Q (.ref s.heap.objs.size) { s with heap := s.heap.push it }) : wpAny (model X.prog X.w) X.A (pyIter (.ref p)) Q E s := by
  cases isL with
  | true =>
    obtain ⟨its, r, pl, hz⟩ := I.list hs
    have il : s.heap.IsList p its.toArray := pl.isList
    have lp : p < s.heap.objs.size := let ⟨_, ho, _⟩ := il; Heap.lt_size ho
    refine wpAny_pyIter_list il (h its _ _ r hz (let ⟨o, ho, hc, _⟩ := il; ⟨o, ho, by rw [hc]; exact fun z => nomatch z⟩) (fun A' hA => Walks.list hA _ p (Nat.ne_of_lt lp) its.toArray) ⟨⟨_, Heap.get?_push_size _ rfl, rfl, rfl⟩, ?_⟩)
    obtain ⟨o, ho, rr⟩ := il
    exact ⟨o, Heap.get?_push_of_some _ ho, rr⟩
  | false =>
    obtain ⟨its, r, il, hz⟩ := I.tuple hs
    have lp : p < s.heap.objs.size := il.lt
    refine wpAny_pyIter_tuple il (h its _ _ r hz (let ⟨o, ho, hc, _⟩ := il; ⟨o, ho, by rw [hc]; exact fun z => nomatch z⟩) (fun A' hA => Walks.tuple hA _ p (Nat.ne_of_lt lp) its.toArray) ⟨⟨_, Heap.get?_push_size _ rfl, rfl, rfl⟩, ?_⟩)
    exact il.push _
def fakeT (n : Nat) : Str := ⟨(List.range n).toArray⟩
theorem fake_size (n : Nat) : (fakeT n).cps.size = n := by simp [fakeT]
theorem fake_get {n i : Nat} (h : i < n) : (fakeT n).cps[i]? = some i := by
  show (List.range n).toArray[i]? = some i
  rw [List.getElem?_toArray, List.getElem?_range h]
def bitOf (bs : List Bool) (c : Nat) : Bool := bs.getD c false
theorem gen_list {cd P : Addr} {elt src : Expr} {x : Str} {px gp : Pos} {gsc : Scope} {te : TE} {k i : Nat} {t : QT} {Q : Value → Shared → Prop} {R : Nat → List Bool → Hp → Prop}
    (hr : Room k X.A) (hun : X.A.units + 64 < cLine) (tb : GxR.TabB X.base X.mg cd P) (ec : X.env.code = .ref cd) (g1 : gsc.kind = .function) (g2 : gsc.isCoroutine = false) (g3 : ∀ y ∈ gsc.names, y.2 ≠ .cell) (g4 : gsc.names.lookup (".0" : Str) = some NameKind.local) (g5 : gsc.names.lookup x = some .local)
    (gf : ∀ y ∈ gsc.names, y.2 = .free → X.env.scope.names.lookup y.1 = some .cell ∧ ∃ (j : Nat) (v : V), X.N[j]? = some y.1 ∧ σ[j]? = some (some v)) (gk : ∀ y, gsc.names.lookup y = some .free → (y, NameKind.free) ∈ gsc.names)
    (hq : qck X.N gsc x i t elt = true) (hi : PE X src te) (hf : ∀ v, genFold src X.env v = pure v) (I : Inv X pins σ H s)
    (h : te σ H fun v H1 => ∃ (p : Addr) (xs : List V) (isL : Bool) (bs : List Bool) (ρ : Nat → Nat → Option QD), v = .ref p ∧ (if isL then SqL X.K H1 p xs else SqT X.K H1 p xs) ∧ bs.length = xs.length ∧
      (∀ n xv q, xs[n]? = some xv → ρ n i = some q → QdH X.K H1 xv q) ∧ (∀ n j q, j ≠ i → ρ n j = some q → ∃ xv, σ[j]? = some (some xv) ∧ QdH X.K H1 xv q) ∧ (∀ n b, bs[n]? = some b → qv (ρ n) t = some (.bool b)) ∧ GxR.TabG H1 P ∧ R xs.length bs H1)
    (hQ : ∀ n bs H1 g s5, R n bs H1 → bs.length = n → GxR.Ready X pins σ H1 P (fakeT n) (bitOf bs) g s5 → Q (.ref g) s5) :
    wpAny (model X.prog X.w) X.A (eval (.GeneratorExp elt [⟨.Name x px, src, [], 0⟩] gsc gp) X.env) Q X.xe s := by
  have dp := hr.dp
  have free : ∀ y ∈ gsc.names, y.2 = .free → ∃ c, X.env.cells.lookup y.1 = some c := fun y hy e => by
    obtain ⟨e1, j, v, e2, e3⟩ := gf y hy e
    obtain ⟨m, _, lk⟩ := I.loc
    obtain ⟨u, _, l | ⟨_, c, hc, _⟩⟩ := lk j y.1 v e2 e3 (.inr (.inl e1))
    · have : X.env.kindOf y.1 = some .cell := e1
      rw [this] at l
      cases l.1
    · exact ⟨c, hc⟩
  refine wpAny_GeneratorExp_walksQD hr.hd g2 (closure_ok free) g3 g4 g5 g1 (by omega) ?_ hf
  refine thn (hi.run pins s σ H _ I h) fun xv u1 ⟨v, H1, J, rel, p, xs, isL, bs, ρ, ev, hsq, hbl, hit, hcp, hbt, ⟨ps, hP, tri⟩, hR⟩ => ?_
  subst ev
  cases (show xv = Value.ref p from rel)
  refine iter_seq J hsq fun its it St vals hz ⟨po, hpo, hpc⟩ walk at0 => ?_
  have tabAt : u1.heap.get? P = some { cls := .none, data := .fields ps } := J.hok P _ hP
  have ltP : P < u1.heap.objs.size := Heap.lt_size tabAt
  have pP : p ≠ P := fun z => by
    rw [z, tabAt] at hpo
    cases hpo
    exact hpc rfl
  have ltp : p < u1.heap.objs.size := Heap.lt_size hpo
  have tabAt2 : (u1.heap.push it).get? P = some { cls := .none, data := .fields ps } := Heap.get?_push_of_some _ tabAt
  have cdh : PySem.W.CodeHd (u1.heap.push it) cd P := tb.code.keeps fun b o e => Heap.get?_push_of_some _ (J.bk b o e)
  have noP : ∀ b o, X.base.get? b = some o → b ≠ P := fun b o e z => by
    have q := (J.bs b o e).2
    rw [z, hP] at q
    cases q
  have lm2 : (u1.heap.push it).NoLimit := J.nolimit.push it
  have szp : (u1.heap.push it).objs.size = u1.heap.objs.size + 1 := Heap.size_push ..
  have hlen : its.length = xs.length := vals.length.symm
  have hsz : (fakeT xs.length).cps.size = its.toArray.size := by rw [fake_size]; simp [hlen]
  have main : ∀ (code : Value) (h3 : Heap) (tk : Nat) (more : Array Value), Heap.ExtBut P (u1.heap.push it) h3 → u1.heap.objs.size + 1 ≤ h3.objs.size → h3.get? P = some { cls := .none, data := .fields (ps ++ more) } → TriplesOk (ps ++ more).toList →
      wpAny (model X.prog X.w) X.A (builtinsFor X.env.globals X.env.builtins) (fun bi s₄ =>
        ∃ Ia fp wr n₀ Pf St₀ pz F, Value.ref u1.heap.objs.size = .ref Ia ∧ (∀ A' : Around, A'.handled = none → Walks X.prog X.w A' Ia fp wr n₀ Pf St₀) ∧ St₀ 0 s₄.heap ∧ (∀ b ∈ fp, b < s₄.heap.objs.size) ∧ s₄.heap.NoLimit ∧ cStatics ∉ wr ∧
          (∀ hr : Heap, (∀ b o, s₄.heap.get? b = some o → hr.get? b = some o) → QuietGenD X.prog X.w (genEnv gsc (cloFrom X.env.cells gsc.names []) s₄.heap.objs.size code bi X.env) x [] elt (List.range s₄.heap.objs.size) wr Pf pz F hr (X.A.depth + 1) (X.A.units + 8)) ∧
          (∀ a h₅ tk gs, gs.bare = true → s₄.heap.objs.size < a → h₅.objs.size = a + 1 → (∀ b o, s₄.heap.get? b = some o → h₅.get? b = some o) →
            WalksS X.prog X.w X.A.in4 a (a :: s₄.heap.objs.size :: List.range s₄.heap.objs.size) (s₄.heap.objs.size :: wr) (GenOnlyQ s₄.gens.size) (passing pz n₀ 0).length
              (fun j y => ∃ i, (passing pz n₀ 0)[j]? = some i ∧ F i y) (GenAt X.prog X.w X.A.in4 a s₄.gens.size s₄.heap.objs.size (List.range s₄.heap.objs.size) wr pz n₀ F) →
            GenAt X.prog X.w X.A.in4 a s₄.gens.size s₄.heap.objs.size (List.range s₄.heap.objs.size) wr pz n₀ F 0 { s₄ with gens := s₄.gens.push gs, toks := tk, heap := h₅ } →
            Q (.ref a) { s₄ with gens := s₄.gens.push gs, toks := tk, heap := h₅ })) X.xe { u1 with heap := h3, toks := tk } := by
    intro code h3 tk more hx hsz3 tab3 tri3
    obtain ⟨bm, ob, b1, b2, b3, b4, b5, b6, b7, b8⟩ := tb.bm
    have stP : cStatics ≠ P := fun e => by
      obtain ⟨_, ⟨o', es, ep, ho, hd, _⟩, _⟩ := J.nolimit
      rw [e, tabAt] at ho
      cases ho
      cases hd
    have stLt : cStatics < u1.heap.objs.size := (let ⟨_, z, _⟩ := J.nolimit; z.lt)
    have old : ∀ b o, b ≠ P → u1.heap.get? b = some o → h3.get? b = some o := fun b o n e => hx b o n (Heap.get?_push_of_some _ e)
    refine wpAny_builtinsFor (m := X.mg) (by rw [J.ok.glob]; exact ((J.mod.glob.keeps J.bk).push it).extBut hx tb.gP) b1 b2 (old _ _ b4 (J.bk _ _ b5)) b6 b7 b8 ?_
    refine ⟨u1.heap.objs.size, [u1.heap.objs.size, p], [u1.heap.objs.size], (fakeT xs.length).cps.size, (fun i v => its.toArray[i]? = some v), St, fun _ => true, fun i y => ∃ cc, (fakeT xs.length).cps[i]? = some cc ∧ y = .bool (bitOf bs cc), rfl, fun A' hA => (by rw [hsz]; exact walk A' hA), ?_, fun b hb => ?_, lm2.extBut hx stP, fun z => ?_, fun hr' keepR => ?_, fun g h5 tk5 gst bare5 gt5 sz5 keep5 w5 at5 => ?_⟩
    · refine (walk X.A hr.hd).frame _ _ _ at0 fun b hb o e => hx b o (fun z => ?_) e
      rcases List.mem_cons.mp hb with hb | hb
      · rw [hb] at z
        exact Nat.ne_of_lt ltP z.symm
      · rw [List.mem_singleton.mp hb] at z
        exact pP z
    · rcases List.mem_cons.mp hb with hb | hb
      · rw [hb]
        exact Nat.lt_of_succ_le hsz3
      · rw [List.mem_singleton.mp hb]
        exact Nat.lt_of_lt_of_le ltp (Nat.le_of_succ_le hsz3)
    · exact Nat.ne_of_lt stLt (List.mem_singleton.mp z)
    · refine ⟨fun A' E' i v u m hA _ _ pv hn hm kp => ?_, fun A' E' n v u m hA dA uA pv _ hn hm kp => ?_⟩
      · simp only [List.forIn_nil]
        exact wpAny_pure ⟨rfl, GxR.keeps_refl _⟩
      · have kk : ∀ b o, b ≠ P → u1.heap.get? b = some o → u.heap.get? b = some o := fun b o hb e1 => by
          have lb := Heap.lt_size e1
          refine kp b (List.mem_range.mpr (Nat.lt_of_lt_of_le lb (Nat.le_of_succ_le hsz3))) (fun z => ?_) o (keepR b o (old b o hb e1))
          exact Nat.ne_of_lt lb (List.mem_singleton.mp z)
        have hT : ∀ o, u1.heap.get? P = some o → o.cls = .none := fun o e => by rw [tabAt] at e; cases e; rfl
        have hT2 : ∀ o es ep, u1.heap.get? P = some o → o.data ≠ .dict es ep := fun o es ep e z => by rw [tabAt] at e; cases e; cases z
        have pv2 : its[n]? = some v := by simpa using pv
        have hn2 : n < xs.length := by rw [← hlen]; exact (List.getElem?_eq_some_iff.mp pv2).1
        obtain ⟨xv, hxv⟩ : ∃ xv, xs[n]? = some xv := ⟨_, List.getElem?_eq_getElem hn2⟩
        obtain ⟨v2, hv2, rv⟩ := vals.get hxv
        rw [pv2] at hv2
        cases hv2
        obtain ⟨b, hb⟩ : ∃ b, bs[n]? = some b := ⟨_, List.getElem?_eq_getElem (by omega)⟩
        refine qv_ok (ρ := ρ n) (h := u.heap) (N := X.N) (gsc := gsc) (x := x) (i := i) rfl g1 g5 hn hm (fun q e => ?_) (fun y j q e1 e2 e3 e4 => ?_) t elt (.bool b) A' E' u _ rfl (by omega) hq (hbt n b hb) fun z kt ⟨⟨as, r⟩, _, _⟩ => ?_
        · exact rdp_but kk hT hT2 (qdh_rdp J rv (hit n xv q hxv e))
        · obtain ⟨yv, hy1, hy2⟩ := hcp n j q e3 e4
          obtain ⟨ec1, _⟩ := gf (y, .free) (gk y e1) rfl
          obtain ⟨m1, _, lk⟩ := J.loc
          obtain ⟨uy, ru, l | ⟨_, c, hc, hcell⟩⟩ := lk j y yv e2 hy1 (.inr (.inl ec1))
          · have : X.env.kindOf y = some .cell := ec1
            rw [this] at l
            cases l.1
          · refine ⟨c, uy, NdefX.clo_has free (gk y e1) hc, ?_, rdp_but kk hT hT2 (qdh_rdp J ru hy2)⟩
            obtain ⟨co, hco, hcd⟩ := hcell
            refine ⟨co, kk c co (fun z => ?_) hco, hcd⟩
            rw [z, tabAt] at hco
            cases hco
            simp at hcd
        · cases r
          refine ⟨⟨n, fake_get hn2, ?_⟩, GxR.keeps_tok _ _⟩
          unfold bitOf
          rw [List.getD_eq_getElem?_getD, hb]
          rfl
    · simp only [passing_true, GxR.passing_true, List.length_range] at w5
      refine hQ xs.length bs H1 g _ hR hbl ⟨_, _, _, _, _, w5.in4_1, at5, fun j y sj Qj Ej hy hq => ?_, fun s' mv => ?_⟩
      · obtain ⟨i', hij, cc, hcc, rfl⟩ := hy
        obtain ⟨hj, ej⟩ := List.getElem?_eq_some_iff.mp hij
        rw [List.getElem_range] at ej
        subst ej
        have e9 : (fakeT xs.length).cps.toList[j]? = some cc := by rw [Array.getElem?_toList]; exact hcc
        have hq : Qj (GxR.trF (bitOf bs) (fakeT xs.length).cps.toList j) sj := hq
        rw [GxR.trF_some e9] at hq
        exact wpAny_truthy_bool hq
      · have apart : ∀ b o, u1.heap.get? b = some o → b ∉ h3.objs.size :: [u1.heap.objs.size] := fun b o e hb => by
          have lb : (b : Nat) < u1.heap.objs.size := Heap.lt_size e
          have l3 : (u1.heap.objs.size : Nat) + 1 ≤ h3.objs.size := hsz3
          rcases List.mem_cons.mp hb with z | z
          · exact Nat.ne_of_lt (Nat.lt_trans lb (Nat.lt_of_succ_le l3)) z
          · exact Nat.ne_of_lt lb (List.mem_singleton.mp z)
        have J2 := GxR.inv_tab (more := more) (h' := s'.heap) (g' := s'.gens) (d' := s'.drawn) (t' := s'.toks) J hP (fun b o n e => mv.heap b o (apart b o e) (keep5 b o (old b o n e))) (mv.heap P _ (apart P _ tabAt) (keep5 P _ tab3)) (AllBare.movedS (J.bare.push bare5) mv)
        rw [GxR.sh_eta u1 s' mv.os] at J2
        exact ⟨upd H1 P (.tbl (ps ++ more)), ⟨⟨ps ++ more, upd_same, tri3⟩, fun b n => upd_ne n⟩, J2⟩
  refine ⟨lm2, ?_⟩
  cases hc : codeAmong gp ps.toList with
  | some cv => exact wpAny_genexprCode_hit ec (cdh.code tabAt2 tri) hc (main cv (u1.heap.push it) u1.toks #[] (Heap.ExtBut.refl _ _) (Nat.le_of_eq szp.symm) (by rw [Array.append_empty]; exact tabAt2) (by rw [Array.append_empty]; exact tri))
  | none =>
    refine wpAny_genexprCodeX ec (cdh.code tabAt2 tri) (cdh.tab tabAt2) hc fun c' h' tk hx hge hlt hco _ htab _ => ?_
    obtain ⟨o1, vs, f1, tf, fl, tg, inF, tx, tt, op, _, _, _, _, _, _, _, _, _, tr, _⟩ := hco
    exact main _ h' tk _ hx (by rw [← szp]; exact Nat.le_trans hge (Nat.le_of_lt hlt)) htab.2 tr
end
/-! ### any, all by value -/
def qdOf (st : Sto) (w : Va) : Option QD := match dicOf w st with
  | some (ks, ws) => some (.dic fun k => (atKy ks ws k).isSome)
  | none => (pd 40 st w).map .d
def ρOf (env : Ev) (st : Sto) (i : Nat) (w : Va) (j : Nat) : Option QD := if j = i then qdOf st w else match env[j]? with
  | some (some v) => qdOf st v
  | _ => none
def ρL (l : List Va) (env : Ev) (st : Sto) (i : Nat) (n : Nat) (j : Nat) : Option QD := match l[n]? with
  | some w => ρOf env st i w j
  | none => none
theorem ρL_some {l : List Va} {env : Ev} {st : Sto} {i n : Nat} {w : Va} (h : l[n]? = some w) : ρL l env st i n = ρOf env st i w := by
  funext j
  unfold ρL
  rw [h]
def bitV (env : Ev) (st : Sto) (i : Nat) (t : QT) (w : Va) : Option Bool := match qv (ρOf env st i w) t with
  | some (.bool b) => some b
  | _ => none
def mAnyL (all : Bool) (i : Nat) (vs : List Nat) (ma : Mx Va) (t : QT) : Mx Va := fun env st => if vs.all (fun j => match env[j]? with | some (some _) => true | _ => false) = true then
  (ma env st).bind fun v st => match seqOf v st with
    | some l => match mapO (bitV env st i t) l with
      | some bs => .ok (.bl (if all then bs.all id else bs.any id)) st
      | none => .stuck
    | none => .stuck
  else .stuck
def genBL (N : List Str) (osc gsc : Scope) (x : Str) (vs : List Nat) : Bool := decide (gsc.kind = .function) && (!gsc.isCoroutine && (gsc.names.all (fun y => decide (y.2 ≠ .cell) && (decide (y.2 ≠ .free) || (decide (osc.names.lookup y.1 = some .cell) && vs.any fun j => decide (N[j]? = some y.1)))) && (decide (gsc.names.lookup (".0" : Str) = some NameKind.local) && decide (gsc.names.lookup x = some .local))))
theorem mapO_get {α β : Type} {f : α → Option β} : ∀ {l : List α} {r : List β}, mapO f l = some r → r.length = l.length ∧ ∀ (n : Nat) (x : α), l[n]? = some x → ∃ y, r[n]? = some y ∧ f x = some y
  | [], r, h => by cases h; exact ⟨rfl, fun n x e => by simp at e⟩
  | a :: l, r, h => by
    unfold mapO at h
    split at h
    · rename_i y ys e1 e2
      cases h
      obtain ⟨h1, h2⟩ := mapO_get e2
      refine ⟨by simp [h1], fun n x e => ?_⟩
      cases n with
      | zero => cases e; exact ⟨y, rfl, e1⟩
      | succ n => exact h2 n x e
    · cases h
theorem rvs_get {K : PySem.W.Frag} {F : Hp} {μ : List Addr} : ∀ {ws : List Va} {vs : List V}, RVs K F μ ws vs → ws.length = vs.length ∧ ∀ (n : Nat) (v : V), vs[n]? = some v → ∃ w, ws[n]? = some w ∧ RV K F μ w v
  | _, _, .nil => ⟨rfl, fun n v e => by simp at e⟩
  | _, _, .cons h1 h2 => by
    obtain ⟨g1, g2⟩ := rvs_get h2
    refine ⟨by simp [g1], fun n v e => ?_⟩
    cases n with
    | zero => cases e; exact ⟨_, rfl, h1⟩
    | succ n => exact g2 n v e
section
variable {X : Cx} {ct : Ct} {W : WX}
theorem qd_ok {K : PySem.W.Frag} {F H : Hp} {μ : List Addr} {st : Sto} {w : Va} {v : V} {q : QD} (r : Rel K ct F μ st H) (rv : RV K F μ w v) (h : qdOf st w = some q) : QdH K H v q := by
  unfold qdOf at h
  split at h
  · rename_i ks ws e
    cases h
    obtain ⟨a, kvs, rfl, h1, h2, h3⟩ := dicOf_ok r rv e
    refine ⟨a, kvs, rfl, h1, fun k => ?_⟩
    obtain ⟨g1, g2⟩ := atKy_ok k h2 h3
    cases e2 : atKy ks ws k with
    | none => rw [g2 e2]; show _ = (atKy ks ws k).isSome; rw [e2]; rfl
    | some w => obtain ⟨v', e', _⟩ := g1 w e2; rw [e']; show _ = (atKy ks ws k).isSome; rw [e2]; rfl
  · cases e : pd 40 st w with
    | none => rw [e] at h; cases h
    | some d => rw [e] at h; cases h; exact pd_ok 40 r rv e
/-- what follows stands where the table has grown -/
theorem tab_post {P : Addr} {F1 H1 H2 : Hp} {μ1 : List Addr} {st1 : Sto} {σ : L2.St} {Q : VK} {b : Bool} (hP : P ∈ ct.tps) (r1 : Rel X.K ct F1 μ1 st1 H1) (T : GxR.Tabbed P H1 H2) (p1 : GPost X.K ct W (RV X.K) σ F1 μ1 H1 Q (.ok (.bl b) st1)) : Q (.bl b) H2 := by
  obtain ⟨t2, o2⟩ := T
  have nF : F1 P = none := (r1.tabs P hP).2
  have ne : ∀ b u, H1 b = some u → (∀ ps, u ≠ .tbl ps) → b ≠ P := fun b u e nt z => by
    obtain ⟨ps, e2, _⟩ := (r1.tabs P hP).1
    rw [z, e2] at e
    exact nt ps (Option.some.inj e).symm
  refine p1 F1 μ1 H2 _ ⟨.refl _, List.prefix_rfl, fun b u e _ nt => by rw [o2 b (ne b u e nt)]; exact .inl e, fun P' t' => ?_, fun b e => .inl e, fun b m => .inl m, fun b e => ?_⟩ ⟨fun b u e => ?_, r1.len, fun p o b e1 e2 => ?_, r1.dis, r1.inj, fun b m => ?_, fun P' m => ⟨?_, (r1.tabs P' m).2⟩⟩ (.bl _)
  · by_cases z : P' = P
    · rw [z]; exact t2
    · obtain ⟨ps, e2, e3⟩ := t'
      exact ⟨ps, by rw [o2 P' z]; exact e2, e3⟩
  · by_cases z : b = P
    · obtain ⟨ps, e2, _⟩ := t2
      rw [z, e2]; exact fun z => nomatch z
    · rw [o2 b z]; exact e
  · rw [o2 b fun z => by rw [z, nF] at e; cases e]
    exact r1.sub0 b u e
  · have q := r1.obj p o b e1 e2
    obtain ⟨u, hu, mu⟩ := q.there
    exact q.mono (.refl _) List.prefix_rfl (o2 b (ne b u hu (nt_hmut mu)))
  · by_cases z : b = P
    · obtain ⟨ps, e2, _⟩ := t2
      rw [z, e2]; exact fun z => nomatch z
    · rw [o2 b z]; exact r1.mtr b m
  · by_cases z : P' = P
    · rw [z]; exact t2
    · obtain ⟨ps, e2, e3⟩ := (r1.tabs P' m).1
      exact ⟨ps, by rw [o2 P' z]; exact e2, e3⟩
theorem fake_any (bs : List Bool) : (List.range (fakeT bs.length).cps.size).any (GxR.trF (bitOf bs) (fakeT bs.length).cps.toList) = bs.any id := by
  rw [GxR.any_signs]
  unfold fakeT
  show (List.range bs.length).any (bitOf bs) = _
  rw [Bool.eq_iff_iff, List.any_eq_true, List.any_eq_true]
  constructor
  · rintro ⟨n, h1, h2⟩
    have hn := List.mem_range.mp h1
    unfold bitOf at h2
    rw [List.getD_eq_getElem?_getD, List.getElem?_eq_getElem hn] at h2
    exact ⟨_, List.getElem_mem hn, h2⟩
  · rintro ⟨b, h1, h2⟩
    obtain ⟨n, hn, rfl⟩ := List.getElem_of_mem h1
    refine ⟨n, List.mem_range.mpr hn, ?_⟩
    unfold bitOf
    rw [List.getD_eq_getElem?_getD, List.getElem?_eq_getElem hn]
    exact h2
theorem fake_all (bs : List Bool) : (List.range (fakeT bs.length).cps.size).all (GxR.trF (bitOf bs) (fakeT bs.length).cps.toList) = bs.all id := by
  rw [GxR.all_signs]
  unfold fakeT
  show (List.range bs.length).all (bitOf bs) = _
  rw [Bool.eq_iff_iff, List.all_eq_true, List.all_eq_true]
  constructor
  · intro h b h1
    obtain ⟨n, hn, rfl⟩ := List.getElem_of_mem h1
    have := h n (List.mem_range.mpr hn)
    unfold bitOf at this
    rw [List.getD_eq_getElem?_getD, List.getElem?_eq_getElem hn] at this
    exact this
  · intro h n h1
    have hn := List.mem_range.mp h1
    unfold bitOf
    rw [List.getD_eq_getElem?_getD, List.getElem?_eq_getElem hn]
    exact h _ (List.getElem_mem hn)
/-- the generator, made ready; what follows holds of the answer -/
theorem gen_any {cd P : Addr} {elt src : Expr} {x : Str} {px gp : Pos} {gsc : Scope} {k i : Nat} {vs : List Nat} {t : QT} {ma : Mx Va} (all : Bool) {pins : List (Addr × Obj)} {σ : L2.St} {H : Hp} {s : Shared} {Q : VK} {Q' : Value → Shared → Prop}
    (hr : Room k X.A) (hun : X.A.units + 64 < cLine) (tb : GxR.TabB X.base X.mg cd P) (hP : P ∈ ct.tps) (ec : X.env.code = .ref cd) (hb : genBL X.N X.env.scope gsc x vs = true) (hq : qck X.N gsc x i t elt = true) (hi : PE X src (TE' X ct W ma)) (hf : ∀ v, genFold src X.env v = pure v) (I : Inv X pins σ H s)
    (h : TE' X ct W (mAnyL all i vs ma t) σ H Q)
    (hQ : ∀ bs H1 g s5, (∀ H2, GxR.Tabbed P H1 H2 → Q (.bl (if all then bs.all id else bs.any id)) H2) → GxR.Ready X pins σ H1 P (fakeT bs.length) (bitOf bs) g s5 → Q' (.ref g) s5) :
    wpAny (model X.prog X.w) X.A (eval (.GeneratorExp elt [⟨.Name x px, src, [], 0⟩] gsc gp) X.env) Q' X.xe s := by
  obtain ⟨F, μ, env, st, r, re, p⟩ := h
  unfold mAnyL at p
  split at p
  case isFalse => exact p.elim
  rename_i hvs
  unfold genBL at hb
  simp only [Bool.and_eq_true, decide_eq_true_eq, Bool.not_eq_true', List.all_eq_true, Bool.or_eq_true, List.any_eq_true] at hb
  obtain ⟨g1, g2, g3, g4, g5⟩ := hb
  refine gen_list (R := fun n bs H1 => n = bs.length → ∀ H2, GxR.Tabbed P H1 H2 → Q (.bl (if all then bs.all id else bs.any id)) H2) hr hun tb ec g1 g2 (fun y hy => (g3 y hy).1) g4 g5 (fun y hy e => ?_) (fun y e => mem_of_lookup e) hq hi hf I ?_ fun n bs H1 g s5 hR hbl rd => by subst hbl; exact hQ bs H1 g s5 (hR rfl) rd
  · rcases (g3 y hy).2 with z | ⟨z1, j, hj, z2⟩
    · exact absurd e z
    · refine ⟨z1, j, ?_⟩
      have := List.all_eq_true.mp hvs j hj
      split at this
      · rename_i w ew
        obtain ⟨v, hv, _⟩ := re.get j w ew
        exact ⟨v, z2, hv⟩
      · cases this
  · refine ⟨F, μ, env, st, r, re, p.bind fun w st1 F1 μ1 H1 v _ x1 r1 rv p1 => ?_⟩
    split at p1
    case h_2 => exact p1.elim
    rename_i l el
    split at p1
    case h_2 => exact p1.elim
    rename_i bs eb
    obtain ⟨a, xs, rfl, hsq, rvs⟩ := seqOf_ok r1 rv el
    obtain ⟨b1, b2⟩ := mapO_get eb
    obtain ⟨l1, l2⟩ := rvs_get rvs
    have re1 := re.mono x1
    have key : ∀ isL : Bool, (if isL then SqL X.K H1 a xs else SqT X.K H1 a xs) → ∃ (p : Addr) (xs' : List V) (isL : Bool) (bs : List Bool) (ρ : Nat → Nat → Option QD), V.ref a = .ref p ∧ (if isL then SqL X.K H1 p xs' else SqT X.K H1 p xs') ∧ bs.length = xs'.length ∧
      (∀ n xv q, xs'[n]? = some xv → ρ n i = some q → QdH X.K H1 xv q) ∧ (∀ n j q, j ≠ i → ρ n j = some q → ∃ xv, σ[j]? = some (some xv) ∧ QdH X.K H1 xv q) ∧ (∀ n b, bs[n]? = some b → qv (ρ n) t = some (.bool b)) ∧ GxR.TabG H1 P ∧ (xs'.length = bs.length → ∀ H2, GxR.Tabbed P H1 H2 → Q (.bl (if all then bs.all id else bs.any id)) H2) := fun isL hs => by
      refine ⟨a, xs, isL, bs, ρL l env st1 i, rfl, hs, by omega, fun n xv q e1 e2 => ?_, fun n j q e1 e2 => ?_, fun n b e1 => ?_, (r1.tabs P hP).1, fun _ H2 T => tab_post hP r1 T p1⟩
      · obtain ⟨w, e3, rw'⟩ := l2 n xv e1
        rw [ρL_some e3] at e2
        unfold ρOf at e2
        rw [if_pos rfl] at e2
        exact qd_ok r1 rw' e2
      · cases e3 : l[n]? with
        | none => unfold ρL at e2; rw [e3] at e2; cases e2
        | some w =>
          rw [ρL_some e3] at e2
          unfold ρOf at e2
          rw [if_neg e1] at e2
          split at e2
          · rename_i u eu
            obtain ⟨uv, hu1, hu2⟩ := re1.get j u eu
            exact ⟨uv, hu1, qd_ok r1 hu2 e2⟩
          · cases e2
      · have hn : n < l.length := by rw [← b1]; exact (List.getElem?_eq_some_iff.mp e1).1
        obtain ⟨w, hw⟩ : ∃ w, l[n]? = some w := ⟨_, List.getElem?_eq_getElem hn⟩
        obtain ⟨y, y1, y2⟩ := b2 n w hw
        rw [e1] at y1
        cases y1
        unfold bitV at y2
        rw [ρL_some hw]
        split at y2
        · rename_i b' eb'
          cases y2
          exact eb'
        · cases y2
    rcases hsq with hs | hs
    · exact key true hs
    · exact key false hs
theorem pe_anyL {cd P : Addr} {elt src : Expr} {x : Str} {px p pos gp : Pos} {gsc : Scope} {k i : Nat} {vs : List Nat} {t : QT} {ma : Mx Va}
    (hr : Room k X.A) (hun : X.A.units + 64 < cLine) (hg : Gl X "any") (hm : X.mg "any" = none) (tb : GxR.TabB X.base X.mg cd P) (hP : P ∈ ct.tps) (ec : X.env.code = .ref cd) (hb : genBL X.N X.env.scope gsc x vs = true) (hq : qck X.N gsc x i t elt = true) (hi : PE X src (TE' X ct W ma)) (hf : ∀ v, genFold src X.env v = pure v) :
    PE X (.Call (.Name "any" p) [.GeneratorExp elt [⟨.Name x px, src, [], 0⟩] gsc gp] [] pos) (TE' X ct W (mAnyL false i vs ma t)) := by
  have he : starEach [.GeneratorExp elt [⟨.Name x px, src, [], 0⟩] gsc gp] X.env = (false, eval (.GeneratorExp elt [⟨.Name x px, src, [], 0⟩] gsc gp) X.env) :: starEach [] X.env := rfl
  refine ⟨fun pins s σ H Q I h => wpAny_Call_Name_kw (ld_blt I hg hm (show bootBuiltins "any" = some (.builtin "any") by decide +kernel) (PyProof.Rows.callWith_builtin1 ?_ he (by rfl)))⟩
  rw [he]
  show wpAny _ _ (spliced ((false, eval (.GeneratorExp elt [⟨.Name x px, src, [], 0⟩] gsc gp) X.env) :: backTo pos (starEach [] X.env))) _ _ s
  refine Calls.spliced_cons (gen_any false hr hun tb hP ec hb hq hi hf I h fun bs H1 g s5 q ⟨fp, wr, G, F, Sx, walk, at0, tr, out⟩ => Calls.spliced_nil (call_any_walkS (walk.self 0 _ _ _ at0 ⟨g, fp, wr, G, _, F, Sx, _, rfl, walk, at0, tr, fun s' mv => ?_⟩)))
  obtain ⟨H2, hT, J⟩ := out s' mv
  refine ⟨.bl _, H2, J, rfl, ?_⟩
  rw [fake_any bs]
  exact q H2 hT
theorem pe_allL {cd P : Addr} {elt src : Expr} {x : Str} {px p pos gp : Pos} {gsc : Scope} {k i : Nat} {vs : List Nat} {t : QT} {ma : Mx Va}
    (hr : Room k X.A) (hun : X.A.units + 64 < cLine) (hg : Gl X "all") (hm : X.mg "all" = none) (tb : GxR.TabB X.base X.mg cd P) (hP : P ∈ ct.tps) (ec : X.env.code = .ref cd) (hb : genBL X.N X.env.scope gsc x vs = true) (hq : qck X.N gsc x i t elt = true) (hi : PE X src (TE' X ct W ma)) (hf : ∀ v, genFold src X.env v = pure v) :
    PE X (.Call (.Name "all" p) [.GeneratorExp elt [⟨.Name x px, src, [], 0⟩] gsc gp] [] pos) (TE' X ct W (mAnyL true i vs ma t)) := by
  have he : starEach [.GeneratorExp elt [⟨.Name x px, src, [], 0⟩] gsc gp] X.env = (false, eval (.GeneratorExp elt [⟨.Name x px, src, [], 0⟩] gsc gp) X.env) :: starEach [] X.env := rfl
  refine ⟨fun pins s σ H Q I h => wpAny_Call_Name_kw (ld_blt I hg hm (show bootBuiltins "all" = some (.builtin "all") by decide +kernel) (PyProof.Rows.callWith_builtin1 ?_ he (by rfl)))⟩
  rw [he]
  show wpAny _ _ (spliced ((false, eval (.GeneratorExp elt [⟨.Name x px, src, [], 0⟩] gsc gp) X.env) :: backTo pos (starEach [] X.env))) _ _ s
  refine Calls.spliced_cons (gen_any true hr hun tb hP ec hb hq hi hf I h fun bs H1 g s5 q ⟨fp, wr, G, F, Sx, walk, at0, tr, out⟩ => Calls.spliced_nil (call_all_walkS (walk.self 0 _ _ _ at0 ⟨g, fp, wr, G, _, F, Sx, _, rfl, walk, at0, tr, fun s' mv => ?_⟩)))
  obtain ⟨H2, hT, J⟩ := out s' mv
  refine ⟨.bl _, H2, J, rfl, ?_⟩
  rw [fake_all bs]
  exact q H2 hT
end
end G

set_option Elab.async false
set_option linter.all false
set_option maxRecDepth 100000
set_option maxHeartbeats 4000000
/-! min, max of a list of ints with default= -/
namespace G
open PySem PySem.Spec PyProof.Rows L2
def bstI (f : Int → Int → Bool) (i : Int) (l : List Int) : Int := l.foldl (fun a y => if f y a then y else a) i
def rBestD (K : PySem.W.Frag) (f : Int → Int → Bool) : List V → List V → Hp → VK → Prop := fun vs zs H Q => ∃ (a : Addr) (ns : List Int) (z : V), vs = [.ref a] ∧ zs = [z] ∧ SqL K H a (ns.map V.int) ∧ Q (match ns with
  | [] => z
  | i :: is => .int (bstI f i is)) H
theorem ints_get {its : List Value} {ns : List Int} (h : IntsAre its ns) {i : Nat} {v : Value} (hv : its[i]? = some v) : ∃ t, v = .int (ns.getD i 0) t ∧ i < ns.length := by
  have hi := (List.getElem?_eq_some_iff.mp hv).1
  have hl := h.length
  obtain ⟨t, e⟩ := PyProof.Rows.IntsAre.int_at h i v hv
  exact ⟨t, e, by omega⟩
section
variable {X : Cx}
theorem cr_minD (hc : X.calm = true) : CallRK X (.builtin "min") [Str.ofString "default"] (rBestD X.K fun a b => decide (a < b)) := by
  intro pins s σ H vs zs us ws Q I r rz h
  obtain ⟨a, ns, z, rfl, rfl, hs, q⟩ := h
  obtain rfl := Vals.ref1 r
  obtain ⟨w1, rfl, e1⟩ := vals1 rz
  obtain ⟨its, rv, hli, hz⟩ := I.list hs
  have hI := rv.ints
  have hlen : its.toArray.size = ns.length := by rw [List.size_toArray]; exact hI.length
  show wpAny _ _ (call (.builtin "min") [.ref a] [(Str.ofString "default", w1)]) _ _ _
  refine call_min_walkD (PySem.W.iter_listW (A := X.A.in1) (I.ok.hd hc) hli.isList fun s₂ e W st hfp hw hk => ?_)
  refine ⟨_, _, _, _, _, _, _, s.heap, (fun i j => decide (ns.getD i 0 < ns.getD j 0)), rfl, W, st, hfp, hw, hk, fun hn s' m => ?_, fun hp => ⟨fun i j vi vj s' Q' E' hk' hi hj hq => ?_, fun v s' hP m => ?_⟩⟩
  · obtain ⟨h', tk, rfl, hk'⟩ := PySem.W.moved_old e rfl m
    have : ns = [] := List.eq_nil_of_length_eq_zero (by omega)
    subst this
    exact ⟨z, H, I.kept (t' := tk) hk', e1, q⟩
  · have hi : its[i]? = some vi := by rw [← List.getElem?_toArray]; exact hi
    have hj : its[j]? = some vj := by rw [← List.getElem?_toArray]; exact hj
    obtain ⟨t1, rfl, _⟩ := ints_get hI hi
    obtain ⟨t2, rfl, _⟩ := ints_get hI hj
    exact Ob.RcOp.lt_int _ _ _ _ _ _ E' Q' hq
  · obtain ⟨h', tk, rfl, hk'⟩ := PySem.W.moved_old e rfl m
    rw [List.getElem?_toArray] at hP
    obtain ⟨t1, rfl, _⟩ := ints_get hI hP
    cases ns with
    | nil => exact absurd hp (by rw [hlen]; exact Nat.lt_irrefl 0)
    | cons y ys =>
      have e1 : its.toArray.size - 1 = ys.length := by rw [hlen]; rfl
      have e2 := (PySem.W.argBest_fold (fun a b : Int => decide (a < b)) 0 y ys ys.length (Nat.le_refl _)).2
      rw [List.take_length] at e2
      rw [e1]
      unfold bstI at q
      simp only at q
      rw [← e2] at q
      exact ⟨.int _, H, I.kept (t' := tk) hk', ⟨_, rfl⟩, q⟩
theorem cr_maxD (hc : X.calm = true) : CallRK X (.builtin "max") [Str.ofString "default"] (rBestD X.K fun a b => decide (b < a)) := by
  intro pins s σ H vs zs us ws Q I r rz h
  obtain ⟨a, ns, z, rfl, rfl, hs, q⟩ := h
  obtain rfl := Vals.ref1 r
  obtain ⟨w1, rfl, e1⟩ := vals1 rz
  obtain ⟨its, rv, hli, hz⟩ := I.list hs
  have hI := rv.ints
  have hlen : its.toArray.size = ns.length := by rw [List.size_toArray]; exact hI.length
  show wpAny _ _ (call (.builtin "max") [.ref a] [(Str.ofString "default", w1)]) _ _ _
  refine call_max_walkD (PySem.W.iter_listW (A := X.A.in1) (I.ok.hd hc) hli.isList fun s₂ e W st hfp hw hk => ?_)
  refine ⟨_, _, _, _, _, _, _, s.heap, (fun i j => decide (ns.getD j 0 < ns.getD i 0)), rfl, W, st, hfp, hw, hk, fun hn s' m => ?_, fun hp => ⟨fun i j vi vj s' Q' E' hk' hi hj hq => ?_, fun v s' hP m => ?_⟩⟩
  · obtain ⟨h', tk, rfl, hk'⟩ := PySem.W.moved_old e rfl m
    have : ns = [] := List.eq_nil_of_length_eq_zero (by omega)
    subst this
    exact ⟨z, H, I.kept (t' := tk) hk', e1, q⟩
  · have hi : its[i]? = some vi := by rw [← List.getElem?_toArray]; exact hi
    have hj : its[j]? = some vj := by rw [← List.getElem?_toArray]; exact hj
    obtain ⟨t1, rfl, _⟩ := ints_get hI hi
    obtain ⟨t2, rfl, _⟩ := ints_get hI hj
    exact Ob.RcOp.gt_int _ _ _ _ _ _ E' Q' hq
  · obtain ⟨h', tk, rfl, hk'⟩ := PySem.W.moved_old e rfl m
    rw [List.getElem?_toArray] at hP
    obtain ⟨t1, rfl, _⟩ := ints_get hI hP
    cases ns with
    | nil => exact absurd hp (by rw [hlen]; exact Nat.lt_irrefl 0)
    | cons y ys =>
      have e1 : its.toArray.size - 1 = ys.length := by rw [hlen]; rfl
      have e2 := (PySem.W.argBest_fold (fun a b : Int => decide (b < a)) 0 y ys ys.length (Nat.le_refl _)).2
      rw [List.take_length] at e2
      rw [e1]
      unfold bstI at q
      simp only at q
      rw [← e2] at q
      exact ⟨.int _, H, I.kept (t' := tk) hk', ⟨_, rfl⟩, q⟩
end
/-- by value -/
def bstV (mx : Bool) (x d : Va) (st : Sto) : R Va := match lstOf x st with
  | some l => match vaInts l with
    | some [] => .ok d st
    | some (i :: is) => .ok (.int (bstI (if mx then fun a b => decide (b < a) else fun a b => decide (a < b)) i is)) st
    | none => .stuck
  | none => .stuck
def mBst (mx : Bool) (ma md : Mx Va) : Mx Va := fun env st => (ma env st).bind fun x st => (md env st).bind fun d st => bstV mx x d st
section
variable {X : Cx} {ct : Ct} {W : WX}
theorem sim_bst {mx : Bool} {e v : Expr} {ma md : Mx Va} {p pos kpos : Pos} {x : Str} (hc : X.calm = true) (hx : x = if mx then "max" else "min") (hg : Gl X x) (hm : X.mg x = none) (ha : PE X e (TE' X ct W ma)) (hv : PE X v (TE' X ct W md)) (he : starEach [e] X.env = (false, eval e X.env) :: starEach [] X.env) :
    PE X (.Call (.Name x p) [e] [⟨some "default", v, kpos⟩] pos) (TE' X ct W (mBst mx ma md)) := by
  have key : ∀ (nm : String) (f : Int → Int → Bool), x = Str.ofString nm → bootBuiltins x = some (.builtin nm) → x ≠ "__name__" → (x == ("__debug__" : Str)) = false → CallRK X (.builtin nm) [Str.ofString "default"] (rBestD X.K f) → (if mx then fun a b => decide (b < a) else fun a b => decide (a < b)) = f →
      PE X (.Call (.Name x p) [e] [⟨some "default", v, kpos⟩] pos) (TE' X ct W (mBst mx ma md)) := fun nm f hn hb h1 h2 hr hf => by
    refine PE.mono (pe_callBK hr hg hm hb (pa_cons ha pa_nil he) (pk_cons (nm := some (Str.ofString "default")) (kpos := kpos) hv pk_nil) h1 h2 (by rw [he]; rfl) (by rw [he]; rfl) rfl rfl rfl) fun σ H Q ⟨F, μ, env, st, r, re, p0⟩ => ?_
    refine ⟨F, μ, env, st, r, re, p0.bind fun w st1 F1 μ1 H1 va _ x1 r1 rv p1 => ?_⟩
    refine ⟨F1, μ1, env, st1, r1, re.mono x1, p1.bind fun d st2 F2 μ2 H2 vd _ x2 r2 rd p2 => ?_⟩
    unfold bstV at p2
    split at p2
    case h_2 => exact p2.elim
    rename_i l el
    obtain ⟨a, vs, rfl, g1, g2⟩ := lstOf_ok r2 (x2.rv rv) el
    split at p2
    · rename_i ei
      rw [vaInts_ok ei] at g2
      have := rvs_ints g2
      subst this
      exact ⟨a, [], vd, rfl, rfl, .of g1, p2.here r2 rd⟩
    · rename_i i is ei
      rw [vaInts_ok ei] at g2
      have := rvs_ints g2
      subst this
      rw [hf] at p2
      exact ⟨a, i :: is, vd, rfl, rfl, .of g1, p2.here r2 (.int _)⟩
    · exact p2.elim
  cases mx with
  | true => exact key "max" _ hx (by rw [hx]; decide +kernel) (by rw [hx]; decide) (by rw [hx]; decide) (cr_maxD hc) rfl
  | false => exact key "min" _ hx (by rw [hx]; decide +kernel) (by rw [hx]; decide) (by rw [hx]; decide) (cr_minD hc) rfl
end
end G

set_option Elab.async false
set_option linter.all false
set_option maxRecDepth 100000
set_option maxHeartbeats 4000000
/-! own classes: instances in the store, their fields, their defs; defs that see the caller's store -/
namespace G
open PySem PySem.Spec PyProof.Rows L2

/-! ### a method's call, the receiver any expression -/
section
variable {prog : Program} {w : World} {A : Around} {E : Value → Shared → Prop} {s : Shared} {env : Env}
theorem wpAny_Call_meth {o : Expr} {name : Str} {apos pos : Pos} {args : List Expr} {Q : Value → Shared → Prop}
    (hbase : attributeBase o name env (eval o env) = eval o env)
    (hfew : ((backTo pos (starEach args env)).all (fun x => !x.1) && (backToKw pos (keywordEach [] env)).all (fun x => x.1.isSome)
      && decide (args.length + ([] : List Keyword).length + (if ([] : List Keyword).isEmpty then 0 else 1) < 30)) = true)
    (hline : (apos.endLine == pos.line) = true)
    (h : wpAny (model prog w) A (eval o env) (fun ov s₁ => ∀ pl, wpAny (model prog w) A (getMethod ov name pl) (fun p s₂ => wpAny (model prog w) A (callWith pos p.1 p.2 (backTo pos (starEach args env)) (backToKw pos (keywordEach [] env))) Q E s₂) E s₁) E s) :
    wpAny (model prog w) A (eval (.Call (.Attribute o name apos) args [] pos) env) Q E s := by
  rw [arm_eval_Call, hbase]
  refine wpAny_bind (wpAny_mono h (fun ov s₁ h₁ => ?_) fun _ _ e => e)
  refine wpAny_bind (wpAny_standAt ?_)
  have hform : methodCallForm (args.length + ([] : List Keyword).length) (backTo pos (starEach args env)) (backToKw pos (keywordEach [] env)) = true := hfew
  have hpos : methodCallPos true o env apos pos = pure pos := by unfold methodCallPos; simp [hline]
  unfold methodCall
  rw [hform]
  refine wpAny_bind (wpAny_holding (wpAny_mono (h₁ _) (fun p s₂ hc => ?_) fun _ _ e => e))
  exact wpAny_bind (wpAny_of_eq hpos hc)
end
/-! ### fields -/
def putT (f : Tx) (v : Va) : List (Tx × Va) → List (Tx × Va)
  | [] => [(f, v)]
  | (g, x) :: r => if g = f then (g, v) :: r else (g, x) :: putT f v r
section
variable {K : PySem.W.Frag} {ct : Ct} {W : WX} {F F1 : Hp} {μ μ1 : List Addr} {H H1 : Hp} {st : Sto}
theorem fld_lk {n : Tx} {w : Va} : ∀ {fs : List (Tx × Va)} {fvs : List (Str × V)}, fvs.map (·.1) = fs.map (fun p => mkS p.1) → RVs K F μ (fs.map (·.2)) (fvs.map (·.2)) → fs.lookup n = some w → ∃ v, fvs.lookup (mkS n) = some v ∧ RV K F μ w v
  | [], fvs, h1, h2, h => by simp at h
  | (f, x) :: fs, [], h1, h2, h => by simp at h1
  | (f, x) :: fs, (g, y) :: fvs, h1, h2, h => by
    simp only [List.map_cons, List.cons.injEq] at h1
    obtain ⟨rfl, h1⟩ := h1
    cases h2 with
    | cons r t =>
      simp only [List.lookup_cons] at h ⊢
      by_cases e : n = f
      · have e1 : (n == f) = true := by simpa using e
        rw [e1] at h
        cases h
        have e2 : (mkS n == mkS f) = true := by rw [e]; simp
        rw [e2]
        exact ⟨y, rfl, r⟩
      · have e1 : (n == f) = false := by simpa using e
        rw [e1] at h
        have e2 : (mkS n == mkS f) = false := by
          simp only [beq_eq_false_iff_ne]
          exact fun z => e (mkS_inj z)
        rw [e2]
        exact fld_lk h1 t h
theorem fld_no {n : Tx} : ∀ {fs : List (Tx × Va)} {fvs : List (Str × V)}, fvs.map (·.1) = fs.map (fun p => mkS p.1) → fs.lookup n = none → fvs.lookup (mkS n) = none
  | [], [], h1, h => rfl
  | [], y :: fvs, h1, h => by simp at h1
  | (f, x) :: fs, [], h1, h => by simp at h1
  | (f, x) :: fs, (g, y) :: fvs, h1, h => by
    simp only [List.map_cons, List.cons.injEq] at h1
    obtain ⟨rfl, h1⟩ := h1
    simp only [List.lookup_cons] at h ⊢
    by_cases e : n = f
    · have e1 : (n == f) = true := by simpa using e
      rw [e1] at h
      cases h
    · have e1 : (n == f) = false := by simpa using e
      rw [e1] at h
      have e2 : (mkS n == mkS f) = false := by
        simp only [beq_eq_false_iff_ne]
        exact fun z => e (mkS_inj z)
      rw [e2]
      exact fld_no h1 h
theorem put_ok {n : Tx} {w : Va} {v : V} (rv : RV K F μ w v) : ∀ {fs : List (Tx × Va)} {fvs : List (Str × V)}, fvs.map (·.1) = fs.map (fun p => mkS p.1) → RVs K F μ (fs.map (·.2)) (fvs.map (·.2)) →
    (putF (mkS n) v fvs).map (·.1) = (putT n w fs).map (fun p => mkS p.1) ∧ RVs K F μ ((putT n w fs).map (·.2)) ((putF (mkS n) v fvs).map (·.2))
  | [], [], h1, h2 => ⟨rfl, .cons rv .nil⟩
  | [], y :: fvs, h1, h2 => by simp at h1
  | (f, x) :: fs, [], h1, h2 => by simp at h1
  | (f, x) :: fs, (g, y) :: fvs, h1, h2 => by
    simp only [List.map_cons, List.cons.injEq] at h1
    obtain ⟨rfl, h1⟩ := h1
    cases h2 with
    | cons r t =>
      unfold putF putT
      by_cases e : f = n
      · rw [if_pos e, if_pos (by rw [e])]
        exact ⟨by simp [h1], .cons rv t⟩
      · rw [if_neg e, if_neg fun z => e (mkS_inj z)]
        obtain ⟨a, b⟩ := put_ok (n := n) (w := w) (v := v) rv h1 t
        exact ⟨by simp [a], .cons r b⟩
/-- an instance in the store -/
def insOf (x : Va) (st : Sto) : Option (Nat × Tx × List (Tx × Va)) := match x with
  | .ref p => match st[p]? with
    | some (some (.ins c fs)) => some (p, c, fs)
    | _ => none
  | _ => none
theorem insOf_ok {x : Va} {v : V} {p : Nat} {c : Tx} {fs : List (Tx × Va)} (r : Rel K ct F μ st H) (rv : RV K F μ x v) (h : insOf x st = some (p, c, fs)) : x = .ref p ∧ st[p]? = some (some (.ins c fs)) ∧ ∃ a C dx fvs, v = .ref a ∧ μ[p]? = some a ∧ ct.own c = some C ∧ H a = some (.ins C dx fvs) ∧ fvs.map (·.1) = fs.map (fun p => mkS p.1) ∧ RVs K F μ (fs.map (·.2)) (fvs.map (·.2)) := by
  unfold insOf at h
  split at h
  · rename_i q
    split at h
    · rename_i c' fs' e
      cases h
      cases rv with
      | @ref _ a hp =>
      cases r.obj _ _ _ e hp with
      | ins c h2 h3 h4 => exact ⟨rfl, e, a, _, _, _, rfl, hp, c, h2, h3, h4⟩
    · cases h
  · cases h
end
/-- o.f -/
def mFld (ok : Tx → Str → Bool) (f : Str) (mo : Mx Va) : Mx Va := fun env st => (mo env st).bind fun x st => match insOf x st with
  | some (_, c, fs) => if ok c f = true then (match fs.lookup f.cps.toList with
    | some w => .ok w st
    | none => .stuck) else .stuck
  | none => .stuck
/-- what is known of the fields' names -/
def OflOk (K : PySem.W.Frag) (ct : Ct) (ok : Tx → Str → Bool) : Prop := ∀ c f, ok c f = true → ∃ C, ct.own c = some C ∧ Cls K C ∧ NoAttr K C f
/-- o.m(..): the defs of the classes by their full names -/
def mMcall (φ : Fi) (C m : Str) (mo : Mx Va) (ml : Mx (List Va)) : Mx Va := fun env st => (mo env st).bind fun x st => match insOf x st with
  | some (_, c, fs) => if c = C.cps.toList ∧ fs.lookup m.cps.toList = none then (ml env st).bind fun ws st => φ (x :: ws) st else .stuck
  | none => .stuck
/-- C(..) -/
def mMkC (φ : Fi) (C : Str) (ml : Mx (List Va)) : Mx Va := fun env st => (ml env st).bind fun ws st => match φ (.ref st.length :: ws) (st ++ [some (.ins C.cps.toList [])]) with
  | .ok .non st' => .ok (.ref st.length) st'
  | .err x st' => .err x st'
  | _ => .stuck
section
variable {K : PySem.W.Frag} {ct : Ct} {W : WX} {F F1 : Hp} {μ μ1 : List Addr} {H H1 : Hp} {st : Sto} {σ : L2.St} {Q : VK}
theorem spI_of {φ : Fi} {ws : List Va} {vs : List V} (r : Rel K ct F μ st H) (rs : RVs K F μ ws vs) (p : GPost K ct W (RV K) σ F μ H Q (φ ws st)) : spI K ct φ vs H Q (fun cls d H => W cls d σ H) := by
  refine ⟨F, μ, ws, st, r, rs, ?_⟩
  cases e : φ ws st with
  | ok w st' => rw [e] at p; exact p
  | err x st' => rw [e] at p; exact p
  | stuck => rw [e] at p; exact p
/-- a thing beside the store -/
theorem Rel.beside {p : Addr} (x : Rel K ct F μ st H) (h : H p = none) (o : HO) : Rel K ct F μ st (upd H p o) := by
  have hF := x.nofrz h
  refine ⟨x.sub0.right fun a u e => let ⟨_, hu⟩ := x.sub0.any e; ne_of_none hu h, x.len, fun q ob a e1 e2 => ?_, x.dis, x.inj, fun a m => upd_there (x.mtr a m), fun P m => ⟨tabG_upd (x.tabs P m).1 (nt_none h), (x.tabs P m).2⟩⟩
  have r := x.obj q ob a e1 e2
  obtain ⟨u, hu, _⟩ := r.there
  exact r.mono (.refl _) List.prefix_rfl (upd_ne (ne_of_none hu h))
theorem Ext.beside {p : Addr} (h : H p = none) (o : HO) : Ext F μ H F μ (upd H p o) := by
  refine ⟨.refl _, List.prefix_rfl, fun a u e _ _ => .inl (same_upd0 h a u e), fun P t => tabG_upd t (nt_none h), fun a e => .inl e, fun _ m => .inl m, fun a e => ?_⟩
  cases q : H a with
  | none => exact absurd q e
  | some u => rw [same_upd0 h a u q]; exact fun z => nomatch z
end
section
variable {X : Cx} {ct : Ct} {W : WX}
theorem mkS_cps (x : Str) : mkS x.cps.toList = x := mkS_tl x
theorem sim_fld {ok : Tx → Str → Bool} {o : Expr} {f : Str} {mo : Mx Va} {pos : Pos} (hok : OflOk X.K ct ok) (ho : PE X o (TE' X ct W mo)) (hb : attributeBase o f X.env (eval o X.env) = eval o X.env) : PE X (.Attribute o f pos) (TE' X ct W (mFld ok f mo)) := by
  refine PE.mono (pe_fld ho hb) fun σ H Q ⟨F, μ, env, st, r, re, p⟩ => ⟨F, μ, env, st, r, re, p.bind fun x st1 F1 μ1 H1 v _ x1 r1 rv p1 => ?_⟩
  split at p1
  · rename_i q c fs e
    split at p1
    · rename_i hc
      split at p1
      · rename_i w ew
        obtain ⟨_, _, a, C, dx, fvs, rfl, ha, hC, hH, k1, k2⟩ := insOf_ok r1 rv e
        obtain ⟨C', c1, c2, c3⟩ := hok _ _ hc
        rw [hC] at c1
        cases c1
        obtain ⟨v, l1, l2⟩ := fld_lk k1 k2 ew
        rw [mkS_cps] at l1
        exact ⟨a, C, dx, fvs, v, rfl, hH, c2, c3, l1, p1.here r1 l2⟩
      · exact p1.elim
    · exact p1.elim
  · exact p1.elim
theorem sim_callI {k : Nat} {f : Str} {φ : Fn} {φi : Fi} {e : Expr} {es : List Expr} {ml : Mx (List Va)} {p pos : Pos} (tk : Takes X W) (F : FnC X.prog X.w X.K X.mg X.base ct k mk8 f φ φi) (hr : Room k X.A) (hg : Gl X f) (ha : PA X (e :: es) (TA' X ct W ml))
    (hdb : (f == ("__debug__" : Str)) = false) (he : starEach (e :: es) X.env = (false, eval e X.env) :: starEach es X.env) (hpl : (backTo pos (starEach es X.env)).any (·.1) = false) :
    PE X (.Call (.Name f p) (e :: es) [] pos) (TE' X ct W (mFn φi ml)) := by
  obtain ⟨a, fd, ps, hm, hk, hb, G⟩ := F.ex
  have hm : X.mg f = some (.ref a) := hm
  have hb : KB fd ps [] := hb
  have G : FnOk X.prog X.w X.K X.mg X.base (L2.CX X.prog X.w) k a fd ps (spI X.K ct φi) := G
  refine PE.mono (pe_callSD G hr hg hm hk hb.binds .nil (fun σ => passAt tk σ) ha hdb he hpl) fun σ H Q ⟨F, μ, env, st, r, re, p⟩ => ⟨F, μ, env, st, r, re, p.bind fun ws st1 F1 μ1 H1 vs _ x1 r1 rvs p1 => ?_⟩
  rw [List.append_nil]
  exact spI_of r1 rvs p1
/-- the method's def runs -/
theorem run_mt {k : Nat} {E : XK} {f : Addr} {fd : FuncData} {ps : List Str} {sp : Sp} {pins : List (Addr × Obj)} {σ : L2.St} {H : Hp} {s : Shared} {Q : VK} {us : List Value} {vs : List V} (F : FnOk X.prog X.w X.K X.mg X.base (L2.CX X.prog X.w) k f fd ps sp) (hr : Room k X.A) (hb : Binds X.K fd ps [])
    (hx : ∀ (pins : List (Addr × Obj)) (H : Hp) (s : Shared) (e : Value) (s' : Shared), Inv X pins σ H s → L2.CX X.prog X.w X.stack H s E e s' → X.xe e s') (I : Inv X pins σ H s) (r : Vals vs us) (h : sp vs H Q E) : wpAny (model X.prog X.w) X.A (call (.ref f) us) (EP X pins σ Q) X.xe s := by
  have hl : (us ++ []).length = ps.length := by rw [List.append_nil, ← r.length]; exact F.len _ _ _ _ h
  have hbb := hb s us I.kIn hl
  rw [List.append_nil] at hbb
  refine wpAny_call (codeAny_mono (F.run X.A X.stack s H ⟨us, []⟩ us vs Q E hr I.env0 hbb r h) fun r s' hq => ?_)
  cases r with
  | error e => exact hx pins H s e s' I hq
  | ok fl =>
    cases fl with
    | ret u => exact I.after hq
    | next => exact False.elim hq
    | brk => exact False.elim hq
    | cont => exact False.elim hq
theorem sim_mcall {k : Nat} {q C m : Str} {φ : Fn} {φi : Fi} {o e0 : Expr} {er : List Expr} {mo : Mx Va} {ml : Mx (List Va)} {apos pos : Pos} (tk : Takes X W) (F : FnC X.prog X.w X.K X.mg X.base ct k (mkt C m) q φ φi) (hr : Room k X.A) (ho : PE X o (TE' X ct W mo)) (ha : PA X (e0 :: er) (TA' X ct W ml))
    (hbase : attributeBase o m X.env (eval o X.env) = eval o X.env)
    (hfew : ((backTo pos (starEach (e0 :: er) X.env)).all (fun x => !x.1) && (backToKw pos (keywordEach [] X.env)).all (fun x => x.1.isSome) && decide ((e0 :: er).length + ([] : List Keyword).length + (if ([] : List Keyword).isEmpty then 0 else 1) < 30)) = true)
    (hline : (apos.endLine == pos.line) = true) (h1 : starEach (e0 :: er) X.env = (false, eval e0 X.env) :: starEach er X.env) (h2 : (backTo pos (starEach er X.env)).any (·.1) = false) :
    PE X (.Call (.Attribute o m apos) (e0 :: er) [] pos) (TE' X ct W (mMcall φi C m mo ml)) := by
  obtain ⟨f, fd, ps, ⟨Ca, g1, g2, g3, _⟩, hk, hb, G⟩ := F.ex
  have hb : KB fd ps [] := hb
  have G : FnOk X.prog X.w X.K X.mg X.base (L2.CX X.prog X.w) k f fd ps (spI X.K ct φi) := G
  have g1 : ct.own C.cps.toList = some Ca := g1
  have g3 : Meth X.K Ca m f := g3
  refine ⟨fun pins s σ H Q I ⟨F, μ, env, st, r, re, p⟩ => ?_⟩
  refine wpAny_Call_meth hbase hfew hline (thn (ho.run pins s σ H (fun v H1 => ∃ F1 μ1 st1 x, Rel X.K ct F1 μ1 st1 H1 ∧ REnv X.K ct F1 μ1 env σ ∧ RV X.K F1 μ1 x v ∧ GPost X.K ct W (RV X.K) σ F1 μ1 H1 Q (match insOf x st1 with
    | some (_, c, fs) => if c = C.cps.toList ∧ fs.lookup m.cps.toList = none then (ml env st1).bind fun ws st => φi (x :: ws) st else .stuck
    | none => .stuck)) I ⟨F, μ, env, st, r, re, p.bind fun x st1 F1 μ1 H1 v _ x1 r1 rv p1 => ⟨F1, μ1, st1, x, r1, re.mono x1, rv, p1⟩⟩) fun u s1 ⟨v, H1, I1, rel, F1, μ1, st1, x, r1, re1, rv, p1⟩ pl => ?_)
  split at p1
  case h_2 => exact p1.elim
  rename_i q' c fs e
  split at p1
  case isFalse => exact p1.elim
  rename_i hc
  obtain ⟨rfl, ea, a, C', dx, fvs, rfl, hmu, hC, hH, k1, k2⟩ := insOf_ok r1 rv e
  rw [hc.1, g1] at hC
  cases hC
  obtain rfl : u = Value.ref a := rel
  refine getmeth_ok I1 hH g2 g3 (by have := fld_no k1 hc.2; rw [mkS_cps] at this; exact this) ?_
  refine PySem.W.callWith_K (first := [.ref a]) (h₀ := X.base) I1.ok.mod.kin g3.kp (thn (ha.run pos pins s1 σ H1 (fun vs H2 => ∃ F2 μ2 st2 ws, Rel X.K ct F2 μ2 st2 H2 ∧ RVs X.K F2 μ2 (.ref q' :: ws) (.ref a :: vs) ∧ GPost X.K ct W (RV X.K) σ F2 μ2 H2 Q (φi (.ref q' :: ws) st2)) I1 ⟨F1, μ1, env, st1, r1, re1, p1.bind fun ws st2 F2 μ2 H2 vs _ x2 r2 rvs p2 => ⟨F2, μ2, st2, ws, r2, .cons (x2.rv rv) rvs, p2⟩⟩) fun us s2 ⟨vs, H2, I2, rr, F2, μ2, st2, ws, r2, rws, p2⟩ => ⟨I2.kIn, ?_⟩) h1 h2
  exact run_mt (us := .ref a :: us) (vs := .ref a :: vs) G hr hb.binds (passAt tk σ) I2 (.cons rfl rr) (spI_of r2 rws p2)
theorem sim_mcall0 {k : Nat} {q C m : Str} {φ : Fn} {φi : Fi} {o : Expr} {mo : Mx Va} {apos pos : Pos} (tk : Takes X W) (F : FnC X.prog X.w X.K X.mg X.base ct k (mkt C m) q φ φi) (hr : Room k X.A) (ho : PE X o (TE' X ct W mo))
    (hbase : attributeBase o m X.env (eval o X.env) = eval o X.env) (hline : (apos.endLine == pos.line) = true) :
    PE X (.Call (.Attribute o m apos) [] [] pos) (TE' X ct W (mMcall φi C m mo mNil)) := by
  obtain ⟨f, fd, ps, ⟨Ca, g1, g2, g3, _⟩, hk, hb, G⟩ := F.ex
  have hb : KB fd ps [] := hb
  have G : FnOk X.prog X.w X.K X.mg X.base (L2.CX X.prog X.w) k f fd ps (spI X.K ct φi) := G
  have g1 : ct.own C.cps.toList = some Ca := g1
  have g3 : Meth X.K Ca m f := g3
  refine ⟨fun pins s σ H Q I ⟨F, μ, env, st, r, re, p⟩ => ?_⟩
  refine wpAny_Call_meth hbase rfl hline (thn (ho.run pins s σ H (fun v H1 => ∃ F1 μ1 st1 x, Rel X.K ct F1 μ1 st1 H1 ∧ RV X.K F1 μ1 x v ∧ GPost X.K ct W (RV X.K) σ F1 μ1 H1 Q (match insOf x st1 with
    | some (_, c, fs) => if c = C.cps.toList ∧ fs.lookup m.cps.toList = none then φi [x] st1 else .stuck
    | none => .stuck)) I ⟨F, μ, env, st, r, re, p.bind fun x st1 F1 μ1 H1 v _ x1 r1 rv p1 => ⟨F1, μ1, st1, x, r1, rv, p1⟩⟩) fun u s1 ⟨v, H1, I1, rel, F1, μ1, st1, x, r1, rv, p1⟩ pl => ?_)
  split at p1
  case h_2 => exact p1.elim
  rename_i q' c fs e
  split at p1
  case isFalse => exact p1.elim
  rename_i hc
  obtain ⟨rfl, ea, a, C', dx, fvs, rfl, hmu, hC, hH, k1, k2⟩ := insOf_ok r1 rv e
  rw [hc.1, g1] at hC
  cases hC
  obtain rfl : u = Value.ref a := rel
  refine getmeth_ok I1 hH g2 g3 (by have := fld_no k1 hc.2; rw [mkS_cps] at this; exact this) ?_
  refine PySem.W.callWith_K0 (first := [.ref a]) I1.kIn g3.kp ?_
  exact run_mt (us := [.ref a]) (vs := [.ref a]) G hr hb.binds (passAt tk σ) I1 (.cons rfl .nil) (spI_of r1 (.cons rv .nil) p1)
theorem ct_own_of {k : Nat} {q C : Str} {φ : Fn} {φi : Fi} (F : FnC X.prog X.w X.K X.mg X.base ct k (mkt C "__init__") q φ φi) : ∃ Ca f fd ps, ct.own C.cps.toList = some Ca ∧ Mk X.K Ca f ∧ X.mg C = some (.ref Ca) ∧ KB fd ps [] ∧ FnOk X.prog X.w X.K X.mg X.base (L2.CX X.prog X.w) k f fd ps (spI X.K ct φi) := by
  obtain ⟨f, fd, ps, ⟨Ca, g1, g2, g3, g4⟩, hk, hb, G⟩ := F.ex
  obtain ⟨g5, g6⟩ := g4 rfl
  exact ⟨Ca, f, fd, ps, g1, g5, g6, hb, G⟩
/-- a new instance, its def runs -/
theorem make_run {k : Nat} {C : Str} {Ca f : Addr} {fd : FuncData} {ps : List Str} {φi : Fi} {pins : List (Addr × Obj)} {σ : L2.St} {H : Hp} {s : Shared} {Q : VK} {us : List Value} {vs : List V} {F : Hp} {μ : List Addr} {st : Sto} {ws : List Va} (tk : Takes X W) (hC : ct.own C.cps.toList = some Ca) (M : Mk X.K Ca f) (G : FnOk X.prog X.w X.K X.mg X.base (L2.CX X.prog X.w) k f fd ps (spI X.K ct φi)) (hr : Room (k + 1) X.A) (hb : KB fd ps [])
    (I : Inv X pins σ H s) (rr : Vals vs us) (r : Rel X.K ct F μ st H) (rws : RVs X.K F μ ws vs) (p : GPost X.K ct W (RV X.K) σ F μ H Q (match φi (.ref st.length :: ws) (st ++ [some (.ins C.cps.toList [])]) with
      | .ok .non st' => .ok (.ref st.length) st'
      | .err x st' => .err x st'
      | _ => .stuck)) : wpAny (model X.prog X.w) X.A (call (.ref Ca) us) (EP X pins σ Q) X.xe s := by
  have eN : (match φi (.ref st.length :: ws) (st ++ [some (.ins C.cps.toList [])]) with
      | .ok .non st' => (.ok (.ref st.length) st' : R Va)
      | .err x st' => .err x st'
      | _ => .stuck) = (match φi (.ref st.length :: ws) (st ++ [some (.ins C.cps.toList [])]) with
      | .ok .non st' => (.ok (.ref st.length) st' : R Va)
      | .err x st' => .err x st'
      | _ => .stuck) := rfl
  have hx : ∀ (pins : List (Addr × Obj)) (H : Hp) (s : Shared) (e : Value) (s' : Shared), Inv X pins σ H s → L2.CX X.prog X.w X.stack H s (fun cls d H => W cls d σ H) e s' → X.xe e s' := passAt tk σ
  have h : ∀ x dx, H x = none → H dx = none → dx ≠ x → spI X.K ct φi (.ref x :: vs) (upd (upd H dx (.own x)) x (.ins Ca dx [])) (fun v H2 => v = .non ∧ Q (.ref x) H2) (fun cls d H => W cls d σ H) := fun x dx hx0 hdx hne => by
    have r1 := r.beside hdx (.own x)
    have hx1 : upd H dx (.own x) x = none := by rw [upd_ne (fun z => hne z.symm)]; exact hx0
    have x1 : Ext F μ H F μ (upd H dx (.own x)) := .beside hdx _
    have r2 := r1.put hx1 (o := .ins Ca dx []) (ob := .ins C.cps.toList []) (.ins hC upd_same rfl .nil)
    have x2 := Ext.put r1 hx1 (.ins Ca dx [])
    have hmu : (μ ++ [x])[st.length]? = some x := by rw [r.len]; simp
    refine ⟨F, μ ++ [x], _, _, r2, .cons (.ref hmu) ((x1.trans x2).rvs rws), ?_⟩
    cases e : φi (.ref st.length :: ws) (st ++ [some (.ins C.cps.toList [])]) with
    | ok w st' =>
      rw [e] at p
      intro F' μ' H' v x3 r3 rv
      cases w with
      | non =>
        cases rv
        refine ⟨rfl, p F' μ' H' (.ref x) ((x1.trans x2).trans x3) r3 (.ref (pre_get x3.pre hmu))⟩
      | _ => exact p.elim
    | err y st' =>
      rw [e] at p
      intro F' μ' H' cls d x3 r3 rx
      exact p F' μ' H' cls d ((x1.trans x2).trans x3) r3 rx
    | stuck => rw [e] at p; exact p
  have hq := h (s.heap.objs.size + 1) s.heap.objs.size (I.hok.fresh (Nat.le_succ _)) (I.hok.fresh (Nat.le_refl _)) (Nat.ne_of_lt (Nat.lt_succ_self _))
  have I2 := Inv.made (C := Ca) I
  have r2 : Vals (V.ref (s.heap.objs.size + 1) :: vs) (Value.ref (s.heap.objs.size + 1) :: us) := .cons rfl rr
  have hl : (Value.ref (s.heap.objs.size + 1) :: us ++ []).length = ps.length := by
    have e := r2.length
    rw [G.len _ _ _ _ hq] at e
    rw [List.append_nil]
    exact e.symm
  have hbb := hb.binds (K := X.K) _ (Value.ref (s.heap.objs.size + 1) :: us) I2.kIn hl
  rw [List.append_nil] at hbb
  refine wpAny_call (make_map (f := f) I.kIn M.makes M.init (beq_iff_eq.mp M.fn) (codeAny_mono (G.run _ X.stack _ _ ⟨Value.ref (s.heap.objs.size + 1) :: us, []⟩ (Value.ref (s.heap.objs.size + 1) :: us) _ _ _ (hr.make Ca us [])
    (I2.env0.make Ca us []) hbb r2 hq) fun r s' hq' => ?_))
  cases r with
  | error e => exact hx pins _ _ e s' I2 hq'
  | ok fl =>
    cases fl with
    | ret u =>
      obtain ⟨v, H', I3, rv, ev, q3⟩ := I2.after hq'
      subst ev
      exact ⟨rv, ⟨V.ref (s.heap.objs.size + 1), H', I3, rfl, q3⟩⟩
    | next => exact False.elim hq'
    | brk => exact False.elim hq'
    | cont => exact False.elim hq'
theorem sim_mkC {k : Nat} {q C : Str} {φ : Fn} {φi : Fi} {e : Expr} {es : List Expr} {ml : Mx (List Va)} {p pos : Pos} (tk : Takes X W) (F : FnC X.prog X.w X.K X.mg X.base ct k (mkt C "__init__") q φ φi) (hr : Room (k + 1) X.A) (hg : Gl X C) (ha : PA X (e :: es) (TA' X ct W ml))
    (hdb : (C == ("__debug__" : Str)) = false) (he : starEach (e :: es) X.env = (false, eval e X.env) :: starEach es X.env) (hpl : (backTo pos (starEach es X.env)).any (·.1) = false) :
    PE X (.Call (.Name C p) (e :: es) [] pos) (TE' X ct W (mMkC φi C ml)) := by
  obtain ⟨Ca, f, fd, ps, g1, M, hm, hb, G⟩ := ct_own_of F
  refine ⟨fun pins s σ H Q I ⟨F, μ, env, st, r, re, p0⟩ => ?_⟩
  refine wpAny_Call_Name_kw (ld_glob I hg hm ?_ hdb)
  refine PySem.W.callWith_K (h₀ := X.base) I.ok.mod.kin M.kp (thn (ha.run pos pins s σ H (fun vs H1 => ∃ F1 μ1 st1 ws, Rel X.K ct F1 μ1 st1 H1 ∧ RVs X.K F1 μ1 ws vs ∧ GPost X.K ct W (RV X.K) σ F1 μ1 H1 Q (match φi (.ref st1.length :: ws) (st1 ++ [some (.ins C.cps.toList [])]) with
      | .ok .non st' => .ok (.ref st1.length) st'
      | .err x st' => .err x st'
      | _ => .stuck)) I ⟨F, μ, env, st, r, re, p0.bind fun ws st1 F1 μ1 H1 vs _ x1 r1 rvs p1 => ⟨F1, μ1, st1, ws, r1, rvs, p1⟩⟩) fun us s1 ⟨vs, H1, I1, rr, F1, μ1, st1, ws, r1, rws, p1⟩ => ⟨I1.kIn, ?_⟩) he hpl
  exact make_run tk g1 M G hr hb I1 rr r1 rws p1
theorem sim_mkC0 {k : Nat} {q C : Str} {φ : Fn} {φi : Fi} {p pos : Pos} (tk : Takes X W) (F : FnC X.prog X.w X.K X.mg X.base ct k (mkt C "__init__") q φ φi) (hr : Room (k + 1) X.A) (hg : Gl X C) (hdb : (C == ("__debug__" : Str)) = false) :
    PE X (.Call (.Name C p) [] [] pos) (TE' X ct W (mMkC φi C mNil)) := by
  obtain ⟨Ca, f, fd, ps, g1, M, hm, hb, G⟩ := ct_own_of F
  refine ⟨fun pins s σ H Q I ⟨F, μ, env, st, r, re, p0⟩ => ?_⟩
  refine wpAny_Call_Name_kw (ld_glob I hg hm ?_ hdb)
  exact PySem.W.callWith_K0 I.kIn M.kp (make_run (us := []) (ws := []) tk g1 M G hr hb I .nil r .nil p0)
/-! ### o.f = e -/
end
end G

set_option Elab.async false
set_option linter.all false
set_option maxRecDepth 100000
set_option maxHeartbeats 4000000
/-! exceptions out of comprehensions -/
namespace G
open PySem PySem.Spec PyProof.Rows L2
section
variable {M : Model} {A : Around} {E : Value → Shared → Prop} {s : Shared} {Z : Obj → Prop} {base : Heap} {env cenv : Env} {outer l : List Env} {L e : Addr}
/-- noted by another frame than this one -/
theorem looks_fl {fl : Value} {Q : Unit → Shared → Prop} (hZ : HandSPX.Steady Z) (hfr : A.frames = some (env :: outer)) (hf : env.frame = some L) (hne : fl ≠ rawInt L)
    (hkb : base.StaysIn s.heap) (hen : base.get? e = none) (hl : s.heap.FunFrames base (env :: outer)) (ht : HandSPX.TracedZ s.heap base e Z fl)
    (hQ : ∀ h', HandSPX.HeldZ base (env :: outer) e Z L h' → s.heap.UpToSlots h' → Q () { s with heap := h' }) : wpAny M A (noteFrame (.ref e) env) Q E s := by
  obtain ⟨xo, xs, tb, tbo, tbs, gx, zx, dx, x1, newT, apart, gT, dT, t3⟩ := ht
  have some1 : (Value.ref tb != Value.none) = true := by simp
  have other1 : (fl == rawInt L) = false := by simpa using hne
  unfold noteFrame
  simp only [hf]
  refine wpAny_bind (wpAny_field gx dx x1 ?_)
  simp only [some1, if_true]
  refine wpAny_bind (wpAny_field gT dT t3 ?_)
  simp only [other1, Bool.false_eq_true, if_false]
  refine wpAny_bind (wpAny_setField gT dT (Array.getElem?_eq_some_iff.mp t3).1 ?_)
  generalize hn : s.heap.update tb (Obj.mapFields (·.setIfInBounds 3 Value.none)) = hp
  have same : ∀ c, c ≠ tb → hp.get? c = s.heap.get? c := fun c n => by rw [← hn]; exact Heap.get?_update_other _ _ (Ne.symm n)
  have plain : ∀ {c o}, s.heap.get? c = some o → (∀ vs, o.data ≠ .fields vs) → c ≠ tb := fun {c o} g n z => by
    subst z
    exact n tbs (by rw [← Option.some.inj (gT.symm.trans g)]; exact dT)
  refine HandSPX.wpAny_entryZ hZ hfr (hl.of_keeps fun c o g n => ⟨o, by rw [same c (plain g n)]; exact g, rfl⟩) hf (by rw [same e (Ne.symm apart)]; exact gx) (fun c o g => ?_) hen dx (Array.getElem?_eq_some_iff.mp x1).1 zx fun h' ⟨y1, y2, y3, y4⟩ => ?_
  · have : c ≠ tb := fun z => by rw [z, newT] at g; cases g
    rw [same c this]; exact hkb c o g
  · exact hQ h' ⟨y1, hen, y2, y3⟩ fun c o g n => y4 c o (by rw [same c (plain g n)]; exact g) n
/-- what is in the air is noted by the frame at L, wherever it was noted before -/
theorem sky_note {L' : Addr} {Q : Unit → Shared → Prop} (hZ : HandSPX.Steady Z) (hfr : A.frames = some (env :: outer)) (hf : env.frame = some L) (hcf : cenv.frame = env.frame) (x : Sky base (env :: outer) e Z L' s.heap)
    (hQ : ∀ h', HandSPX.HeldZ base (env :: outer) e Z L h' → s.heap.UpToSlots h' → Q () { s with heap := h' }) : wpAny M A (noteFrame (.ref e) cenv) Q E s := by
  rw [noteFrame_env _ hcf]
  rcases x with ⟨hB, hn, hl, oe, vs, he, hz, hd, h1⟩ | fl | hh
  · exact HandSPX.look_newZ hZ hfr hl hf he hB hn hd h1 hz hQ
  · exact HandSPX.looks_onZ hZ hfr hf fl hQ
  · by_cases e1 : (rawInt L' : Value) = rawInt L
    · obtain ⟨h1, h2, h3, h4⟩ := hh
      rw [e1] at h4
      exact HandSPX.againZ hf h4 (hQ s.heap ⟨h1, h2, h3, h4⟩ (Heap.UpToSlots.refl _))
    · obtain ⟨h1, h2, h3, h4⟩ := hh
      exact looks_fl hZ hfr hf e1 h1 h2 h3 h4 hQ
theorem traced_but {h h' : Heap} {C : Addr} {fl : Value} {m : Str → Option Value} (x : HandSPX.TracedZ h base e Z fl) (hn : h.Ns C m) (hs : Heap.SameBut C h h') : HandSPX.TracedZ h' base e Z fl := by
  obtain ⟨oe, vs, T, oT, ts, he, hz, hd, h1, hnT, hTe, hT, hdT, h3⟩ := x
  obtain ⟨oL, es, ep, hoL, hdL, _⟩ := hn
  have neE : e ≠ C := fun q => by
    rw [q, hoL] at he
    have z := Option.some.inj he
    rw [← z, hdL] at hd
    cases hd
  have neT : T ≠ C := fun q => by
    rw [q, hoL] at hT
    have z := Option.some.inj hT
    rw [← z, hdL] at hdT
    cases hdT
  exact ⟨oe, vs, T, oT, ts, (hs.2 e neE).trans he, hz, hd, h1, hnT, hTe, (hs.2 T neT).trans hT, hdT, h3⟩
end
theorem restrict2 (h : Heap) (p : Addr → Bool) : ∃ G : Heap, (∀ b, p b = true → G.get? b = h.get? b) ∧ ∀ b, p b = false → G.get? b = none := restrict h p
/-- the block's context, exceptions told -/
abbrev _root_.L2.Cx.blkE (X : Cx) (s : Shared) (H : Hp) (scope : Scope) (cenv : Env) (fp : List Addr) (W : WX) : Cx := { X.blk s H scope cenv fp with xe := fun u s' => XE (X.blk s H scope cenv fp) W u s' }
theorem ok_xe {X : Cx} {f : Value → Shared → Prop} (o : Cx.Ok X) : Cx.Ok { X with xe := f } :=
  ⟨o.mod, o.kind, o.glob, o.blt, o.above, o.inj, o.has, o.cab, o.hd, o.frames, o.stk, o.exf, o.bs, o.bsz, o.noex, o.exfs, o.funs, o.frf⟩
theorem ok_xe' {X : Cx} {f : Value → Shared → Prop} (o : Cx.Ok { X with xe := f }) : Cx.Ok X :=
  ⟨o.mod, o.kind, o.glob, o.blt, o.above, o.inj, o.has, o.cab, o.hd, o.frames, o.stk, o.exf, o.bs, o.bsz, o.noex, o.exfs, o.funs, o.frf⟩
theorem inv_xe {X : Cx} {f : Value → Shared → Prop} {pins : List (Addr × Obj)} {σ : L2.St} {H : Hp} {s : Shared} (I : Inv X pins σ H s) : Inv { X with xe := f } pins σ H s :=
  ⟨ok_xe I.ok, I.os, I.bare, I.base, I.loc, I.cell, I.free, I.freeC, I.pin, I.hok, I.len⟩
theorem inv_xe' {X : Cx} {f : Value → Shared → Prop} {pins : List (Addr × Obj)} {σ : L2.St} {H : Hp} {s : Shared} (I : Inv { X with xe := f } pins σ H s) : Inv X pins σ H s :=
  ⟨ok_xe' I.ok, I.os, I.bare, I.base, I.loc, I.cell, I.free, I.freeC, I.pin, I.hok, I.len⟩
theorem takes_blkE {X : Cx} {s : Shared} {H : Hp} {scope : Scope} {cenv : Env} {fp : List Addr} {W : WX} : Takes (X.blkE s H scope cenv fp W) W := fun u s' ⟨a, B, sI, pins, σ, H', cls, d, e, I, nb, up, sky, na, os, ag, w⟩ =>
  ⟨a, B, sI, pins, σ, H', cls, d, e, inv_xe' I, nb, up, sky, na, os, ag, w⟩
section
variable {X : Cx} {W : WX}
/-- out of the block -/
theorem block_out {pins : List (Addr × Obj)} {σ : L2.St} {H3 : Hp} {s3 : Shared} {scope : Scope} {ce : Env} {fp : List Addr} (hs : X.stack = X.env :: X.outer) (hf : X.env.frame = some X.env.locals) (tk : Takes X W) (I3 : Inv X pins σ H3 s3) (f3 : ∀ b ∈ fp, FpOk X pins H3 b)
    (hcf : ce.frame = X.env.frame) (hC : ce.locals = s3.heap.objs.size) {u : Value} {s' : Shared} (x : XE (X.blk s3 H3 scope ce fp) (fun c d _ H => W c d σ H) u s') : notedBy (model X.prog X.w) X.A ce (CompFails (model X.prog X.w) X.A X.xe ce) u s' := by
  obtain ⟨a, B, sI, pins', σ', H', cls, d, rfl, I', nb, up, sky, na, os, ag, w⟩ := x
  have hfr : X.A.frames = some (X.env :: X.outer) := by rw [I3.ok.frames, hs]
  have sky : Sky B (X.env :: X.outer) a (Zc cls d) ce.locals s'.heap := by
    have := sky
    rw [show (X.blk s3 H3 scope ce fp).stack = X.env :: X.outer from hs] at this
    exact this
  have nb : ∀ b o, sI.heap.get? b = some o → b ∉ frs X.stack → B.get? b = some o := nb
  refine sky_note Zc.steady hfr hf hcf sky fun h1 held up1 => ?_
  obtain ⟨m, hn, _⟩ := I'.loc
  have hn : sI.heap.Ns ce.locals m := hn
  have up01 : sI.heap.UpToSlots h1 := up.trans up1
  have hn1 := up01.ns hn
  have Cfs : ce.locals ∉ frs X.stack := fun z => by
    obtain ⟨_, o, ho, _⟩ := I3.stack.mem z
    have h2 := Heap.lt_size ho
    rw [hC] at h2
    exact Nat.lt_irrefl _ h2
  -- the ground without the block
  obtain ⟨B2, b1, b2⟩ := restrict2 B fun b => !decide (b = ce.locals)
  have B2C : B2.get? ce.locals = none := b2 _ (by simp)
  have B2o : ∀ b o, B2.get? b = some o → B.get? b = some o := fun b o e => by
    by_cases z : b = ce.locals
    · rw [z, B2C] at e; cases e
    · rw [b1 b (by simpa using z)] at e; exact e
  have B2n : ∀ b o, B.get? b = some o → b ≠ ce.locals → B2.get? b = some o := fun b o e z => by rw [b1 b (by simpa using z)]; exact e
  obtain ⟨k1, k2, k3, k4⟩ := held
  refine ⟨m, hn1, fun h' m' hn' sb => ?_⟩
  have st' : B2.StaysIn h' := fun b o e => (sb.2 b fun z => by rw [z, B2C] at e; cases e).trans (k1 b o (B2o b o e))
  have ff' : h'.FunFrames B2 (X.env :: X.outer) := by
    refine Heap.FunFrames.sameBut sb hn' (funFrames_none k3 fun L hL => ?_)
    cases q : B2.get? L with
    | none => rfl
    | some o =>
      have z := (k3.mem hL).1
      rw [B2o L o q] at z
      cases z
  have a2 : B2.get? a = none := by
    cases q : B2.get? a with
    | none => rfl
    | some o =>
      have z := B2o a o q
      rw [k2] at z
      cases z
  have tr' : HandSPX.TracedZ h' B2 a (Zc cls d) (rawInt X.env.locals) := by
    obtain ⟨oe, vs, T, oT, ts, he, hz, hd, h1', hnT, hTe, hT, hdT, h3⟩ := traced_but k4 hn1 sb
    refine ⟨oe, vs, T, oT, ts, he, hz, hd, h1', ?_, hTe, hT, hdT, h3⟩
    cases q : B2.get? T with
    | none => rfl
    | some o =>
      have z := B2o T o q
      rw [hnT] at z
      cases z
  have held' : HandSPX.HeldZ B2 (X.env :: X.outer) a (Zc cls d) X.env.locals h' := ⟨st', a2, ff', tr'⟩
  have upH : ∀ b o, sI.heap.get? b = some o → b ≠ ce.locals → (∀ vs, o.data ≠ .fields vs) → ∃ sl, h'.get? b = some { o with slots := sl } := fun b o e z hnf => by
    obtain ⟨sl, q⟩ := up01 b o e hnf
    exact ⟨sl, (sb.2 b z).trans q⟩
  obtain ⟨oe, vs, T, oT, ts, he, hz, hd, h1', _⟩ := id tr'
  unfold PySem.passOn
  refine wpAny_bind (wpAny_field he hd h1' ?_)
  rw [if_neg (show ¬ ((Value.ref T == Value.none) = true) from by simp)]
  rw [hcf, hf]
  refine wpAny_bind (HandSPX.setFlight_onZ held' fun h3 held3 up3 => ?_)
  refine wpAny_throw (tk _ _ ?_)
  -- the state of X without it
  obtain ⟨G, g1, g2⟩ := restrict h3 fun b => (B2.get? b).isSome || decide (b ∈ frs X.stack)
  have st3 : B2.StaysIn h3 := held3.1
  have gB : ∀ b o, B2.get? b = some o → G.get? b = some o := fun b o e => by
    rw [g1 b (by simp [e])]
    exact st3 b o e
  have gF : ∀ b, b ∈ frs X.stack → G.get? b = h3.get? b := fun b hb => g1 b (by simp [hb])
  have og : ∀ b o, G.get? b = some o → h3.get? b = some o ∧ ((B2.get? b).isSome = true ∨ b ∈ frs X.stack) := fun b o e => by
    cases q : ((B2.get? b).isSome || decide (b ∈ frs X.stack)) with
    | false => rw [g2 b q] at e; cases e
    | true =>
      rw [g1 b q] at e
      exact ⟨e, by simpa [Bool.or_eq_true] using q⟩
  have old : ∀ b o, s3.heap.get? b = some o → b ≠ ce.locals := fun b o e z => by
    have h2 := Heap.lt_size e
    rw [z, hC] at h2
    exact Nat.lt_irrefl _ h2
  have nfF : ∀ b ∈ frs X.stack, ∀ o, sI.heap.get? b = some o → ∀ vs, o.data ≠ .fields vs := fun b hb o e => by
    obtain ⟨_, o', e', hd'⟩ := I'.stack.mem hb
    rw [e] at e'; cases e'
    exact hd'
  have un : Un (frs X.stack) fp H3 H' s3.heap sI.heap := I'.base
  have I3' : Inv X pins σ H' { s3 with heap := G, gens := s'.gens, drawn := s'.drawn, toks := s'.toks } := by
    refine I3.call (ch := fp) ⟨fun b o e n hb hx => gB b o (B2n b o (nb b o (un.keep b o e n hb hx) hb) (old b o e)), fun b o e n hb hx => ?_, un.free, fun b o e hx => ?_, un.tups, un.frzs, un.tbls⟩ ?_ ag fun b hb => ⟨(f3 b hb).2.2.2.1, (f3 b hb).2.1, (f3 b hb).2.2.2.2.1, (f3 b hb).2.2.2.2.2⟩
    · obtain ⟨sl, e1⟩ := un.slot b o e n hb hx
      obtain ⟨sl2, e2⟩ := upH b _ e1 (old b o e) (nfF b hb _ e1)
      obtain ⟨sl3, e3⟩ := up3 b _ e2 (fun vs z => nfF b hb _ e1 vs z)
      exact ⟨sl3, by rw [gF b hb]; exact e3⟩
    · obtain ⟨o', e1⟩ := un.there b o e hx
      by_cases hb : b ∈ frs X.stack
      · obtain ⟨sl2, e2⟩ := upH b _ e1 (old b o e) (nfF b hb _ e1)
        obtain ⟨sl3, e3⟩ := up3 b _ e2 (fun vs z => nfF b hb _ e1 vs z)
        exact ⟨_, by rw [gF b hb]; exact e3⟩
      · exact ⟨o', gB b o' (B2n b o' (nb b o' e1 hb) (old b o e))⟩
    · intro b o q
      refine (I'.hok b o q).stay (fun c v hc r => ?_) (fun _ r => r) fun _ _ r => r
      have hne : H' c ≠ none := by
        rcases hc with hc | hc
        · rw [hc, q]; exact fun z => nomatch z
        · rw [hc]; exact fun z => nomatch z
      exact gB c v (B2n c v (nb c v r fun hm => hne (I'.stkFree c hm)) fun z => hne (by rw [z]; exact I'.free))
  refine ⟨a, B2, _, pins, σ, H', cls, d, rfl, I3', fun b o e hb => ?_, Heap.UpToSlots.of_keeps fun b o e => (og b o e).1, .inr (.inr (by rw [hs]; exact held3)), na, os.trans I'.os, ag, w⟩
  obtain ⟨e', h⟩ := og b o e
  rcases h with h | h
  · obtain ⟨o', q⟩ := Option.isSome_iff_exists.mp h
    have z := st3 b o' q
    rw [e'] at z; cases z
    exact q
  · exact absurd h hb

/-- one more list, empty, at the heap's end -/
abbrev plusL (s : Shared) : Shared := { s with heap := s.heap.push { cls := .type "list", data := .seq ([] : List Value).toArray } }
theorem plusL_keeps (s : Shared) {c : Addr} {o : Obj} (g : s.heap.get? c = some o) : (plusL s).heap.get? c = some o := Heap.get?_push_of_some _ g
theorem plusL_inv {pins : List (Addr × Obj)} {σ : L2.St} {H : Hp} {s : Shared} (I : Inv X pins σ H s) : Inv X pins σ (upd H s.heap.objs.size (.lst [])) (plusL s) :=
  I.laid (t' := s.toks) (fun _ _ g => plusL_keeps s g) (Nat.le_refl _) ⟨Nat.zero_le _, [], 0, .nil, Heap.get?_push_size _ rfl⟩
theorem plusL_fp {pins : List (Addr × Obj)} {H : Hp} {s : Shared} {fp : List Addr} (f : ∀ c ∈ fp, FpOk X pins H c) (lv : ∀ c ∈ fp, c < s.heap.objs.size) :
    ∀ c ∈ fp, FpOk X pins (upd H s.heap.objs.size (.lst [])) c ∧ c < (plusL s).heap.objs.size := fun c hc =>
  ⟨⟨(upd_ne (Nat.ne_of_lt (lv c hc))).trans (f c hc).1, (f c hc).2⟩, Nat.lt_of_lt_of_eq (Nat.lt_succ_of_lt (lv c hc)) (Heap.size_push _ _).symm⟩
/-- the block's environment and context over the list's state -/
abbrev cEnv (X : Cx) (scope : Scope) (s : Shared) : Env := compEnvC scope (cellsFrom (s.heap.objs.size + 1) scope.names (cloFrom X.env.cells scope.names [])) s.heap.objs.size X.env
abbrev cSt (scope : Scope) (s : Shared) : Shared := { s with heap := pushCells (s.heap.push { cls := .type "dict", data := .dict #[] }) scope.names }
theorem cSt_keeps (scope : Scope) (s : Shared) {c : Addr} {o : Obj} (g : s.heap.get? c = some o) : (cSt scope s).heap.get? c = some o := pushCells_keeps _ _ _ _ (Heap.get?_push_of_some _ g)
/-- what holds before each round of the loop -/
def Rnd (Y : Cx) (σ : L2.St) (fp : List Addr) (tn : Nat → Heap → Prop) (W : Nat → Nat → Hp → Prop) (n : Nat) (s : Shared) : Prop :=
  ∃ i H, Inv Y [] σ H s ∧ tn i s.heap ∧ (∀ c ∈ fp, H c = none) ∧ W i n H
theorem blk_fp {s : Shared} {H : Hp} {scope : Scope} {ce : Env} {fp : List Addr} {V : WX} {σ' : L2.St} {H' : Hp} {s' : Shared} (I : Inv (X.blkE s H scope ce fp V) [] σ' H' s') (n : ∀ c ∈ fp, H' c = none) :
    ∀ c ∈ fp, FpOk (X.blkE s H scope ce fp V) [] H' c := fun c hc => by
  have e := I.ok.exf c hc
  refine ⟨n c hc, e.1, I.ok.exfs c hc, Or.inl hc, e.2, fun p hp => ?_⟩
  cases (show p ∈ ([] : List (Addr × Obj)) from hp)
/-- a round's end: the iterator's objects are as they were, the names wiped -/
theorem rnd_end {Y : Cx} {elt : Expr} {J : It} {σ σ1 : L2.St} {ix : List Nat} {fp : List Addr} {it : Addr} {tn : Nat → Heap → Prop} {W : Nat → Nat → Hp → Prop} {Nx : Hp → Prop} {n i : Nat} {s1 s2 : Shared} {H2 : Hp} (T : Turn Y.prog Y.w Y.K elt J fp it tn)
    (wd : wipe σ1 ix = wipe σ ix) (t1 : tn (i + 1) s1.heap) (I : Inv Y ([] ++ pinsAt fp s1.heap) σ1 H2 s2) (less : ∀ H', Nx H' → ∃ m, m < n ∧ W (i + 1) m H') (nx : Nx H2) : ∃ m, m < n ∧ Rnd Y (wipe σ ix) fp tn W m s2 := by
  obtain ⟨m, lt, w⟩ := less H2 nx
  have held : ∀ c ∈ fp, ∀ o, s1.heap.get? c = some o → s2.heap.get? c = some o ∧ H2 c = none := fun c hc o g =>
    ⟨(I.pin (c, o) (List.mem_append_right _ (List.mem_append_right _ (mem_pinsAt hc g)))).1, (I.pin (c, o) (List.mem_append_right _ (List.mem_append_right _ (mem_pinsAt hc g)))).2.1⟩
  refine ⟨m, lt, i + 1, H2, (I.unpinned (pins := [])).weak (by rw [← wd, wipe_length]) (fun j v g => (wipe_some (wd.symm ▸ g)).1), T.keep _ _ _ t1 fun c hc o g => (held c hc o g).1, fun c hc => ?_, w⟩
  obtain ⟨o, g, _⟩ := T.obj _ _ t1 c hc
  exact (held c hc o g).2
/-- a comprehension over one source, with or without a name to store it in; what an element raises goes on -/
theorem lc_coreX {pins : List (Addr × Obj)} {s : Shared} {σ : L2.St} {H : Hp} {Q : VK} {elt tg iter : Expr} {ifs : List Expr} {scope : Scope} {own : List (Str × Nat)} {pos pos' : Pos} {wi : TI} {g : TG} {tt : TT} {te : TE} {use : Option (Value → Sem Unit)} {Qf : Value → Shared → Prop} {WW : WX}
    (hst : X.stack = X.env :: X.outer) (hfl : X.env.frame = some X.env.locals) (tk : Takes X WW) (hc : X.calm = true) (hN : X.N.Nodup) (I : Inv X pins σ H s) (hi : PI X tg iter wi) (ok : BlkOk X.N X.env.scope scope own)
    (hg : ∀ (s : Shared) (H : Hp) (C : Addr) (cl : List (Str × Addr)) (fp : List Addr), PG (X.blkE s H scope (compEnvC scope cl C X.env) fp (fun c d _ H => WW c d σ H)) tg g) (ht : ∀ (s : Shared) (H : Hp) (C : Addr) (cl : List (Str × Addr)) (fp : List Addr), PTs (X.blkE s H scope (compEnvC scope cl C X.env) fp (fun c d _ H => WW c d σ H)) ifs tt)
    (he : ∀ (s : Shared) (H : Hp) (C : Addr) (cl : List (Str × Addr)) (fp : List Addr), PE (X.blkE s H scope (compEnvC scope cl C X.env) fp (fun c d _ H => WW c d σ H)) elt te) (hs : ∀ x, foldedSetIterable iter X.env x = pure x) (h : tLc wi g tt te (own.map (·.2)) σ H Q)
    (hRR : ∀ D ce s' m H', Inv X pins σ H' s' → Q (.ref D) H' → s'.heap.Ns ce.locals m → FpOk X pins H' ce.locals → compEnds (model X.prog X.w) X.A X.xe use Qf (.ref D) ce (.ok .next) s') :
    wpAny (model X.prog X.w) X.A (comprehension (.ListComp elt [⟨tg, iter, ifs, 0⟩] scope pos) scope X.env pos' (newList []) false (eval iter X.env) use) Qf X.xe s := by
  have free : ∀ y ∈ scope.names, y.2 = .free → ∃ c, X.env.cells.lookup y.1 = some c := fun y hy e =>
    (ok.free y hy e).elim (fun k => I.ok.has _ (Or.inl k)) fun k => I.ok.has _ (Or.inr k)
  refine comprehension_at (use := use) rfl hs (closure_ok free) ok.kind (fun y hy e => by rw [ok.uniq y hy, e]) (thn (hi.run pins s σ H _ I h) fun _ s1 hx => thn hx ?_)
  rintro _ s2 ⟨it, fp, tn, J, H2, rfl, I2, T, st2, f2, q⟩
  refine wpAny_newObj_type (newEnv_comp ?_) (by show 0 ≤ sizeLine; decide)
  obtain ⟨W, ⟨m0, w0⟩, turn⟩ := q s2.heap.objs.size (I2.hok.fresh (Nat.le_refl _))
  have I3 := plusL_inv I2
  have f3 := plusL_fp f2 fun c hc => (T.obj _ _ st2 c hc).elim fun _ x => Heap.lt_size x.1
  have none3 : ∀ c ∈ fp, (upd H2 s2.heap.objs.size (.lst [])) c = none := fun c hc => (f3 c hc).1.1
  have I4 : Inv (X.blk (plusL s2) (upd H2 s2.heap.objs.size (.lst [])) scope (cEnv X scope (plusL s2)) fp) [] (wipe σ (own.map (·.2))) (upd H2 s2.heap.objs.size (.lst [])) (cSt scope (plusL s2)) := block_start I3 ok hN f3
  have st4 : tn 0 (cSt scope (plusL s2)).heap := T.keep _ _ _ st2 fun c _ o y => cSt_keeps scope _ (plusL_keeps s2 y)
  have pg : PG (X.blkE (plusL s2) (upd H2 s2.heap.objs.size (.lst [])) scope (cEnv X scope (plusL s2)) fp (fun c d _ H => WW c d σ H)) tg g := hg _ _ _ _ _
  have pt : PTs (X.blkE (plusL s2) (upd H2 s2.heap.objs.size (.lst [])) scope (cEnv X scope (plusL s2)) fp (fun c d _ H => WW c d σ H)) ifs tt := ht _ _ _ _ _
  have pe : PE (X.blkE (plusL s2) (upd H2 s2.heap.objs.size (.lst [])) scope (cEnv X scope (plusL s2)) fp (fun c d _ H => WW c d σ H)) elt te := he _ _ _ _ _
  show codeAny _ _ (.compStart _ 0 (.ref it) (.ref s2.heap.objs.size) (cEnv X scope (plusL s2))) (compEnds (model X.prog X.w) X.A X.xe use Qf (.ref s2.heap.objs.size) (cEnv X scope (plusL s2))) (cSt scope (plusL s2))
  generalize hce : cEnv X scope (plusL s2) = ce at I4 pg pt pe ⊢
  have cL : ce.locals = (plusL s2).heap.objs.size := hce ▸ rfl
  have cF : ce.frame = X.env.frame := hce ▸ rfl
  generalize s2.heap.objs.size = D at w0 turn I3 I4 pg pt pe none3 f3 ⊢
  generalize upd H2 D (.lst []) = H3 at w0 I3 I4 pg pt pe none3 f3
  generalize cSt scope (plusL s2) = s4 at I4 st4 ⊢
  generalize plusL s2 = s3 at I3 I4 pg pt pe f3 cL
  generalize hV : (fun c d (_ : L2.St) H => WW c d σ H : WX) = V at pg pt pe
  have I4 : Inv (X.blkE s3 H3 scope ce fp V) [] (wipe σ (own.map (·.2))) H3 s4 := inv_xe I4
  generalize hR : compEnds (model X.prog X.w) X.A X.xe use Qf (.ref D) ce = R at ⊢
  have esc : ∀ u s', (X.blkE s3 H3 scope ce fp V).xe u s' → notedBy (model X.prog X.w) X.A ce (fun e s' => R (.error e) s') u s' := fun u s' x => by
    rw [← hV] at x
    have z := block_out hst hfl tk I3 (fun c hc => (f3 c hc).1) cF cL x
    rw [← hR]
    cases use <;> exact z
  have loop : codeAny (model X.prog X.w) X.A (.compLoop (.ListComp elt [⟨tg, iter, ifs, 0⟩] scope pos) 0 (.ref it) (.ref D) ce) R s4 := by
    refine compLoop_any (Rnd (X.blkE s3 H3 scope ce fp V) (wipe σ (own.map (·.2))) fp tn W) ?_ m0 ⟨0, H3, I4, st4, none3, w0⟩
    rintro n s5 ⟨i, H5, I5, st5, n5, w5⟩
    have fp5 := blk_fp I5 n5
    rcases turn i n H5 w5 with ⟨stop, out⟩ | ⟨go, Nx, less, step⟩
    · refine thnF (T.done (X.blkE s3 H3 scope ce fp V) rfl rfl rfl hc i [] s5 _ H5 (fun _ _ => False) I5 fp5 st5 stop) ?_
      rintro _ s6 ⟨rfl, I6⟩
      have bare : H5 s3.heap.objs.size = none := by rw [← cL]; exact I6.free
      obtain ⟨ns, hns, _⟩ := I6.loc
      rw [← hR]
      refine hRR D ce s6 ns H5 (I3.call' (ch := fp) I6.os I6.base I6.hok I6.bare fun c hc => ?_) out hns (cL ▸ I3.fpOk (Nat.le_refl _) bare)
      obtain ⟨⟨_, y2, _, y4, y5, y6⟩, _⟩ := f3 c hc
      exact ⟨y4, y2, y5, y6⟩
    · refine thnF (T.item (X.blkE s3 H3 scope ce fp V) rfl rfl rfl hc i [] s5 _ H5 (fun _ _ => False) I5 fp5 st5 go) ?_
      rintro _ s6 ⟨u, rfl, next⟩
      refine thnF next ?_
      rintro _ s7 ⟨x, H7, I7, r7, y7, st7, n7⟩
      refine wpAny_mono (pg.run _ s7 _ H7 x u _ (I7.pinned (blk_fp I7 n7) (T.obj _ _ st7)) r7 (step x H7 y7)) ?_ esc
      rintro _ s8 ⟨σ8, H8, I8, wd, q8⟩
      refine wpAny_mono (pt.run _ s8 σ8 H8 _ I8 q8) ?_ esc
      rintro (_ | _) s9 ⟨H9, I9, q9⟩
      · exact rnd_end T wd st7 I9 less q9
      · refine wpAny_mono (pe.run _ s9 σ8 H9 _ I9 q9) ?_ esc
        rintro _ s10 ⟨y, H10, I10, r10, acc, d10, z10, nx⟩
        exact app_ok (X := X.blkE s3 H3 scope ce fp V) I10 d10 z10 r10 fun s11 I11 => rnd_end T wd st7 I11 less nx
  exact codeAny_compStart_list loop (T.self X.A 0 _ _ _ st4 loop)
/-- as a value -/
theorem pe_lcX {elt tg iter : Expr} {ifs : List Expr} {scope : Scope} {own : List (Str × Nat)} {pos : Pos} {wi : TI} {g : TG} {tt : L2.St → TT} {te : L2.St → TE} (hst : X.stack = X.env :: X.outer) (hfl : X.env.frame = some X.env.locals) (tk : Takes X W) (hc : X.calm = true) (hN : X.N.Nodup) (hi : PI X tg iter wi) (ok : BlkOk X.N X.env.scope scope own)
    (hg : ∀ (σ : L2.St) (s : Shared) (H : Hp) (C : Addr) (cl : List (Str × Addr)) (fp : List Addr), PG (X.blkE s H scope (compEnvC scope cl C X.env) fp (fun c d _ H => W c d σ H)) tg g)
    (ht : ∀ (σ : L2.St) (s : Shared) (H : Hp) (C : Addr) (cl : List (Str × Addr)) (fp : List Addr), PTs (X.blkE s H scope (compEnvC scope cl C X.env) fp (fun c d _ H => W c d σ H)) ifs (tt σ))
    (he : ∀ (σ : L2.St) (s : Shared) (H : Hp) (C : Addr) (cl : List (Str × Addr)) (fp : List Addr), PE (X.blkE s H scope (compEnvC scope cl C X.env) fp (fun c d _ H => W c d σ H)) elt (te σ)) (hs : ∀ x, foldedSetIterable iter X.env x = pure x := by intro _; rfl) :
    PE X (.ListComp elt [⟨tg, iter, ifs, 0⟩] scope pos) (fun σ H Q => tLc wi g (tt σ) (te σ) (own.map (·.2)) σ H Q) := by
  refine ⟨fun pins s σ H Q I h => ?_⟩
  rw [eval_ListComp]
  refine lc_coreX hst hfl tk hc hN I hi ok (hg σ) (ht σ) (he σ) hs h fun D ce s' m H' I' q hn f => ⟨m, hn, fun h'' sb => ?_⟩
  obtain ⟨f0, f1, f2, f3, f4, f5⟩ := f
  exact ⟨.ref D, H', I'.turned (t' := s'.toks) (fun b o hb e => (sb.2 b hb).trans e) f0 f1 f3 f4 f5, rfl, q⟩
/-- name = [..] on one line, the name a local -/
theorem ps_setLcX {i : Nat} {y : Str} {py : Pos} {elt tg iter : Expr} {ifs : List Expr} {scope : Scope} {own : List (Str × Nat)} {pos spos : Pos} {wi : TI} {g : TG} {tt : L2.St → TT} {te : L2.St → TE} (hst : X.stack = X.env :: X.outer) (hfl : X.env.frame = some X.env.locals) (tk : Takes X W) (hc : X.calm = true) (hN : X.N.Nodup) (hy : X.N[i]? = some y) (hyl : X.env.scope.names.lookup y = some .local)
    (hsw : swapsWith (.ListComp elt [⟨tg, iter, ifs, 0⟩] scope pos) (some (.Name y py)) spos.line X.env = pure true) (hi : PI X tg iter wi) (ok : BlkOk X.N X.env.scope scope own)
    (hg : ∀ (σ : L2.St) (s : Shared) (H : Hp) (C : Addr) (cl : List (Str × Addr)) (fp : List Addr), PG (X.blkE s H scope (compEnvC scope cl C X.env) fp (fun c d _ H => W c d σ H)) tg g)
    (ht : ∀ (σ : L2.St) (s : Shared) (H : Hp) (C : Addr) (cl : List (Str × Addr)) (fp : List Addr), PTs (X.blkE s H scope (compEnvC scope cl C X.env) fp (fun c d _ H => W c d σ H)) ifs (tt σ))
    (he : ∀ (σ : L2.St) (s : Shared) (H : Hp) (C : Addr) (cl : List (Str × Addr)) (fp : List Addr), PE (X.blkE s H scope (compEnvC scope cl C X.env) fp (fun c d _ H => W c d σ H)) elt (te σ)) (hs : ∀ x, foldedSetIterable iter X.env x = pure x := by intro _; rfl) :
    PS X (.Assign [.Name y py] (.ListComp elt [⟨tg, iter, ifs, 0⟩] scope pos) spos) (tAsg (fun σ H Q => tLc wi g (tt σ) (te σ) (own.map (·.2)) σ H Q) (gName i)) := by
  refine ⟨fun pins s σ H D I h => ?_⟩
  rw [exec_Assign_Name_used _ _ _ _ hsw]
  refine wpAny_bind (wpAny_standAt (wpAny_bind ?_))
  show wpAny _ X.A (do let _ ← comprehension (.ListComp elt [⟨tg, iter, ifs, 0⟩] scope pos) scope X.env (firstIterPos [⟨tg, iter, ifs, 0⟩] pos) (newList []) false (eval iter X.env) (some (assign (.Name y py) X.env))) _ _ s
  have h : tLc wi g (tt σ) (te σ) (own.map (·.2)) σ H (fun x H1 => gName i x σ H1 D.nx) := h
  refine wpAny_bind (thn (lc_coreX (Qf := fun _ s' => SP X pins D .next s') hst hfl tk hc hN I hi ok (hg σ) (ht σ) (he σ) hs h fun L ce s' m H' I' q hn f => ?_) fun _ s' hq => wpAny_pure (wpAny_pure hq))
  show wpAny _ _ (assign (.Name y py) X.env (.ref L)) _ _ _
  refine wpAny_assign_Name (store_ok2 (v := V.ref L) I' hN hy (.inl hyl) rfl (fun s2 I2 ⟨a, sb, ha⟩ => ?_) (.inr hyl))
  obtain ⟨f0, f1, f2, f3, f4, f5⟩ := f
  have haC : ce.locals ≠ a := by
    rcases ha with z | z
    · rw [z]; exact f1
    · exact fun e => f4 y a z e.symm
  refine ⟨m, hn.sameBut sb haC, fun h3 sb3 => ?_⟩
  exact ⟨_, H', I2.turned (t' := s2.toks) (fun b o hb e => (sb3.2 b hb).trans e) f0 f1 f3 f4 f5, q⟩
end
end G

set_option Elab.async false
set_option linter.all false
set_option maxRecDepth 100000
set_option maxHeartbeats 4000000
namespace G
open PySem PySem.Spec PyProof.Rows L2

/-! ### a list comprehension that may raise -/
def lcRunX (tg : Tg) (mc : Mx Bool) (me : Mx Va) (gd : Gd) (env : Ev) : List Va → List Va → Sto → R (List Va)
  | [], acc, st => if gdB gd st then .ok acc st else .stuck
  | x :: rest, acc, st => if gdB gd st then match tgV tg x env st with
      | none => .stuck
      | some env1 => (mc env1 st).bind fun b st1 => if b then (me env1 st1).bind fun y st2 => if acc.length < sizeLine then lcRunX tg mc me gd env rest (acc ++ [y]) st2 else .stuck
          else lcRunX tg mc me gd env rest acc st1
    else .stuck
def mLcX (m : Bool) (vs : List Nat) (tg : Tg) (mi : Mx (List Va × Gd)) (mc : Mx Bool) (me : Mx Va) : Mx Va := fun env st => (mi env st).bind fun wg st => (lcRunX tg mc me wg.2 (wipeE env vs) wg.1 [] st).bind fun l st => mkL m l st
/-- exceptions as the def has them -/
def WX.at (W : WX) (σ : L2.St) : WX := fun c d _ H => W c d σ H
theorem tLcX_of {K : PySem.W.Frag} {ct : Ct} {W : WX} {m : Bool} {vs : List Nat} {tg : Tg} {mi : Mx (List Va × Gd)} {mc : Mx Bool} {me : Mx Va} {wi : TI} {σ : L2.St} {H : Hp} {Q : VK} (hwi : ∀ R, TOf K ct W (RI K ct) mi σ H R → wi σ H R) (hvs : ∀ i ∈ tgIx tg, i ∈ vs) (hb : ∀ j ∈ vs, ct.Bears j)
    (h : TOf K ct W (RV K) (mLcX m vs tg mi mc me) σ H Q) : tLc wi (gSet K tg) (TOf K ct (fun c d _ H => W c d σ H) RB mc) (TOf K ct (fun c d _ H => W c d σ H) (RV K) me) vs σ H Q := by
  obtain ⟨F, μ, env, st, r, re, p⟩ := h
  refine hwi _ ⟨F, μ, env, st, r, re, p.bind fun wg st1 F1 μ1 H1 J _ x1 r1 hJ p1 => fun D hD => ?_⟩
  have re1 := (re.mono x1).wipe vs hb
  have Dm : D ∉ μ1 := fun m => r1.mtr D m hD
  have DF : F1 D = none := r1.nofrz hD
  obtain ⟨res, hrun⟩ : ∃ res, lcRunX tg mc me wg.2 (wipeE env vs) wg.1 [] st1 = res := ⟨_, rfl⟩
  rw [hrun] at p1
  refine ⟨fun i m H => m = wg.1.length - i ∧ i ≤ wg.1.length ∧ ∃ F2 μ2 st2 acc accV, Ext F1 μ1 H1 F2 μ2 H ∧ Rel K ct F2 μ2 st2 H ∧ D ∉ μ2 ∧ F2 D = none ∧ H D = some (.lst accV) ∧ RVs K F2 μ2 acc accV ∧ lcRunX tg mc me wg.2 (wipeE env vs) (wg.1.drop i) acc st2 = res,
    ⟨_, rfl, Nat.zero_le _, F1, μ1, st1, [], [], Ext.lay .refl hD Dm _, r1.lay Dm DF (nt_none hD) _, Dm, DF, upd_same, .nil, by rw [List.drop_zero]; exact hrun⟩, ?_⟩
  rintro i n H2 ⟨rfl, hi, F2, μ2, st2, acc, accV, x2, r2, D2, DF2, hDv, racc, hl⟩
  by_cases hlt : i < wg.1.length
  · -- a turn
    obtain ⟨w, hw⟩ : ∃ w, wg.1[i]? = some w := ⟨_, List.getElem?_eq_getElem hlt⟩
    have hdrop : wg.1.drop i = w :: wg.1.drop (i + 1) := by
      rw [List.drop_eq_getElem_cons hlt]
      rw [List.getElem?_eq_getElem hlt] at hw
      rw [Option.some.inj hw]
    rw [hdrop] at hl
    unfold lcRunX at hl
    by_cases hg : gdB wg.2 st2 = true
    · rw [if_pos hg] at hl
      have hIt := (hJ F2 μ2 st2 H2 x2.fr x2.pre r2 (gdB_ok hg) i).2 w hw
      refine .inr ⟨hIt.1, fun H' => wg.1.length - (i + 1) = wg.1.length - (i + 1) ∧ i + 1 ≤ wg.1.length ∧ ∃ F2 μ2 st2 acc accV, Ext F1 μ1 H1 F2 μ2 H' ∧ Rel K ct F2 μ2 st2 H' ∧ D ∉ μ2 ∧ F2 D = none ∧ H' D = some (.lst accV) ∧ RVs K F2 μ2 acc accV ∧ lcRunX tg mc me wg.2 (wipeE env vs) (wg.1.drop (i + 1)) acc st2 = res,
        fun H' ⟨_, q2⟩ => ⟨wg.1.length - (i + 1), by omega, rfl, q2⟩, fun x H3 y => ?_⟩
      obtain ⟨F3, x3, r3, rx⟩ := hIt.2 x H3 y
      have H1none : ∀ {F'' : Hp} {μ'' : List Addr} {H'' : Hp} {F0 : Hp} {μ0 : List Addr} {H0 : Hp}, Ext F0 μ0 H0 F'' μ'' H'' → D ∉ μ0 → F0 D = none → H0 D ≠ none → D ∉ μ'' ∧ F'' D = none := fun {F'' μ'' H'' F0 μ0 H0} x a b c => by
        refine ⟨fun m => (x.mnew D m).elim a c, ?_⟩
        cases q : F'' D with
        | none => rfl
        | some o =>
          rcases x.new D (by rw [q]; exact fun z => nomatch z) with z | z | z
          · exact absurd b z
          · exact absurd z c
          · exact absurd z a
      have c2 : H2 D ≠ none := by rw [hDv]; exact fun z => nomatch z
      obtain ⟨D3, DF3⟩ := H1none x3 D2 DF2 c2
      have hDv3 : H3 D = some (.lst accV) := x3.keep D _ hDv D2 (fun _ => nofun)
      cases et : tgV tg w (wipeE env vs) st2 with
      | none =>
        rw [et] at hl
        rw [← hl] at p1
        exact p1.elim
      | some env1 =>
        rw [et] at hl
        simp only at hl
        refine gSet_of r3 ((re1.mono (x2.trans x3))) rx et (fun j hj => hb j (hvs j hj)) fun σ' re' ⟨us, eσ⟩ => ⟨by rw [eσ, wipe_setAll _ _ _ _ hvs, wipe_wipe], ?_⟩
        refine ⟨F3, μ2, env1, st2, r3, re', ?_⟩
        cases ec : mc env1 st2 with
        | stuck =>
          rw [ec] at hl
          rw [← hl] at p1
          exact p1.elim
        | err ex st' =>
          rw [ec] at hl
          rw [← hl] at p1
          intro F4 μ4 H4 c d x4 r4 rx4
          exact p1 F4 μ4 H4 c d ((x2.trans x3).trans x4) r4 rx4
        | ok b st4 =>
          rw [ec] at hl
          simp only [R.bind_ok] at hl
          intro F4 μ4 H4 b' x4 r4 eb
          have eb : b = b' := eb
          subst eb
          have c3 : H3 D ≠ none := by rw [hDv3]; exact fun z => nomatch z
          obtain ⟨D4, DF4⟩ := H1none x4 D3 DF3 c3
          have hDv4 : H4 D = some (.lst accV) := x4.keep D _ hDv3 D3 (fun _ => nofun)
          cases b with
          | false =>
            rw [if_neg Bool.false_ne_true] at hl ⊢
            exact ⟨rfl, hlt, F4, μ4, st4, acc, accV, (x2.trans x3).trans x4, r4, D4, DF4, hDv4, x4.rvs (x3.rvs racc), hl⟩
          | true =>
            rw [if_pos rfl] at hl ⊢
            refine ⟨F4, μ4, env1, st4, r4, re'.mono x4, ?_⟩
            cases ee : me env1 st4 with
            | stuck =>
              rw [ee] at hl
              rw [← hl] at p1
              exact p1.elim
            | err ex st' =>
              rw [ee] at hl
              rw [← hl] at p1
              intro F5 μ5 H5 c d x5 r5 rx5
              exact p1 F5 μ5 H5 c d (((x2.trans x3).trans x4).trans x5) r5 rx5
            | ok y5 st5 =>
              rw [ee] at hl
              simp only [R.bind_ok] at hl
              intro F5 μ5 H5 yv x5 r5 ry
              have c4 : H4 D ≠ none := by rw [hDv4]; exact fun z => nomatch z
              obtain ⟨D5, DF5⟩ := H1none x5 D4 DF4 c4
              have hDv5 : H5 D = some (.lst accV) := x5.keep D _ hDv4 D4 (fun _ => nofun)
              by_cases hacc : acc.length < sizeLine
              · rw [if_pos hacc] at hl
                refine ⟨accV, hDv5, ?_, ?_⟩
                · rw [← racc.length]; exact hacc
                · refine ⟨rfl, hlt, F5, μ5, st5, acc ++ [y5], accV ++ [yv], Ext.lay (((x2.trans x3).trans x4).trans x5) hD Dm _, r5.lay D5 DF5 (nt_lst hDv5) _, D5, DF5, upd_same, (x5.rvs (x4.rvs (x3.rvs racc))).append (.cons ry .nil), hl⟩
              · rw [if_neg hacc] at hl
                rw [← hl] at p1
                exact p1.elim
    · rw [if_neg hg] at hl
      rw [← hl] at p1
      exact p1.elim
  · -- the end
    have hi' : i = wg.1.length := by omega
    rw [List.drop_eq_nil_of_le (by omega)] at hl
    unfold lcRunX at hl
    by_cases hg : gdB wg.2 st2 = true
    · rw [if_pos hg] at hl
      rw [← hl] at p1
      exact .inl ⟨(hJ F2 μ2 st2 H2 x2.fr x2.pre r2 (gdB_ok hg) i).1 hi', mkL_at r2 x2 D2 DF2 hD hDv racc p1⟩
    · rw [if_neg hg] at hl
      rw [← hl] at p1
      exact p1.elim
end G

set_option Elab.async false
set_option linter.all false
set_option maxRecDepth 100000
set_option maxHeartbeats 4000000
/-! zip of a list and a tuple -/
namespace G
open PySem PySem.Spec PyProof.Rows L2
/-! five places -/
theorem five {p : Addr → Prop} {a b c d e x : Addr} (h : x ∈ [a, b, c, d, e]) (pa : p a) (pb : p b) (pc : p c) (pd : p d) (pe : p e) : p x := by
  simp only [List.mem_cons, List.not_mem_nil, or_false] at h
  rcases h with rfl | rfl | rfl | rfl | rfl <;> assumption
theorem out5 {a b c d e x : Addr} (h : x ∉ [a, b, c, d, e]) : x ≠ a ∧ x ≠ b ∧ x ≠ c ∧ x ≠ d ∧ x ≠ e := by simpa using h
/-! what zip(a list, a tuple) lays -/
abbrev oLI (l : Addr) : Obj := { cls := .type "list_iterator", data := .fields #[.ref l, .int 0 0] }
abbrev oTI (l : Addr) : Obj := { cls := .type "tuple_iterator", data := .fields #[.ref l, .int 0 0] }
abbrev oPr (x y : Value) : Obj := { cls := .type "tuple", data := .seq #[x, y] }
abbrev oZp (p q : Addr) : Obj := { cls := .type "zip", data := .fields #[.none, .bool false, .bool false, .ref p, .ref q] }
def laid5 (h : Heap) (l m : Addr) : Heap :=
  ((((h.push (oLI l)).push (oTI m)).push (oPr (.ref h.objs.size) (.ref (h.push (oLI l)).objs.size))).push (oPr .none .none)).push (oZp ((h.push (oLI l)).push (oTI m)).objs.size (((h.push (oLI l)).push (oTI m)).push (oPr (.ref h.objs.size) (.ref (h.push (oLI l)).objs.size))).objs.size)
def last5 (h : Heap) (l m : Addr) : Addr := ((((h.push (oLI l)).push (oTI m)).push (oPr (.ref h.objs.size) (.ref (h.push (oLI l)).objs.size))).push (oPr .none .none)).objs.size
theorem laid5_keeps (h : Heap) (l m : Addr) {c : Addr} {o : Obj} (x : h.get? c = some o) : (laid5 h l m).get? c = some o := by
  unfold laid5
  iterate 5 refine Heap.get?_push_of_some _ ?_
  exact x
/-- the state of such a zip before round i -/
structure ZSt (z p q i1 i2 l m : Addr) (i : Nat) (h : Heap) : Prop where
  zp : IsZip h z p q .none
  pr : IsPair h p (.ref i1) (.ref i2)
  ot : ∃ x y, IsPair h q x y
  fs : h.IsListIter i1 l i
  sn : h.IsTupleIter i2 m i
theorem laid5_st (h : Heap) (l m : Addr) : last5 h l m = h.objs.size + 4 ∧ ZSt (h.objs.size + 4) (h.objs.size + 2) (h.objs.size + 3) h.objs.size (h.objs.size + 1) l m 0 (laid5 h l m) := by
  have s1 : (h.push (oLI l)).objs.size = h.objs.size + 1 := Heap.size_push _ _
  have s2 : ((h.push (oLI l)).push (oTI m)).objs.size = h.objs.size + 2 := (Heap.size_push _ _).trans (by rw [s1])
  have s3 : (((h.push (oLI l)).push (oTI m)).push (oPr (.ref h.objs.size) (.ref (h.push (oLI l)).objs.size))).objs.size = h.objs.size + 3 := (Heap.size_push _ _).trans (by rw [s2])
  have s4 : last5 h l m = h.objs.size + 4 := (Heap.size_push _ _).trans (by rw [s3])
  have at5 : (laid5 h l m).get? (last5 h l m) = some (oZp ((h.push (oLI l)).push (oTI m)).objs.size (((h.push (oLI l)).push (oTI m)).push (oPr (.ref h.objs.size) (.ref (h.push (oLI l)).objs.size))).objs.size) := Heap.get?_push_size _ rfl
  have at4 : (laid5 h l m).get? (((h.push (oLI l)).push (oTI m)).push (oPr (.ref h.objs.size) (.ref (h.push (oLI l)).objs.size))).objs.size = some (oPr .none .none) := by
    unfold laid5
    iterate 1 refine Heap.get?_push_of_some _ ?_
    exact Heap.get?_push_size _ rfl
  have at3 : (laid5 h l m).get? ((h.push (oLI l)).push (oTI m)).objs.size = some (oPr (.ref h.objs.size) (.ref (h.push (oLI l)).objs.size)) := by
    unfold laid5
    iterate 2 refine Heap.get?_push_of_some _ ?_
    exact Heap.get?_push_size _ rfl
  have at2 : (laid5 h l m).get? (h.push (oLI l)).objs.size = some (oTI m) := by
    unfold laid5
    iterate 3 refine Heap.get?_push_of_some _ ?_
    exact Heap.get?_push_size _ rfl
  have at1 : (laid5 h l m).get? h.objs.size = some (oLI l) := by
    unfold laid5
    iterate 4 refine Heap.get?_push_of_some _ ?_
    exact Heap.get?_push_size _ rfl
  rw [s4, s2, s3] at at5
  rw [s3] at at4
  rw [s2, s1] at at3
  rw [s1] at at2
  exact ⟨s4, ⟨at5, at3, ⟨_, _, at4⟩, ⟨_, at1, rfl, rfl⟩, ⟨_, at2, rfl, rfl⟩⟩⟩
namespace ZSt
variable {z p q i1 i2 l m : Addr} {i : Nat} {h h' : Heap}
theorem lt (t : ZSt z p q i1 i2 l m i h) {c : Addr} (hc : c ∈ [z, p, q, i1, i2]) : c < h.objs.size := by
  obtain ⟨t1, t2, ⟨_, _, t3⟩, ⟨_, t4, _⟩, ⟨_, t5, _⟩⟩ := t
  exact five (p := fun c => c < h.objs.size) hc (Heap.lt_size t1) (Heap.lt_size t2) (Heap.lt_size t3) (Heap.lt_size t4) (Heap.lt_size t5)
theorem move (t : ZSt z p q i1 i2 l m i h) (k : ∀ c ∈ [z, p, q, i1, i2], ∀ o, h.get? c = some o → h'.get? c = some o) : ZSt z p q i1 i2 l m i h' := by
  obtain ⟨t1, t2, ⟨x, y, t3⟩, t4, t5⟩ := t
  have in1 : z ∈ [z, p, q, i1, i2] := by simp
  have in2 : p ∈ [z, p, q, i1, i2] := by simp
  have in3 : q ∈ [z, p, q, i1, i2] := by simp
  have in4 : i1 ∈ [z, p, q, i1, i2] := by simp
  have in5 : i2 ∈ [z, p, q, i1, i2] := by simp
  exact ⟨k _ in1 _ t1, k _ in2 _ t2, ⟨x, y, k _ in3 _ t3⟩, t4.at (k _ in4), t5.at (k _ in5)⟩
/-- the two iterators and the zip lie apart -/
theorem sep (D : ZipApart z p q i1 i2 l m) : ZipSep2 z p q i1 i2 [i1, l] [i2, m] := by
  have := D.TIz; have := D.TOz; have := D.TITO; have := D.TIi1; have := D.TIi2
  have := D.TOi1; have := D.TOi2; have := D.i12; have := D.i1z; have := D.i2z
  have := D.l1z; have := D.l2z; have := D.l1TO; have := D.l2TO; have := D.l1i2; have := D.l2i1
  constructor <;> simp [eq_comm] at * <;> simp [*]
end ZSt
theorem meets_laid5 (l m : Addr) (xs ys : Array Value) :
    Meets (Builtin.«zip.__new__» ⟨[.type "zip", .ref l, .ref m], []⟩) (fun _ R s => s.heap.IsList l xs ∧ s.heap.IsTuple m ys ∧ R (.ok (.ret (.ref (last5 s.heap l m)))) { s with heap := laid5 s.heap l m }) :=
  .of_wp fun prog w A R s y => by
    obtain ⟨h0, g0, d0, t0, o0⟩ := s
    obtain ⟨yl, ym, yr⟩ := y
    have := sub_zip
    have il : (Shared.heap ⟨h0, g0, d0, t0, o0⟩).IsList l xs := yl
    have im : (Shared.heap ⟨h0.push (oLI l), g0, d0, t0, o0⟩).IsTuple m ys := Heap.IsTuple.push ym _
    wp_walk using wpAny_pyIter_list il, wpAny_pyIter_tuple im
    exact ⟨_, rfl, yr⟩
theorem call_laid5 {prog : Program} {w : World} {A : Around} {E : Value → Shared → Prop} {s : Shared} {l m : Addr} {xs ys : Array Value} {Q : Value → Shared → Prop} (il : s.heap.IsList l xs) (im : s.heap.IsTuple m ys)
    (go : ZSt (s.heap.objs.size + 4) (s.heap.objs.size + 2) (s.heap.objs.size + 3) s.heap.objs.size (s.heap.objs.size + 1) l m 0 (laid5 s.heap l m) → Q (.ref (s.heap.objs.size + 4)) { s with heap := laid5 s.heap l m }) :
    wpAny (model prog w) A (call (.type "zip") [.ref l, .ref m]) Q E s := by
  obtain ⟨e4, st⟩ := laid5_st s.heap l m
  have fin := go st
  rw [← e4] at fin
  have nm : ((laid5 s.heap l m).get? (last5 s.heap l m)).map (·.cls) = some (.type "zip") := by rw [e4, st.zp]; rfl
  refine callType_new F.called_zip (by decide) (F.typeCall_zip_2 _ _) (F.newCall_zip_2 _ _) (fun o => F.args_object_init_3 o _ _) F.entry_zip_new (meets_laid5 l m xs ys) ⟨il, im, ⟨_, (by rw [e4]; exact st.zp), rfl⟩, fin⟩
/-- a list at a and a tuple at b, the items in new pairs -/
def ItzLT (K : PySem.W.Frag) (a b : Addr) : It where
  go i H := ∃ (xs ys : List V) (x y : V), SqL K H a xs ∧ SqT K H b ys ∧ xs[i]? = some x ∧ ys[i]? = some y
  yld i H v H' := ∃ T x y, v = .ref T ∧ H T = none ∧ H' = upd H T (.tup [x, y]) ∧ (∀ xs, SqL K H a xs → xs[i]? = some x) ∧ ∀ ys, SqT K H b ys → ys[i]? = some y
  stop i H := ∃ xs ys : List V, SqL K H a xs ∧ SqT K H b ys ∧ i ≤ xs.length ∧ i ≤ ys.length ∧ (i = xs.length ∨ i = ys.length)
theorem at_is {l : List Value} {i : Nat} {u v : Value} (e1 : l[i]? = some u) (e2 : l.toArray[i]? = some v) : v = u := by
  have e3 : l[i]? = some v := by rw [← List.getElem?_toArray]; exact e2
  exact Option.some.inj (e3.symm.trans e1)
theorem turn_zLT {P : Program} {w : World} {K : PySem.W.Frag} {elts : List Expr} {kk : Nat} {tpos : Pos} {a b z p q i1 i2 : Addr} (D : ZipApart z p q i1 i2 a b) :
    Turn P w K (.Tuple elts kk tpos) (ItzLT K a b) [z, p, q, i1, i2] z (ZSt z p q i1 i2 a b) where
  mem := List.mem_cons_self ..
  self _ _ _ _ _ t g := wpAny_pyIter_zip t.zp g
  keep _ _ _ t k := t.move k
  obj _ _ t c hc := by
    obtain ⟨t1, t2, ⟨_, _, t3⟩, ⟨o4, t4, _, d4⟩, ⟨o5, t5, _, d5⟩⟩ := t
    refine five (p := fun c => ∃ o, Heap.get? _ c = some o ∧ ∀ v, o.data ≠ .cell v) hc ⟨_, t1, ?_⟩ ⟨_, t2, ?_⟩ ⟨_, t3, ?_⟩ ⟨_, t4, ?_⟩ ⟨_, t5, ?_⟩ <;> intro v y <;> first | (rw [d4] at y; cases y) | (rw [d5] at y; cases y) | cases y
  item := by
    rintro X rfl rfl rfl calm i pins s σ H E I fp t ⟨xs, ys, x, y, sx, sy, gx, gy⟩
    obtain ⟨us, rx, lx, _⟩ := I.list sx
    obtain ⟨ws, ry, ly, _⟩ := I.tuple sy
    obtain ⟨u, eu, ru⟩ := rx.get gx
    obtain ⟨v, ev, rv⟩ := ry.get gy
    have hd := I.ok.hd calm
    have zlt : z < s.heap.objs.size := t.lt (List.mem_cons_self ..)
    obtain ⟨q1, q2, eq⟩ := t.ot
    refine wpAny_pyNext_zipD2_item (ZSt.sep D) (.list (prog := X.prog) (w := X.w) (A := X.A.in1) hd i1 a D.l1i1 us.toArray) (.tuple (prog := X.prog) (w := X.w) (A := X.A.in1) hd i2 b D.l2i2 ws.toArray) t.zp t.pr eq ⟨t.fs, lx.isList⟩ ⟨t.sn, ly⟩
      (by simpa using (List.getElem?_eq_some_iff.mp eu).1) (by simpa using (List.getElem?_eq_some_iff.mp ev).1) fun y1 y2 h' tk e1 e2 z' o' f' g' new _ kept => ?_
    cases at_is eu e1
    cases at_is ev e2
    refine ⟨_, rfl, wpAny_letOwnedTupleGo_zip (s := { s with heap := h', toks := tk }) z' fun h2 z2 sb => ?_⟩
    have old : ∀ c o, c ∉ [z, p, q, i1, i2] → s.heap.get? c = some o → h2.get? c = some o := fun c o nc e => by
      obtain ⟨n1, _, n3, n4, n5⟩ := out5 nc
      exact (sb.2 c n1).trans (kept c o n1 n3 n4 n5 e)
    have pair : h2.get? s.heap.objs.size = some (oPr u v) := (sb.2 _ (Nat.ne_of_gt zlt)).trans new
    have I' : Inv X pins σ (upd H s.heap.objs.size (.tup [x, y])) { s with heap := h2, toks := tk } :=
      I.turnedNew (t' := tk) (ch := [z, p, q, i1, i2]) (fun c o nc e => old c o nc e) fp (Nat.le_refl _) ⟨by show 2 ≤ sizeLine; decide, [u, v], .cons ru (.cons rv .nil), _, pair, rfl, _, rfl⟩
    refine ⟨.ref s.heap.objs.size, _, I', rfl, ⟨_, x, y, rfl, I.hok.fresh (Nat.le_refl _), rfl, fun l e => by rw [I.list_inj e sx, gx], fun l e => by rw [I.tuple_inj e sy, gy]⟩, ⟨z2, ?_, ⟨u, v, ?_⟩, f'.1.at fun o => ?_, g'.1.at fun o => ?_⟩, fun c hc => ?_⟩
    · exact Eq.trans (sb.2 p D.TIz) (kept p _ D.TIz D.TITO D.TIi1 D.TIi2 t.pr)
    · exact Eq.trans (sb.2 q D.TOz) o'
    · exact Eq.trans (sb.2 i1 D.i1z)
    · exact Eq.trans (sb.2 i2 D.i2z)
    · exact (upd_ne (Nat.ne_of_lt (t.lt hc))).trans (fp c hc).1
  done := by
    rintro X rfl rfl rfl calm i pins s σ H E I fp t ⟨xs, ys, sx, sy, c1, c2, c3⟩
    obtain ⟨us, rx, lx, _⟩ := I.list sx
    obtain ⟨ws, ry, ly, _⟩ := I.tuple sy
    have n1 := rx.length
    have n2 := ry.length
    have hd := I.ok.hd calm
    obtain ⟨q1, q2, eq⟩ := t.ot
    refine wpAny_pyNext_zipD2_end (ZSt.sep D) (.list (prog := X.prog) (w := X.w) (A := X.A.in1) hd i1 a D.l1i1 us.toArray) (.tuple (prog := X.prog) (w := X.w) (A := X.A.in1) hd i2 b D.l2i2 ws.toArray) t.zp t.pr eq ⟨t.fs, lx.isList⟩ ⟨t.sn, ly⟩
      (by simp; omega) (by simp; omega) (by simp; omega) fun h' tk kept => ⟨rfl, I.turnedL (t' := tk) (ch := [z, p, q, i1, i2]) (fun c o nc e => ?_) fp⟩
    obtain ⟨m1, _, m3, m4, m5⟩ := out5 nc
    exact kept c o m1 m3 m4 m5 e
def iZipLT (K : PySem.W.Frag) (ta : TA) : TI := fun σ H R => ta σ H fun vs H1 => ∃ a b xs ys, vs = [.ref a, .ref b] ∧ SqL K H1 a xs ∧ SqT K H1 b ys ∧ R (ItzLT K a b) H1
theorem two_refs {a b : Addr} {us : List Value} (r : Vals [V.ref a, V.ref b] us) : us = [.ref a, .ref b] := by
  cases r with
  | cons r1 r2 => cases r2 with
    | cons r3 r4 => cases r4; cases r1; cases r3; rfl
theorem pi_zLT {X : Cx} {e e2 : Expr} {ta : TA} {p pos tpos : Pos} {elts : List Expr} {kk : Nat} (hg : Gl X "zip") (hm : X.mg "zip" = none) (ha : PA X [e, e2] ta) (hs : starEach [e, e2] X.env = (false, eval e X.env) :: starEach [e2] X.env := by rfl)
    (hpl : (backTo pos (starEach [e2] X.env)).any (·.1) = false := by rfl) : PI X (.Tuple elts kk tpos) (.Call (.Name "zip" p) [e, e2] [] pos) (iZipLT X.K ta) where
  run pins s σ H R I h := by
    refine Call_ (ld_blt I hg hm PyProof.Rows.boot_zip (PyProof.Rows.callWith_type1 (thn (ha.run pos pins s σ H _ I h) ?_) hs hpl))
    rintro us s1 ⟨_, H1, I1, r1, a, b, xs, ys, rfl, sx, sy, go⟩
    cases two_refs r1
    obtain ⟨us, _, la, _⟩ := I1.list sx
    obtain ⟨ws, _, lb, _⟩ := I1.tuple sy
    obtain ⟨ob, eb, _⟩ := id lb
    refine call_laid5 la.isList (show s1.heap.IsTuple b ws.toArray from lb) fun st => ?_
    refine wpAny_pyIter_zip st.zp ?_
    refine ⟨_, _, _, _, H1, rfl, I1.kept (t' := s1.toks) fun c o => laid5_keeps s1.heap a b, turn_zLT (PySem.W.ktu_apart s1.heap.objs.size a b la.lt (Heap.lt_size eb)), st, fun c hc => ?_, go⟩
    have hi : s1.heap.objs.size ≤ c := five (p := fun c => s1.heap.objs.size ≤ c) hc (Nat.le_add_right ..) (Nat.le_add_right ..) (Nat.le_add_right ..) (Nat.le_refl _) (Nat.le_add_right ..)
    exact I1.fpOk hi (I1.hok.fresh hi)
end G

set_option Elab.async false
set_option linter.all false
set_option maxRecDepth 100000
set_option maxHeartbeats 4000000
namespace G
open PySem PySem.Spec PyProof.Rows L2
/-! ### zip of a list and a tuple -/
def pairsV (a b : List Va) : List Va := List.zipWith (fun x y => .tup [x, y]) a b
def zipV (l : List Va) (st : Sto) : R (List Va × Gd) := match l with
  | [.lst a, .tup b] => .ok (pairsV a b, none) st
  | _ => .stuck
def mZip (ml : Mx (List Va)) : Mx (List Va × Gd) := fun env st => (ml env st).bind zipV
section
variable {X : Cx} {ct : Ct} {W : WX}
theorem iter_zLT {K : PySem.W.Frag} {F : Hp} {μ : List Addr} {a b : Addr} {ws ws2 : List Va} {vs vs2 : List V} (rs : RVs K F μ ws vs) (rs2 : RVs K F μ ws2 vs2) (h1 : F a = some (.lst vs)) (h2 : SqT K F b vs2) : IterOk K ct F μ (ItzLT K a b) (pairsV ws ws2, none) := by
  intro F' μ' st' H' e hp r hg i
  have q1 : SqL K H' a vs := .of (r.sub _ _ (e.sub _ _ h1))
  have q2 : SqT K H' b vs2 := r.sub0.tupl (e.tupl h2)
  have l1 := rs.length
  have l2 := rs2.length
  have lz : (pairsV ws ws2).length = min ws.length ws2.length := by simp [pairsV]
  refine ⟨fun hi => ⟨vs, vs2, q1, q2, ?_, ?_, ?_⟩, fun w hw => ?_⟩
  · simp only at hi; omega
  · simp only at hi; omega
  · simp only at hi; omega
  · simp only [pairsV, List.getElem?_zipWith] at hw
    cases e1 : ws[i]? with
    | none => rw [e1] at hw; cases hw
    | some x =>
      cases e2 : ws2[i]? with
      | none => rw [e1, e2] at hw; cases hw
      | some y =>
        rw [e1, e2] at hw
        cases hw
        obtain ⟨v, hv, rv⟩ := rs.get e1
        obtain ⟨v2, hv2, rv2⟩ := rs2.get e2
        refine ⟨⟨vs, vs2, v, v2, q1, q2, hv, hv2⟩, fun x' H'' yy => ?_⟩
        obtain ⟨T, x1, y1, rfl, nT, rfl, y3, y4⟩ := yy
        have f1 := y3 vs q1
        rw [hv] at f1
        cases f1
        have f2 := y4 vs2 q2
        rw [hv2] at f2
        cases f2
        exact ⟨_, .frz r nT _, r.frz nT _, .tup (.of upd_same) (.cons ((rv.mono e hp).mono (same_upd (r.nofrz nT)) List.prefix_rfl) (.cons ((rv2.mono e hp).mono (same_upd (r.nofrz nT)) List.prefix_rfl) .nil))⟩
theorem sim_zip {e e2 : Expr} {ml : Mx (List Va)} {p pos tpos : Pos} {elts : List Expr} {kk : Nat} (hg : Gl X "zip") (hm : X.mg "zip" = none) (ha : PA X [e, e2] (TA' X ct W ml)) (hs : starEach [e, e2] X.env = (false, eval e X.env) :: starEach [e2] X.env) (hpl : (backTo pos (starEach [e2] X.env)).any (·.1) = false) :
    PI X (.Tuple elts kk tpos) (.Call (.Name "zip" p) [e, e2] [] pos) (TI' X ct W (mZip ml)) := by
  refine PI.mono (pi_zLT hg hm ha hs hpl) fun σ H Q ⟨F, μ, env, st, r, re, p⟩ => ⟨F, μ, env, st, r, re, p.bind fun ws st1 F1 μ1 H1 vs _ x1 r1 rvs p1 => ?_⟩
  unfold zipV at p1
  split at p1
  · cases rvs with
    | cons ra rr =>
      cases rr with
      | cons rb rr =>
        cases rr
        cases ra with
        | lst hs1 rs1 =>
          cases rb with
          | tup hs2 rs2 => exact ⟨_, _, _, _, rfl, .of (r1.sub _ _ hs1), r1.sub0.tupl hs2, p1.here r1 (iter_zLT rs1 rs2 hs1 hs2)⟩
  · exact p1.elim
/-! ### the keys of a dict -/
def kyV : Ky → Va
  | .inl i => .int i
  | .inr t => .str t
def dicI (w : Va) (st : Sto) : R (List Va × Gd) := match w with
  | .dic ks _ => .ok (ks.map kyV, none) st
  | _ => .stuck
def mDicI (m : Mx Va) : Mx (List Va × Gd) := fun env st => (m env st).bind dicI
/-- a dict is locked for good -/
theorem wk_lock {F : Hp} {d : Addr} {kvs : List (Key × V)} (hF : F d = some (.dK kvs)) (od : Obj) : Wk F (upd F d (.frz od (.dK kvs))) := fun b o h => by
  by_cases hb : b = d
  · rw [hb, hF] at h
    cases h
    rw [hb]
    exact .inr ⟨od, kvs, rfl, upd_same⟩
  · rw [upd_ne hb]
    exact .inl h
section
variable {K : PySem.W.Frag} {F H : Hp} {μ : List Addr} {st : Sto} {d : Addr} {kvs : List (Key × V)}
theorem dis_ne (r : Rel K ct F μ st H) (hF : F d = some (.dK kvs)) {p : Nat} {o : Ob} {a : Addr} (e1 : st[p]? = some (some o)) (e2 : μ[p]? = some a) : a ≠ d := fun z => by
  have := r.dis p o a e1 e2
  rw [z, hF] at this
  cases this
theorem tab_ne (r : Rel K ct F μ st H) (hF : F d = some (.dK kvs)) {P : Addr} (m : P ∈ ct.tps) : P ≠ d := fun z => by
  have := (r.tabs P m).2
  rw [z, hF] at this
  cases this
theorem Rel.lock (r : Rel K ct F μ st H) (hF : F d = some (.dK kvs)) (hH : H d = some (.dK kvs)) (od : Obj) : Rel K ct (upd F d (.frz od (.dK kvs))) μ st (upd H d (.frz od (.dK kvs))) where
  sub0 := r.sub0.both
  len := r.len
  obj p o a e1 e2 := (r.obj p o a e1 e2).mono (wk_lock hF od) List.prefix_rfl (upd_ne (dis_ne r hF e1 e2))
  dis p o a e1 e2 := by rw [upd_ne (dis_ne r hF e1 e2)]; exact r.dis p o a e1 e2
  inj := r.inj
  mtr a m := upd_there (r.mtr a m)
  tabs P m := ⟨tabG_upd (r.tabs P m).1 (nt_mut hH trivial), by rw [upd_ne (tab_ne r hF m)]; exact (r.tabs P m).2⟩
theorem Ext.lock (hF : F d = some (.dK kvs)) (hH : H d = some (.dK kvs)) (od : Obj) : Ext F μ H (upd F d (.frz od (.dK kvs))) μ (upd H d (.frz od (.dK kvs))) where
  fr := wk_lock hF od
  pre := List.prefix_rfl
  keep0 a o h n nt := by
    by_cases ha : a = d
    · rw [ha, hH] at h
      cases h
      rw [ha]
      exact .inr ⟨od, kvs, rfl, hF, upd_same⟩
    · rw [upd_ne ha]; exact .inl h
  tab P t := tabG_upd t (nt_mut hH trivial)
  new a h := by
    by_cases ha : a = d
    · rw [ha, hF]; exact .inl fun z => nomatch z
    · rw [upd_ne ha] at h; exact .inl h
  mnew a m := .inl m
  there a h := upd_there h
theorem Rel.lock2 (r : Rel K ct F μ st H) (hF : F d = some (.dK kvs)) {od : Obj} (hH : H d = some (.frz od (.dK kvs))) : Rel K ct (upd F d (.frz od (.dK kvs))) μ st H where
  sub0 := r.sub0.left hH
  len := r.len
  obj p o a e1 e2 := (r.obj p o a e1 e2).mono (wk_lock hF od) List.prefix_rfl rfl
  dis p o a e1 e2 := by rw [upd_ne (dis_ne r hF e1 e2)]; exact r.dis p o a e1 e2
  inj := r.inj
  mtr := r.mtr
  tabs P m := ⟨(r.tabs P m).1, by rw [upd_ne (tab_ne r hF m)]; exact (r.tabs P m).2⟩
theorem Ext.lock2 (hF : F d = some (.dK kvs)) {od : Obj} : Ext F μ H (upd F d (.frz od (.dK kvs))) μ H where
  fr := wk_lock hF od
  pre := List.prefix_rfl
  keep0 a o h n nt := .inl h
  tab P t := t
  new a h := by
    by_cases ha : a = d
    · rw [ha, hF]; exact .inl fun z => nomatch z
    · rw [upd_ne ha] at h; exact .inl h
  mnew a m := .inl m
  there a h := h
theorem iter_dic {od : Obj} {ks : List Ky} (h : F d = some (.frz od (.dK kvs))) (hk : kvs.map (·.1) = ks.map kyK) : IterOk K ct F μ (Itk d od kvs) (ks.map kyV, none) := by
  intro F' μ' st' H' e _ r _ i
  have q : H' d = some (.frz od (.dK kvs)) := r.sub _ _ (e.sub _ _ h)
  have hl : kvs.length = ks.length := by simpa using congrArg List.length hk
  refine ⟨fun hi => ⟨q, by simp at hi; omega⟩, fun w hw => ?_⟩
  rw [List.getElem?_map] at hw
  obtain ⟨k, hki, rfl⟩ := Option.map_eq_some_iff.mp hw
  have hi := (List.getElem?_eq_some_iff.mp hki).1
  refine ⟨⟨q, by omega⟩, fun x H'' y => ?_⟩
  obtain ⟨rfl, k', v, e1, rfl⟩ := y
  have e2 : kvs[i]?.map (·.1) = ks[i]?.map kyK := by rw [← List.getElem?_map, ← List.getElem?_map, hk]
  rw [e1, hki] at e2
  have e3 : k' = kyK k := Option.some.inj e2
  subst e3
  refine ⟨F', .refl, r, ?_⟩
  cases k with
  | inl i => exact .int i
  | inr t => exact .str t
end
/-- what is reckoned, locked where it is a dict -/
theorem pe_locked {e : Expr} {t : TE} (h : PE X e t) : PE X e (fun σ H Q => t σ H fun x H1 => Q x H1 ∨ ∃ d kvs, x = .ref d ∧ H1 d = some (.dK kvs) ∧ ∀ od, Q x (upd H1 d (.frz od (.dK kvs)))) where
  run pins s σ H Q I q := thn (h.run pins s σ H _ I q) fun u s1 ⟨x, H1, I1, rx, p⟩ => by
    rcases p with p | ⟨d, kvs, e1, e2, p⟩
    · exact ⟨x, H1, I1, rx, p⟩
    · obtain ⟨od, I2⟩ := I1.lock e2 trivial
      exact ⟨x, _, I2, rx, p od⟩
theorem sim_dicI {tg e : Expr} {m : Mx Va} (ha : PE X e (TE' X ct W m)) : PI X tg e (TI' X ct W (mDicI m)) := by
  refine PI.mono (pi_keys (pe_locked ha)) fun σ H Q ⟨F, μ, env, st, r, re, p⟩ => ⟨F, μ, env, st, r, re, p.bind fun w st1 F1 μ1 H1 v _ x1 r1 rv p1 => ?_⟩
  unfold dicI at p1
  split at p1
  · cases rv with
    | @dic d _ _ kvs hF hk rs =>
      rcases hF with hF | ⟨od, hF⟩
      · rcases r1.sub0 d _ hF with hH | ⟨od, kvs', e9, hH⟩
        · exact .inr ⟨d, kvs, rfl, hH, fun od => ⟨d, od, rfl, .inl ⟨kvs, upd_same, p1 _ _ _ _ (Ext.lock hF hH od) (r1.lock hF hH od) (iter_dic upd_same hk)⟩⟩⟩
        · cases e9
          exact .inl ⟨d, od, rfl, .inl ⟨kvs, hH, p1 _ _ _ _ (Ext.lock2 hF) (r1.lock2 hF hH) (iter_dic upd_same hk)⟩⟩
      · exact .inl ⟨d, od, rfl, .inl ⟨kvs, r1.sub _ _ hF, p1 _ _ _ _ .refl r1 (iter_dic hF hk)⟩⟩
  · exact p1.elim
end
end G

set_option Elab.async false
set_option linter.all false
set_option maxRecDepth 100000
set_option maxHeartbeats 4000000
namespace G
open PySem PySem.Spec PyProof.Rows L2

/-! ### the syntax -/
inductive BOp | add | sub | mul | fdiv | mod | pow
inductive COp | eq | ne | lt | le | gt | ge | in_ | notIn | is_ | isNot
inductive Bif | len | list | tuple | str | int
inductive Mth | append | extend | pop | insert | join | find | lstrip | isalnum | isdigit | get | split | setdefault | index
inductive T where
  | nil | cons (a b : T)
  | var (i : Nat) | glob (x : Str) | int (i : Int) | str (s : Tx) | bl (b : Bool) | non
  | bin (op : BOp) (m : Bool) (a b : T) | neg (a : T) | not (a : T)
  | cmp (op : COp) (a b : T) | cmp2 (op op' : COp) (a b c : T)
  | and (l : T) | or (l : T) | ife (c a b : T)
  | tup (l : T) | lst (m : Bool) (l : T)
  | ix (a i : T) | sl (m : Bool) (a lo hi : T)
  | call (f : Str) (m : Bool) (l : T) | bif (b : Bif) (m : Bool) (l : T) | isi (c : String) (a : T) | mth (k : Mth) (o l : T)
  | lc (m : Bool) (vs : List Nat) (tg : Tg) (it c e : T)
  | lc2 (m : Bool) (vs vs1 : List Nat) (tg : Tg) (it c : T) (tg1 : Tg) (it1 c1 e : T)
  | lrng (m : Bool) (a b : T)
  | irng (l : T) | ienum (l : T) | irev (a : T)
  | cbf (b : Cb) (m : Bool) (l : T) | dnew (m : Bool)
  | callK (f : Str) (m : Bool) (l : T) (k : Str) (e : T)
  | callM (f : Str) (l : T)
  | xf (i : Nat) (f : Str) | xi (i : Nat) (c : Str) | mm (mx : Bool) (l : T)
  | allS (f : Str) (gs : Tx) (a : T)
  | js (l : T) | fmt (a : T)
  | lcX (m : Bool) (vs : List Nat) (tg : Tg) (it c e : T)
  | izip (l : T) | idic (a : T)
  | anyL (all : Bool) (i : Nat) (vs : List Nat) (a : T) (t : QT)
  | callI (f : Str) (l : T) | mcall (q C m : Str) (o l : T) | mkC (q C : Str) (l : T) | fld (o : T) (f : Str)
  | mmD (mx : Bool) (a d : T) | kin (neg : Bool) (x : T) (k : Str) | kix (k : Str) (x : T)

def bopV (op : BOp) (m : Bool) : Va → Va → Sto → R Va := match op with
  | .add => addV m | .sub => subV | .mul => mulV m | .fdiv => fdivV | .mod => modV | .pow => powV
def bopS : BOp → Operator
  | .add => .Add | .sub => .Sub | .mul => .Mult | .fdiv => .FloorDiv | .mod => .Mod | .pow => .Pow
def copV (op : COp) : Va → Va → Sto → R Va := match op with
  | .eq => eqV false | .ne => eqV true | .lt => cmpV fun i j => decide (i < j) | .le => cmpV fun i j => decide (i ≤ j) | .gt => cmpV fun i j => decide (j < i) | .ge => cmpV fun i j => decide (j ≤ i)
  | .in_ => inV' false | .notIn => inV' true | .is_ => isNV false | .isNot => isNV true
def copS : COp → CmpOp
  | .eq => .Eq | .ne => .NotEq | .lt => .Lt | .le => .LtE | .gt => .Gt | .ge => .GtE | .in_ => .In | .notIn => .NotIn | .is_ => .Is | .isNot => .IsNot
def bifV (b : Bif) (m : Bool) : List Va → Sto → R Va := match b with
  | .len => lenV | .list => listV m | .tuple => tupleV | .str => strV | .int => toIntV
def bifN : Bif → Str
  | .len => "len" | .list => "list" | .tuple => "tuple" | .str => "str" | .int => "int"
def mthV (k : Mth) : Va → List Va → Sto → R Va := match k with
  | .append => appendV | .extend => extendV | .pop => popV | .insert => insertV | .join => joinV | .find => findV | .lstrip => lstripV | .isalnum => isalnumV | .isdigit => isdigitV | .get => getV | .split => splitV | .setdefault => setdV | .index => indexV
def mthN : Mth → Str
  | .append => "append" | .extend => "extend" | .pop => "pop" | .insert => "insert" | .join => "join" | .find => "find" | .lstrip => "lstrip" | .isalnum => "isalnum" | .isdigit => "isdigit" | .get => "get" | .split => "split" | .setdefault => "setdefault" | .index => "index"
def mthT : Mth → String
  | .append => "list" | .extend => "list" | .pop => "list" | .insert => "list" | .index => "list" | .get => "dict" | .setdefault => "dict" | _ => "str"

/-! ### what it means -/
structure Den where
  e : Mx Va
  t : Mx Bool
  l : Mx (List Va)
  z : Bool
  an : Mx Va
  or : Mx Va
  ta : Mx Bool
  to : Mx Bool
  p : Mx (Option Int)
  i : Mx (List Va × Gd)
  j : List (Mx Va)
def mk (e : Mx Va) (t : Mx Bool) : Den := ⟨e, t, fun _ _ => .stuck, false, fun _ _ => .stuck, fun _ _ => .stuck, fun _ _ => .stuck, fun _ _ => .stuck, mPart e, mIt e, []⟩
def mkI (i : Mx (List Va × Gd)) : Den := ⟨fun _ _ => .stuck, fun _ _ => .stuck, fun _ _ => .stuck, false, fun _ _ => .stuck, fun _ _ => .stuck, fun _ _ => .stuck, fun _ _ => .stuck, fun _ _ => .stuck, i, []⟩
def mke (e : Mx Va) : Den := mk e (mTru e)
/-- is it of the type that the method is of -/
def tyB (T : String) (x : Va) (st : Sto) : Bool := if T = "list" then (lstOf x st).isSome else if T = "str" then (strOf x).isSome else if T = "dict" then (dicOf x st).isSome else false
def mMth (T : String) (g : Va → List Va → Sto → R Va) (mo : Mx Va) (ml : Mx (List Va)) : Mx Va := fun env st => (mo env st).bind fun x st => if tyB T x st then (ml env st).bind fun l st => g x l st else .stuck
def mTyes : Mx Bool := fun _ st => .ok true st
/-- the text that an own __init__ hands on: constants and parameters; what it keeps: a field's name, a parameter -/
inductive Pc where
  | c (s : Str) | p (i : Nat)
deriving DecidableEq
structure Ow where
  z : Tx
  n : Nat
  tx : List Pc
  fs : List (Str × Nat)
/-- what is known of the exception classes: is an exception of class z one of the class that is named c here; the class that 'raise c(text)' makes; has class z no attribute f of its own -/
structure Xs where
  sub : Tx → Str → Option Bool
  pl : Str → Option Tx
  fld : Tx → Str → Bool
  ow : Str → Option Ow := fun _ => none
  ofl : Tx → Str → Bool := fun _ _ => false
  kd : Str → Option (List (Tx × Va)) := fun _ => none
/-- module constants; defs; exception classes; the exception that is handled -/
structure Lm where
  gl : Str → Option Va
  fn : Str → Fn
  xs : Xs
  xh : Option Exc
  fi : Str → Fi := fun _ _ _ => .stuck
def xfV (L : Lm) (f : Str) : Mx Va := match L.xh with
  | some x => if L.xs.fld x.cls f then match x.fs.lookup f.cps.toList with
      | some w => mC w
      | none => fun _ _ => .stuck
    else fun _ _ => .stuck
  | none => fun _ _ => .stuck
def xiV (L : Lm) (c : Str) : Mx Va := match L.xh with
  | some x => match L.xs.sub x.cls c with
    | some b => mC (.bl b)
    | none => fun _ _ => .stuck
  | none => fun _ _ => .stuck
/-- min, max of two or three whole numbers -/
def mmV (mx : Bool) (l : List Va) (st : Sto) : R Va := match l with
  | [.int i, .int j] => .ok (.int (if mx then (if j > i then j else i) else (if j < i then j else i))) st
  | [.int i, .int j, .int k] => .ok (.int (if mx then (if k > (if j > i then j else i) then k else (if j > i then j else i)) else (if k < (if j < i then j else i) then k else (if j < i then j else i)))) st
  | _ => .stuck
/-- x in K, K[x] of a written dict -/
def kinV (l : List (Tx × Va)) (neg : Bool) (x : Va) (st : Sto) : R Va := match strOf x with
  | some z => .ok (.bl (if neg then !(l.lookup z).isSome else (l.lookup z).isSome)) st
  | none => .stuck
def kixV (l : List (Tx × Va)) (x : Va) (st : Sto) : R Va := match strOf x with
  | some z => match l.lookup z with
    | some w => .ok w st
    | none => .stuck
  | none => .stuck
def mU (g : Va → Sto → R Va) (ma : Mx Va) : Mx Va := fun env st => (ma env st).bind fun x st => g x st
def mKin (o : Option (List (Tx × Va))) (neg : Bool) (me : Mx Va) : Mx Va := match o with
  | some l => mU (kinV l neg) me
  | none => fun _ _ => .stuck
def mKix (o : Option (List (Tx × Va))) (me : Mx Va) : Mx Va := match o with
  | some l => mU (kixV l) me
  | none => fun _ _ => .stuck
def ev (L : Lm) : T → Den
  | .nil => ⟨fun _ _ => .stuck, mTyes, mNil, true, fun _ _ => .stuck, fun _ _ => .stuck, fun _ _ => .stuck, fun _ _ => .stuck, mNo, fun _ _ => .stuck, []⟩
  | .cons a b => ⟨fun _ _ => .stuck, fun _ _ => .stuck, mCons (ev L a).e (ev L b).l, false, if (ev L b).z then (ev L a).e else mAnd (ev L a).e (ev L b).an, if (ev L b).z then (ev L a).e else mOr (ev L a).e (ev L b).or,
      if (ev L b).z then (ev L a).t else mTAnd (ev L a).t (ev L b).ta, if (ev L b).z then (ev L a).t else mTOr (ev L a).t (ev L b).to, fun _ _ => .stuck, fun _ _ => .stuck, (ev L a).e :: (ev L b).j⟩
  | .var i => mke (mVar i)
  | .glob x => mke (match L.gl x with | some w => mC w | none => fun _ _ => .stuck)
  | .int i => mke (mC (.int i))
  | .str s => mke (mC (.str s))
  | .bl b => mke (mC (.bl b))
  | .non => mke (mC .non)
  | .bin op m a b => mke (mBin (bopV op m) (ev L a).e (ev L b).e)
  | .neg a => mke (mNeg (ev L a).e)
  | .not a => mk (mNot (ev L a).e) (mTNot (ev L a).t)
  | .cmp op a b => mk (mBin (copV op) (ev L a).e (ev L b).e) (mTst (mBin (copV op) (ev L a).e (ev L b).e))
  | .cmp2 op op' a b c => mk (mChain (copV op) (copV op') (ev L a).e (ev L b).e (ev L c).e) (mTst (mChain (copV op) (copV op') (ev L a).e (ev L b).e (ev L c).e))
  | .and l => mk (ev L l).an (ev L l).ta
  | .or l => mk (ev L l).or (ev L l).to
  | .ife c a b => mk (mIf (ev L c).t (ev L a).e (ev L b).e) fun _ _ => .stuck
  | .tup l => mke (mTup (ev L l).l)
  | .lst m l => mke (mLst m (ev L l).l)
  | .ix a i => mke (mBin ixV (ev L a).e (ev L i).e)
  | .sl m a lo hi => mke (mSlice m (ev L a).e (ev L lo).p (ev L hi).p)
  | .call f m l => mke (mFn (callP m (L.fn f)) (ev L l).l)
  | .callK f m l _ e => mke (mFn (callP m (L.fn f)) (mSnoc (ev L l).l (ev L e).e))
  | .callM f l => mke (mFn (callM (L.fn f)) (ev L l).l)
  | .cbf b m l => mke (mFn (cbV b m) (ev L l).l)
  | .dnew m => mke (mDnew m)
  | .bif b m l => mke (mFn (bifV b m) (ev L l).l)
  | .isi c a => mke (mIsi c (ev L a).e)
  | .mth k o l => mke (mMth (mthT k) (mthV k) (ev L o).e (ev L l).l)
  | .lc m vs tg it c e => mke (mLc m vs tg (ev L it).i (ev L c).t (ev L e).e)
  | .lc2 m vs vs1 tg it c tg1 it1 c1 e => mke (mLc2 m vs vs1 tg (ev L it).i (ev L c).t tg1 (ev L it1).i (ev L c1).t (ev L e).e)
  | .lrng m a b => mke (mLrg m (ev L a).e (ev L b).e)
  | .irng l => mkI (mRng (ev L l).l)
  | .ienum l => mkI (mEnum (ev L l).l)
  | .irev a => mkI (mRev (ev L a).e)
  | .xf _ f => mke (xfV L f)
  | .xi _ c => mke (xiV L c)
  | .mm mx l => mke (mFn (mmV mx) (ev L l).l)
  | .allS _ gs a => mke (mAllS gs (ev L a).e)
  | .js l => mke (mJs (ev L l).j [])
  | .fmt a => mke (mFmt (ev L a).e)
  | .lcX m vs tg it c e => mke (mLcX m vs tg (ev L it).i (ev L c).t (ev L e).e)
  | .izip l => mkI (mZip (ev L l).l)
  | .idic a => mkI (mDicI (ev L a).e)
  | .anyL all i vs a t => mke (mAnyL all i vs (ev L a).e t)
  | .callI f l => mke (mFn (L.fi f) (ev L l).l)
  | .mcall q C m o l => mke (mMcall (L.fi q) C m (ev L o).e (ev L l).l)
  | .mkC q C l => mke (mMkC (L.fi q) C (ev L l).l)
  | .fld o f => mke (mFld L.xs.ofl f (ev L o).e)
  | .mmD mx a d => mke (mBst mx (ev L a).e (ev L d).e)
  | .kin neg x k => mk (mKin (L.xs.kd k) neg (ev L x).e) (mTst (mKin (L.xs.kd k) neg (ev L x).e))
  | .kix k x => mke (mKix (L.xs.kd k) (ev L x).e)

/-! ### does it stand for this text -/
structure Sc where
  N : List Str
  sc : Scope
  gls : List Str
  fns : List (Str × List Str)
  bs : List Str
  fn : Str → Bool
  xn : List Str
  hot : Option (Option Nat)
  top : Bool
  gen : Bool
  sgn : List (Str × Tx)
def isLoc (c : Sc) (x : Str) : Bool := match c.sc.names.lookup x with
  | some .local => true | some .cell => true | some .free => true | _ => false
def isGl (c : Sc) (x : Str) : Bool := decide (c.sc.names.lookup x = some .globalImplicit)
def isB (c : Sc) (x : Str) : Bool := isGl c x && decide (x ∈ c.bs) && !(x == ("__debug__" : Str)) && !(x == ("__name__" : Str))
def okName (x : Str) : Bool := !(x == ("__debug__" : Str)) && !(x == ("__classdict__" : Str))
/-- a plain expression -/
def plainE : Expr → Bool
  | .Starred .. => false | .Slice .. => false | .Set .. => false | _ => true
/-- an expression that method calls may stand on -/
def baseE : Expr → Bool
  | .Call (.Name _ _) [] [] _ => false | _ => true
def plainOp : Expr → Bool
  | .UnaryOp .Not .. => false | .BoolOp .. => false | .IfExp .. => false | .Compare .. => false | _ => true
structure Chk where
  e : Sc → Expr → Bool
  t : Sc → Expr → Bool
  l : Sc → List Expr → Bool
  lt : Sc → List Expr → Bool
  p : Sc → Option Expr → Bool
  c : Sc → List Expr → Bool
  i : Sc → Expr → Expr → Bool
  j : Sc → List Expr → Bool
def ckE (f : Sc → Expr → Bool) : Chk := ⟨fun c e => plainE e && f c e, fun c e => plainE e && plainOp e && f c e, fun _ _ => false, fun _ _ => false, fun c o => match o with | some e => plainE e && f c e | none => false,
  fun c l => match l with | [e] => plainE e && plainOp e && f c e | _ => false, fun c _ e => plainE e && f c e, fun _ _ => false⟩
def ckT (f g : Sc → Expr → Bool) : Chk := ⟨fun c e => plainE e && f c e, fun c e => plainE e && g c e, fun _ _ => false, fun _ _ => false, fun c o => match o with | some e => plainE e && f c e | none => false,
  fun c l => match l with | [e] => plainE e && g c e | _ => false, fun c _ e => plainE e && f c e, fun _ _ => false⟩
/-- a name of one's own that may be written -/
def ownN (c : Sc) (x : Str) : Bool := match c.sc.names.lookup x with
  | some .local => true | some .cell => c.fn x | _ => false
/-- may slot j be written -/
def mayW (c : Sc) (j : Nat) : Bool := match c.hot with
  | some (some i) => !(j == i)
  | _ => true
/-- outside of except suites -/
def cold (c : Sc) : Bool := c.hot.isNone
def tgOk (c : Sc) (tg : Tg) (e : Expr) : Bool := match tg, e with
  | .inl i, .Name x _ => decide (c.N[i]? = some x) && ownN c x && mayW c i
  | .inr is, .Tuple es _ _ => cold c && decide (es.length = is.length) && (is.zip es).all fun p => match p.2 with
      | .Name x _ => decide (c.N[p.1]? = some x) && ownN c x
      | _ => false
  | _, _ => false
def blkSc (c : Sc) (scope : Scope) : Sc := { c with gen := false, top := false, sc := relS scope c.sc, fn := fun x => scope.names.lookup x == some .cell }
/-- the own scope of all(f(x) for x in ..) -/
def srcOk : Expr → Bool
  | .Name _ _ => true
  | .Call _ _ _ _ => true
  | .Subscript _ _ _ => true
  | _ => false
theorem srcOk_ok {e : Expr} (h : srcOk e = true) (env : Env) (v : Value) : genFold e env v = pure v := by
  cases e <;> first | rfl | (simp [srcOk] at h)
def genB (x f : Str) (s : Scope) : Bool := decide (s.kind = .function) && (!s.isCoroutine && (s.names.all (fun y => decide (y.2 ≠ .cell) && decide (y.2 ≠ .free)) && (decide (s.names.lookup (".0" : Str) = some NameKind.local) && (decide (s.names.lookup x = some .local) && (decide (s.names.lookup f = some .globalImplicit) && (okName x && okName f))))))
def ownOf (c : Sc) (vs : List Nat) : List (Str × Nat) := vs.map fun i => (c.N.getD i "", i)
def chk : T → Chk
  | .nil => ⟨fun _ _ => false, fun _ _ => false, fun _ l => match l with | [] => true | _ => false, fun _ l => match l with | [] => true | _ => false, fun _ o => match o with | none => true | _ => false, fun _ l => match l with | [] => true | _ => false, fun _ _ _ => false, fun _ l => match l with | [] => true | _ => false⟩
  | .cons a b => ⟨fun _ _ => false, fun _ _ => false, fun c l => match l with | x :: r => (chk a).e c x && (chk b).l c r | [] => false, fun c l => match l with | x :: r => (chk a).t c x && (chk b).lt c r | [] => false, fun _ _ => false, fun _ _ => false, fun _ _ _ => false, fun c l => match l with | x :: r => (chk a).e c x && (chk b).j c r | [] => false⟩
  | .var i => ckE fun c e => match e with | .Name x _ => decide (c.N[i]? = some x) && isLoc c x && okName x | _ => false
  | .glob y => ckE fun c e => match e with | .Name x _ => decide (x = y) && isGl c x && decide (x ∈ c.gls) && okName x | _ => false
  | .int i => ckE fun _ e => match e with | .Constant (.int j) _ _ => decide (j = i) | _ => false
  | .str s => ckE fun _ e => match e with | .Constant (.str x) _ _ => decide (x.cps.toList = s) | _ => false
  | .bl b => ckE fun _ e => match e with | .Constant (.bool x) _ _ => x == b | _ => false
  | .non => ckE fun _ e => match e with | .Constant .none _ _ => true | _ => false
  | .bin op _ a b => ckE fun c e => match e with | .BinOp x o y _ => decide (o = bopS op) && (chk a).e c x && (chk b).e c y | _ => false
  | .neg a => ckE fun c e => match e with | .UnaryOp .USub x _ => (chk a).e c x | _ => false
  | .not a => ckT (fun c e => match e with | .UnaryOp .Not x _ => (chk a).e c x | _ => false) (fun c e => match e with | .UnaryOp .Not x _ => (chk a).t c x | _ => false)
  | .cmp op a b => ckT (fun c e => match e with | .Compare x [o] [y] _ => decide (o = copS op) && (chk a).e c x && (chk b).e c y | _ => false) (fun c e => match e with | .Compare x [o] [y] _ => decide (o = copS op) && (chk a).e c x && (chk b).e c y | _ => false)
  | .cmp2 op op' a b d => ckT (fun c e => match e with | .Compare x [o, o'] [y, z] _ => decide (o = copS op) && decide (o' = copS op') && (chk a).e c x && (chk b).e c y && (chk d).e c z | _ => false)
      (fun c e => match e with | .Compare x [o, o'] [y, z] _ => decide (o = copS op) && decide (o' = copS op') && (chk a).e c x && (chk b).e c y && (chk d).e c z | _ => false)
  | .and l => ckT (fun c e => match e with | .BoolOp .And (x :: xs) _ => (chk l).l c (x :: xs) | _ => false) (fun c e => match e with | .BoolOp .And (x :: xs) _ => (chk l).lt c (x :: xs) | _ => false)
  | .or l => ckT (fun c e => match e with | .BoolOp .Or (x :: xs) _ => (chk l).l c (x :: xs) | _ => false) (fun c e => match e with | .BoolOp .Or (x :: xs) _ => (chk l).lt c (x :: xs) | _ => false)
  | .ife t a b => ckT (fun c e => match e with | .IfExp x y z _ => (chk t).t c x && (chk a).e c y && (chk b).e c z | _ => false) (fun _ _ => false)
  | .tup l => ckE fun c e => match e with | .Tuple es _ _ => (chk l).l c es | _ => false
  | .lst _ l => ckE fun c e => match e with | .List es _ => (chk l).l c es | _ => false
  | .ix a i => ckE fun c e => match e with | .Subscript x y _ => (chk a).e c x && (chk i).e c y | _ => false
  | .sl _ a lo hi => ckE fun c e => match e with | .Subscript x (.Slice l h none _) _ => (chk a).e c x && (chk lo).p c l && (chk hi).p c h | _ => false
  | .call f _ l => ckE fun c e => match e with | .Call (.Name x _) (y :: ys) [] _ => cold c && decide (x = f) && isGl c x && decide ((x, []) ∈ c.fns) && okName x && (chk l).l c (y :: ys) | _ => false
  | .callI f l => ckE fun c e => match e with | .Call (.Name x _) (y :: ys) [] _ => cold c && decide (x = f) && isGl c x && decide ((x, mk8) ∈ c.fns) && okName x && (chk l).l c (y :: ys) | _ => false
  | .mcall q C m o l => ckE fun c e => match e with
      | .Call (.Attribute x n apos) [] [] cpos => cold c && decide (n = m) && decide ((q, mkt C m) ∈ c.fns) && baseE x && (chk o).e c x && (chk l).l c [] && (apos.endLine == cpos.line)
      | .Call (.Attribute x n apos) (y :: ys) [] cpos => cold c && decide (n = m) && decide ((q, mkt C m) ∈ c.fns) && baseE x && (chk o).e c x && (chk l).l c (y :: ys) && (apos.endLine == cpos.line) && decide ((y :: ys).length < 20)
      | _ => false
  | .mkC q C l => ckE fun c e => match e with
      | .Call (.Name x _) [] [] _ => cold c && decide (x = C) && isGl c x && decide ((q, mkt C "__init__") ∈ c.fns) && okName x && (chk l).l c []
      | .Call (.Name x _) (y :: ys) [] _ => cold c && decide (x = C) && isGl c x && decide ((q, mkt C "__init__") ∈ c.fns) && okName x && (chk l).l c (y :: ys)
      | _ => false
  | .fld o f => ckE fun c e => match e with | .Attribute x n _ => decide (n = f) && baseE x && (chk o).e c x | _ => false
  | .mmD mx a d => ckE fun c e => match e with | .Call (.Name x _) [y] [⟨some kw, z, _⟩] _ => cold c && decide (x = if mx then "max" else "min") && isB c x && decide (kw = "default") && (chk a).e c y && (chk d).e c z | _ => false
  | .kin neg x k => ckT (fun c e => match e with | .Compare y [o] [.Name n _] _ => decide (o = if neg then .NotIn else .In) && (chk x).e c y && decide (n = k) && isGl c n && okName n | _ => false) (fun c e => match e with | .Compare y [o] [.Name n _] _ => decide (o = if neg then .NotIn else .In) && (chk x).e c y && decide (n = k) && isGl c n && okName n | _ => false)
  | .kix k x => ckE fun c e => match e with | .Subscript (.Name n _) y _ => decide (n = k) && isGl c n && okName n && (chk x).e c y | _ => false
  | .callM f l => ckE fun c e => match e with | .Call (.Name x _) (y :: ys) [] _ => cold c && decide (x = f) && isGl c x && decide ((x, mk7) ∈ c.fns) && okName x && (chk l).l c (y :: ys) | _ => false
  | .callK f _ l k v => ckE fun c e => match e with | .Call (.Name x _) (y :: ys) [⟨some kw, z, _⟩] _ => cold c && decide (x = f) && isGl c x && decide (kw = k) && decide ((x, [kw]) ∈ c.fns) && okName x && (chk l).l c (y :: ys) && (chk v).e c z | _ => false
  | .cbf b _ l => ckE fun c e => match e with | .Call (.Name x _) (y :: ys) [] _ => cold c && decide (x = cbN b) && isB c x && (chk l).l c (y :: ys) | _ => false
  | .dnew _ => ckE fun c e => match e with | .Dict [] [] _ => true | _ => false
  | .bif b _ l => ckE fun c e => match e with | .Call (.Name x _) (y :: ys) [] _ => decide (x = bifN b) && isB c x && (chk l).l c (y :: ys) | _ => false
  | .isi k a => ckE fun c e => match e with
      | .Call (.Name x _) [y, .Name z _] [] _ => decide (x = "isinstance") && isB c x && (chk a).e c y && isB c z && (match bootBuiltins z with | some (.type n) => decide (n = k) | _ => false)
      | _ => false
  | .mth k o l => ckE fun c e => match e with
      | .Call (.Attribute x n apos) [] [] cpos => decide (n = mthN k) && baseE x && (chk o).e c x && (chk l).l c [] && (apos.endLine == cpos.line)
      | .Call (.Attribute x n apos) (y :: ys) [] cpos => decide (n = mthN k) && baseE x && (chk o).e c x && (chk l).l c (y :: ys) && (apos.endLine == cpos.line) && decide ((y :: ys).length < 20)
      | _ => false
  | .lc _ vs tg it cd el => ckE fun c e => match e with
      | .ListComp elt [⟨t, i, ifs, 0⟩] scope _ => cold c && blkC c.N c.sc scope (ownOf c vs) && (tgIx tg).all (fun j => decide (j ∈ vs)) && (chk it).i c t i && plainE i && tgOk (blkSc c scope) tg t && (chk cd).c (blkSc c scope) ifs && (chk el).e (blkSc c scope) elt
      | _ => false
  | .lc2 _ vs vs1 tg it cd tg1 it1 cd1 el => ckE fun c e => match e with
      | .ListComp elt [⟨t, i, ifs, 0⟩, ⟨t1, i1, ifs1, 0⟩] scope _ => cold c && blkC c.N c.sc scope (ownOf c vs) && (tgIx tg).all (fun j => decide (j ∈ vs)) && (chk it).i c t i && plainE i && tgOk (blkSc c scope) tg t && (chk cd).c (blkSc c scope) ifs && (chk el).e (blkSc c scope) elt
        && vs1.all (fun j => decide (j ∈ vs)) && (tgIx tg1).all (fun j => decide (j ∈ vs1)) && (chk it1).i (blkSc c scope) t1 i1 && plainE i1 && tgOk (blkSc c scope) tg1 t1 && (chk cd1).c (blkSc c scope) ifs1
      | _ => false
  | .lrng _ a b => ckE fun c e => match e with
      | .Call (.Name x _) [.Call (.Name y _) [z, w] [] _] [] _ => cold c && decide (x = "list") && isB c x && decide (y = "range") && isB c y && (chk a).e c z && (chk b).e c w
      | _ => false
  | .irng l => ⟨fun _ _ => false, fun _ _ => false, fun _ _ => false, fun _ _ => false, fun _ _ => false, fun _ _ => false, fun c _ e => match e with
      | .Call (.Name x _) [y] [] _ => decide (x = "range") && isB c x && (chk l).l c [y]
      | .Call (.Name x _) [y, z] [] _ => decide (x = "range") && isB c x && (chk l).l c [y, z]
      | .Call (.Name x _) [y, z, w] [] _ => decide (x = "range") && isB c x && (chk l).l c [y, z, w]
      | _ => false, fun _ _ => false⟩
  | .irev a => ⟨fun _ _ => false, fun _ _ => false, fun _ _ => false, fun _ _ => false, fun _ _ => false, fun _ _ => false, fun c _ e => match e with | .Call (.Name x _) [y] [] _ => decide (x = "reversed") && (isB c x && (chk a).e c y) | _ => false, fun _ _ => false⟩
  | .ienum l => ⟨fun _ _ => false, fun _ _ => false, fun _ _ => false, fun _ _ => false, fun _ _ => false, fun _ _ => false, fun c t e => match t, e with
      | .Tuple _ _ _, .Call (.Name x _) [y] [] _ => decide (x = "enumerate") && isB c x && (chk l).l c [y]
      | _, _ => false, fun _ _ => false⟩
  | .xf i f => ckE fun c e => match e with | .Attribute (.Name x _) n _ => decide (n = f) && decide (c.N[i]? = some x) && isLoc c x && okName x && decide (c.hot = some (some i)) | _ => false
  | .xi i k => ckE fun c e => match e with
      | .Call (.Name x _) [.Name y _, .Name z _] [] _ => decide (x = "isinstance") && isB c x && decide (c.N[i]? = some y) && isLoc c y && okName y && decide (c.hot = some (some i)) && decide (z = k) && isGl c z && okName z && !(z == ("__name__" : Str))
      | _ => false
  | .anyL all i vs a t => ckE fun c e => match e with
    | .Call (.Name z _) [.GeneratorExp elt [⟨.Name x _, src, [], 0⟩] gsc _] [] _ => cold c && (c.gen && (decide (z = if all then "all" else "any") && (isB c z && (srcOk src && (genBL c.N c.sc gsc x vs && (qck c.N gsc x i t elt && (chk a).e c src))))))
    | _ => false
  | .allS f gs a => ckE fun c e => match e with | .Call (.Name z _) [.GeneratorExp (.Call (.Name f1 _) [.Name x1 _] [] _) [⟨.Name x _, .Name y py, [], 0⟩] gsc _] [] _ => cold c && (c.gen && (decide (z = "all") && (isB c "all" && (decide (f1 = f) && (decide (x1 = x) && (decide ((f, gs) ∈ c.sgn) && (genB x f gsc && (chk a).e c (.Name y py)))))))) | _ => false
  | .lcX _ vs tg it cd el => ckE fun c e => match e with
      | .ListComp elt [⟨t, i, ifs, 0⟩] scope _ => c.top && cold c && blkC c.N c.sc scope (ownOf c vs) && (tgIx tg).all (fun j => decide (j ∈ vs)) && (chk it).i c t i && plainE i && tgOk (blkSc c scope) tg t && (chk cd).c (blkSc c scope) ifs && (chk el).e (blkSc c scope) elt
      | _ => false
  | .izip l => ⟨fun _ _ => false, fun _ _ => false, fun _ _ => false, fun _ _ => false, fun _ _ => false, fun _ _ => false, fun c t e => match t, e with
      | .Tuple _ _ _, .Call (.Name x _) [y, z] [] _ => decide (x = "zip") && isB c x && (chk l).l c [y, z]
      | _, _ => false, fun _ _ => false⟩
  | .idic a => ⟨fun _ _ => false, fun _ _ => false, fun _ _ => false, fun _ _ => false, fun _ _ => false, fun _ _ => false, fun c _ e => (chk a).e c e, fun _ _ => false⟩
  | .js l => ckE fun c e => match e with | .JoinedStr (v1 :: v2 :: r) _ => (chk l).j c (v1 :: v2 :: r) | _ => false
  | .fmt a => ckE fun c e => match e with | .FormattedValue x (-1) none _ => (chk a).e c x | _ => false
  | .mm mx l => ckE fun c e => match e with | .Call (.Name x _) (y :: ys) [] _ => cold c && decide (x = if mx then "max" else "min") && isB c x && (chk l).l c (y :: ys) | _ => false
end G

set_option Elab.async false
set_option linter.all false
set_option maxRecDepth 100000
set_option maxHeartbeats 4000000
/-! an own exception's __init__ that says super().__init__(..) -/
namespace G
open PySem PySem.Spec PyProof.Rows L2

abbrev sEnv (qual : Str) (scope : Scope) (L f : Addr) (cd : Value) (cc : Addr) : Env := PySem.W.ksEnv qual scope L f cd cc
/-- the context of such a body -/
def cxS (P : Program) (w : World) (K : PySem.W.Frag) (mg : Str → Option Value) (base : Heap) (N : List Str) (qual : Str) (scope : Scope) (f : Addr) (cd : Value) (cc : Addr) (A : Around) (outer : List Env) (s : Shared) (H : Hp) (E : XK) : Cx where
  prog := P
  w := w
  K := K
  mg := mg
  base := base
  A := A.deeper (sEnv qual scope s.heap.objs.size f cd cc)
  N := N
  s_0 := s
  H_0 := H
  env := sEnv qual scope s.heap.objs.size f cd cc
  outer := outer
  stack := sEnv qual scope s.heap.objs.size f cd cc :: outer
  ex := []
  calm := true
  fn := fun _ => false
  pn := []
  xe := fun e s' => wpAny (model P w) (A.deeper (sEnv qual scope s.heap.objs.size f cd cc)) (leaving (sEnv qual scope s.heap.objs.size f cd cc) e) (fun _ s'' => L2.CX P w outer H s E e s'') (fun e' s'' => L2.CX P w outer H s E e' s'') s'
structure ScS (N ps : List Str) (sc : Scope) : Prop where
  kind : sc.kind = .function
  co : sc.isCoroutine = false
  gen : sc.isGenerator = false
  nd : N.Nodup
  pre : N.take ps.length = ps
  par : ∀ x ∈ ps, sc.names.lookup x = some .local
  fre : ∀ x, sc.names.lookup x = some .free → x = "__class__"
  nce : ∀ x, sc.names.lookup x ≠ some .cell
  ncl : ∀ x ∈ sc.names, x.2 ≠ .cell
  sup : sc.names.lookup ("super" : Str) = some .globalImplicit
  cls : sc.names.lookup ("__class__" : Str) = some .free
theorem lookup_in {α : Type} {x : Str} {u : α} : ∀ {l : List (Str × α)}, (l.map (·.1)).Nodup → (x, u) ∈ l → l.lookup x = some u
  | [], _, h => by cases h
  | (y, v) :: l, nd, h => by
    rw [List.map_cons, List.nodup_cons] at nd
    rcases List.mem_cons.mp h with h | h
    · cases h
      simp [List.lookup_cons]
    · have : x ≠ y := fun e => nd.1 (e ▸ List.mem_map_of_mem (f := (·.1)) h)
      have e2 : (x == y) = false := by simpa using this
      rw [List.lookup_cons, e2]
      exact lookup_in nd.2 h
theorem zip_fst : ∀ {ps : List Str} {us : List Value}, ps.length = us.length → (ps.zip us).map (·.1) = ps
  | [], [], _ => rfl
  | p :: ps, u :: us, h => by
    simp only [List.zip_cons_cons, List.map_cons]
    rw [zip_fst (by simpa using h)]
  | [], _ :: _, h => by simp at h
  | _ :: _, [], h => by simp at h
section
variable {P : Program} {w : World} {K : PySem.W.Frag} {mg : Str → Option Value} {base : Heap} {N ps : List Str} {qual : Str} {scope : Scope} {f cc C : Addr} {cd : Value} {A : Around} {outer : List Env} {s : Shared} {H : Hp} {E : XK} {us : List Value} {vs : List V}
theorem inv_startS (S : ScS N ps scope) (hd : A.handled = none) (e0 : L2.Env0 P w K mg base A outer s H) (hl : vs.length = ps.length) (r : Vals vs us) (hcc : ∃ v, base.IsCell cc v) {h₁ : Heap} {tk : Nat}
    (hns : h₁.Ns s.heap.objs.size (fun x => (ps.zip us).reverse.lookup x)) (hk : ∀ b o, s.heap.get? b = some o → h₁.get? b = some o) :
    Inv (cxS P w K mg base N qual scope f cd cc A outer s H E) [] (start N vs) H { s with heap := h₁, toks := tk } := by
  have hpl : ps.length ≤ N.length := by have := congrArg List.length S.pre; rw [List.length_take] at this; omega
  have noA : ∀ b : Addr, b ∉ (cxS P w K mg base N qual scope f cd cc A outer s H E).ex := fun b z => absurd (show b ∈ ([] : List Addr) from z) (by simp)
  have only : ∀ x c, (cxS P w K mg base N qual scope f cd cc A outer s H E).env.cells.lookup x = some c → x = "__class__" ∧ c = cc := fun x c h => by
    have h : ([("__class__", cc)] : List (Str × Addr)).lookup x = some c := h
    rw [List.lookup_cons] at h
    split at h
    · rename_i e
      exact ⟨eq_of_beq e, (Option.some.inj h).symm⟩
    · simp at h
  obtain ⟨cv, hcv⟩ := hcc
  obtain ⟨oc, ho, hdt⟩ := hcv
  obtain ⟨hb1, hb2⟩ := e0.bs _ _ ho
  refine ⟨⟨e0.mod, S.kind, rfl, rfl, Nat.le_refl _, fun y z c h1 h2 => ?_, fun y hy => ?_, fun y c h _ => (by cases h), fun _ => hd, Around.frames_deeper e0.frames, .inr ⟨rfl, rfl⟩, fun b z => absurd z (noA b), e0.bs, e0.bsz, fun b _ _ => noA b, fun b z => absurd z (noA b), e0.funs, e0.frf⟩,
    rfl, e0.bare, Un.kept hk, ⟨_, hns, fun i y v h1 h2 h3 => ?_⟩, fun y c h => ?_, e0.hok.fresh (Nat.le_refl _), fun y c h => ?_, fun p hp => absurd (show p ∈ ([] : List (Addr × Obj)) from hp) (by simp), e0.hok.kept hk, ?_⟩
  · rw [(only _ _ h1).1, (only _ _ h2).1]
  · have hy : scope.names.lookup y = some .cell ∨ scope.names.lookup y = some .free := hy
    rcases hy with hy | hy
    · exact absurd hy (S.nce y)
    · rw [S.fre y hy]
      exact ⟨cc, rfl⟩
  · have hi : i < vs.length := by
      unfold L2.start at h2
      by_cases hi : i < vs.length
      · exact hi
      · rw [List.getElem?_append_right (by simpa using hi)] at h2
        rw [List.getElem?_replicate] at h2
        split at h2 <;> cases h2
    have ha : vs[i]? = some v := by
      unfold L2.start at h2
      rw [List.getElem?_append_left (by simpa using hi), List.getElem?_map] at h2
      cases e : vs[i]? with
      | none => rw [e] at h2; cases h2
      | some a => rw [e] at h2; cases h2; rfl
    obtain ⟨u, hu, rv⟩ := r.get ha
    have hp : ps[i]? = some y := by
      rw [← S.pre, List.getElem?_take_of_lt (by omega)]; exact h1
    have ndP : ps.Nodup := by rw [← S.pre]; exact S.nd.sublist (List.take_sublist _ _)
    have hlu : ps.length = us.length := by rw [← hl, r.length]
    refine ⟨u, rv, .inl ⟨S.par y (List.mem_of_getElem? hp), ?_⟩⟩
    refine lookup_in ?_ (List.mem_reverse.mpr (List.mem_of_getElem? (i := i) (by rw [List.getElem?_zip_eq_some]; exact ⟨hp, hu⟩)))
    rw [List.map_reverse, zip_fst hlu]
    unfold List.Nodup
    rw [List.pairwise_reverse]
    exact ndP.imp Ne.symm
  · obtain ⟨_, rfl⟩ := only y c h
    exact ⟨cv, oc, hk _ _ hb1, hdt⟩
  · obtain ⟨_, rfl⟩ := only y c h
    exact hb2
  · unfold L2.start
    show _ = N.length
    rw [List.length_append, List.length_map, List.length_replicate]
    omega
end
/-- what the written part says of such an __init__ -/
structure IniK (K : PySem.W.Frag) (P : Program) (C fI cda cc : Addr) (qual : Str) (params : Arguments) (body : List Stmt) (scope : Scope) (fd : FuncData) : Prop where
  lk : ∃ oc od osl, K.lookup fI = some ⟨oc, od, .func fd, osl⟩
  fd : ∃ name dV kV doc pm an ct, fd = PySem.W.ksFn name qual params body scope dV kV doc pm an (.ref cda) ct cc
  code : PySem.W.codeIn K (.ref cda) qual = true
  file : ∃ ccl cdd vs ccs file tf, K.lookup cda = some ⟨ccl, cdd, .fields vs, ccs⟩ ∧ vs[2]? = some (.str file tf) ∧ ((P.main.file : Str) == file) = true
  cell : ∃ cl cld csl, K.lookup cc = some ⟨cl, cld, .cell (some (.ref C)), csl⟩
  cls : ∃ cd, PySem.W.clsIn K C = some cd
  sub : PySem.W.mroIn K C (.ref C) = some true
  ve : PySem.W.subIn K (.ref C) (.type "ValueError") = some true
  sup : PySem.W.ks_superIn K C C "__init__" = some (some (.builtin "ValueError.__init__"))
  opq : PySem.W.nsIn K cStatics "thirdparty.any" = some none
  top : (P.main.scope.names.lookup ("super" : Str)).isSome = false
  oex : OexC K C
  self : ∃ ar, (params.posonlyargs ++ params.args).head? = some ar ∧ ar.arg = ("self" : Str)
section
variable {P : Program} {w : World} {K : PySem.W.Frag} {mg : Str → Option Value} {base : Heap} {N ps : List Str} {qual : Str} {scope : Scope} {fI cc cda C a : Addr} {A : Around} {outer : List Env} {s s1 : Shared} {H0 H : Hp} {E : XK} {σ : L2.St} {params : Arguments} {body : List Stmt} {fd : FuncData}
theorem sup_base {E' : Value → Shared → Prop} {Q : Value → Shared → Prop} {p0 p1 : Pos} {whole : Sem Value} (Ik : IniK K P C fI cda cc qual params body scope fd) (S : ScS N ps scope) (hsp : mg "super" = none)
    (I : Inv (cxS P w K mg base N qual scope fI (.ref cda) cc A outer s H0 E) [] σ H s1) (hN : N[0]? = some ("self" : Str)) (hps : scope.names.lookup ("self" : Str) = some .local) (hσ : σ[0]? = some (some (.ref a))) (ea : H a = some (exo a C none))
    (h : ∀ so h', Inv (cxS P w K mg base N qual scope fI (.ref cda) cc A outer s H0 E) [] σ H { s1 with heap := h' } → h'.get? so = some (PySem.W.ks_superObj C a C) → Q (.ref so) { s1 with heap := h' }) :
    _root_.PySem.wpAt (model P w) (A.deeper (sEnv qual scope s.heap.objs.size fI (.ref cda) cc)) (.func body (sEnv qual scope s.heap.objs.size fI (.ref cda) cc)) (attributeBase (.Call (.Name "super" p0) [] [] p1) "__init__" (sEnv qual scope s.heap.objs.size fI (.ref cda) cc) whole) Q E' s1 := by
  obtain ⟨oc, od, osl, hlk⟩ := Ik.lk
  obtain ⟨name, dV, kV, doc, pm, an, ct, rfl⟩ := Ik.fd
  obtain ⟨ccl, cdd, vs, ccs, file, tf, hcode, hvs, hfile⟩ := Ik.file
  obtain ⟨cl, cld, csl, hcell⟩ := Ik.cell
  obtain ⟨cdC, hC⟩ := Ik.cls
  obtain ⟨ar, hp, har⟩ := Ik.self
  have X : K.In s1.heap := I.kIn
  obtain ⟨m, hn, hlook⟩ := id I.loc
  obtain ⟨u, ru, lk⟩ := hlook 0 "self" (.ref a) hN hσ (.inl hps)
  obtain rfl : u = Value.ref a := ru
  have hself : m "self" = some (.ref a) := by
    rcases lk with ⟨_, hm⟩ | ⟨_, c, e, _⟩
    · exact hm
    · exfalso
      have e : ([("__class__", cc)] : List (Str × Addr)).lookup ("self" : Str) = some c := e
      rw [List.lookup_cons] at e
      split at e
      · rename_i q
        exact absurd (eq_of_beq q) (by decide)
      · simp at e
  obtain ⟨mb, hb1, hb2⟩ := I.mod.blt
  obtain ⟨t1, hea⟩ := exo_at I.hok ea
  obtain ⟨oD, hD1, hD2⟩ : ∃ oD, s1.heap.get? C = some oD ∧ oD.data = .cls cdC := by
    unfold PySem.W.clsIn at hC
    split at hC
    · rename_i c d cd' sl ho
      cases hC
      exact ⟨_, X _ _ ho, rfl⟩
    · cases hC
  have hglob := I.mod.glob.keeps I.bk
  have hbl := hb1.keeps I.bk
  have kept : ∀ h', (∀ b o, s1.heap.get? b = some o → h'.get? b = some o) → Inv (cxS P w K mg base N qual scope fI (.ref cda) cc A outer s H0 E) [] σ H { s1 with heap := h' } := fun h' k => I.kept (t' := s1.toks) k
  obtain ⟨hh, g, d, t, os⟩ := s1
  refine PySem.ks_wpAt_super_base (env := sEnv qual scope s.heap.objs.size fI (.ref cda) cc) S.sup S.cls (by decide) rfl (X _ _ hlk) rfl hp rfl (X _ _ hcode) rfl hvs hfile Ik.top ?_
  refine PySem.W.ks_loadName_global S.kind S.sup (Calls.loadGlobal_builtin (env := sEnv qual scope s.heap.objs.size fI (.ref cda) cc) hglob hsp hbl ((hb2 _ (by decide)).trans (by decide +kernel)) ⟨rfl, ?_⟩)
  refine wpAny_loadName_free S.kind S.cls rfl ⟨_, X _ _ hcell, rfl⟩ ?_
  rw [har]
  refine wpAny_loadName_local S.kind hps hn hself ?_
  refine PySem.ks_wpAny_isType_cls hD1 hD2 ⟨rfl, ?_⟩
  refine PySem.ks_wpAny_call_super hD1 hD2 hea rfl (fun c e => by cases e) (PySem.W.looks_mroIn X Ik.sub) (fun h' e k => ?_)
  exact h _ _ (kept h' k) e
theorem call_bwV {P : Program} {w : World} {A : Around} {E : Value → Shared → Prop} {h : Heap} {g : Array GenState} {d : Drawn} {t : Nat} {os : OsState} {nm q : Str} {C N : Addr} {bs bm : List Value} {hdct : Bool} {sn : List Str} {sub : List Value} {ab : Bool} {col : Option Bool} {dd : Option Addr} {k0 k1 k2 k3 k5 : Option Value}
    {u e t0 : Addr} {rest : List Value} {Q : Value → Shared → Prop}
    (hC : h.get? C = some (excClassObj nm q C N bs bm hdct sn sub ab col dd k0 k1 k2 k3 k5 "ValueError.__new__")) (he : h.get? e = some (HandSPX.excO C t0)) (hu : h.get? u = some (PySem.W.kxs_mw "ValueError.__init__" e)) (hrest : rest.length ≤ sizeLine)
    (hq : ∀ h' t1, (∀ b o, b ≠ e → h.get? b = some o → h'.get? b = some o) → h'.get? e = some (HandSPX.excO C t1) → Q .none ⟨h', g, d, t, os⟩) : wpAny (model P w) A (call (.ref u) rest) Q E ⟨h, g, d, t, os⟩ := by
  refine wpAny_call (codeAny_of_tree ?_)
  show wpAny _ A.in1 (callAny (.ref u) ⟨rest, []⟩) _ _ _
  simp only [callAny]; refine wpAny_bind (wpAny_load hu ?_)
  simp only [PySem.W.kxs_mw, show (Value.type "method-wrapper" == Value.type "method" || Value.type "method-wrapper" == Value.type "builtin_function_or_method" || Value.type "method-wrapper" == Value.type "method-wrapper") = true by decide, if_true]
  refine W.KFB.if_so (by decide) ?_
  refine wpAny_bind (ESX.check_bound F.excBase_ValueError hC he rfl ?_); refine wpAny_bind (wpAny_pure (wpAny_pure ?_))
  refine ⟨Code.quiet_builtin _ (by decide +kernel), codeAny_builtin F.excBase_ValueError.initEntry ?_⟩
  rw [Around.under_plainId F.excBase_ValueError.init.plain _]; wp_walk
  refine hq _ h.objs.size (fun b o hb ho => ?_) ?_
  · rw [Heap.get?_update_other _ _ (Ne.symm hb)]; exact Heap.get?_push_of_some _ ho
  · rw [Heap.get?_update_self _ (Heap.get?_push_of_some _ he) rfl]; rfl
theorem sup_stmt {ta : TA} {arg : Expr} {p0 p1 p2 pos pos' : Pos} {pl : Sem Bool} (Ik : IniK K P C fI cda cc qual params body scope fd) (S : ScS N ps scope) (hsp : mg "super" = none)
    (I : Inv (cxS P w K mg base N qual scope fI (.ref cda) cc A outer s H0 E) [] σ H s1) (hN : N[0]? = some ("self" : Str)) (hps : scope.names.lookup ("self" : Str) = some .local) (hσ : σ[0]? = some (some (.ref a))) (ea : H a = some (exo a C none))
    (hp : PA (cxS P w K mg base N qual scope fI (.ref cda) cc A outer s H0 E) [arg] ta) (ht : ta σ H fun vs H1 => vs.length ≤ sizeLine ∧ H1 = H)
    (hi : interactive (sEnv qual scope s.heap.objs.size fI (.ref cda) cc) = false)
    (he : eval (.Call (.Attribute (.Call (.Name "super" p0) [] [] p1) "__init__" p2) [arg] [] pos) (sEnv qual scope s.heap.objs.size fI (.ref cda) cc) = (do
      let ov ← attributeBase (.Call (.Name "super" p0) [] [] p1) "__init__" (sEnv qual scope s.heap.objs.size fI (.ref cda) cc) (eval (.Call (.Name "super" p0) [] [] p1) (sEnv qual scope s.heap.objs.size fI (.ref cda) cc))
      standAt p2.atName
      let (f, first) ← holding [ov] (getMethod ov "__init__" pl)
      callWith pos f first (backTo pos (starEach [arg] (sEnv qual scope s.heap.objs.size fI (.ref cda) cc))) []))
    (hst : starEach [arg] (sEnv qual scope s.heap.objs.size fI (.ref cda) cc) = (false, eval arg (sEnv qual scope s.heap.objs.size fI (.ref cda) cc)) :: starEach [] (sEnv qual scope s.heap.objs.size fI (.ref cda) cc)) :
    _root_.PySem.wpAt (model P w) (A.deeper (sEnv qual scope s.heap.objs.size fI (.ref cda) cc)) (.func body (sEnv qual scope s.heap.objs.size fI (.ref cda) cc)) (exec (.Expr (.Call (.Attribute (.Call (.Name "super" p0) [] [] p1) "__init__" p2) [arg] [] pos) pos') (sEnv qual scope s.heap.objs.size fI (.ref cda) cc))
      (fun f s' => f = .next ∧ Inv (cxS P w K mg base N qual scope fI (.ref cda) cc A outer s H0 E) [] σ H s') (cxS P w K mg base N qual scope fI (.ref cda) cc A outer s H0 E).xe s1 := by
  obtain ⟨cdC, hC⟩ := Ik.cls
  have hsup := Ik.sup
  have hT := Ik.oex
  obtain ⟨nm, q, NN, bs, bm, sn, sub, ab, col, dd, k0, k1, k2, k3, k5, hCC, hbm⟩ := hT.cls
  refine PySem.ks_wpAt_Expr_any ?_ hi
  refine PySem.ks_wpAt_MethodCall (pl := pl) ?_ he
  refine sup_base Ik S hsp I hN hps hσ ea fun so h' I1 hso => ?_
  obtain ⟨t1, hea⟩ := exo_at I1.hok ea
  have IA : PySem.W.InstAt h' a ({ cls := .ref C, dict := none, data := .fields #[.ref t1, .none, .none, .none, .bool false, .none] } : Obj) C none := ⟨hea, rfl, rfl, trivial⟩
  have X : K.In h' := I1.kIn
  unfold PySem.W.ks_superIn at hsup
  rw [hC] at hsup
  obtain ⟨hh, g, d, t, os⟩ := s1
  have hoso : h'.get? so = some (PySem.W.ks_superObj C a C) := hso
  refine PySem.W.kxs_getMethod PySem.W.kxs_ValueError hoso (PySem.W.looks_opaque X Ik.opq) (l₀ := cdC.mro) (fun A Q E s k q => wpAny_bind ((PySem.W.looks_clsIn X hC) A _ E s k (wpAny_pure q))) rfl X hsup (IA.type.andThen (PySem.W.looks_subIn X Ik.ve)) (PySem.W.ks_ne X IA hC) (by decide) ?_
  have I2 : Inv (cxS P w K mg base N qual scope fI (.ref cda) cc A outer s H0 E) [] σ H ⟨h'.push (PySem.W.kxs_mw "ValueError.__init__" a), g, d, t + 1, os⟩ := I1.kept (t' := t + 1) fun b o e => Heap.get?_push_of_some _ e
  have hu : (h'.push (PySem.W.kxs_mw "ValueError.__init__" a)).get? h'.objs.size = some (PySem.W.kxs_mw "ValueError.__init__" a) := Heap.get?_push_at rfl rfl
  have hfree : H h'.objs.size = none := I1.hok.fresh (Nat.le_refl _)
  have I3 : Inv (cxS P w K mg base N qual scope fI (.ref cda) cc A outer s H0 E) [(h'.objs.size, PySem.W.kxs_mw "ValueError.__init__" a)] σ H ⟨h'.push (PySem.W.kxs_mw "ValueError.__init__" a), g, d, t + 1, os⟩ := I2.pins_of fun p hp => by
    rw [List.mem_singleton] at hp
    subst hp
    refine ⟨hu, hfree, Ne.symm (Nat.ne_of_lt I1.lt), I1.nofs (Nat.le_refl _), fun v z => by cases z⟩
  show wpAny _ _ (callWith pos (Value.ref h'.objs.size) [] (backTo pos (starEach [arg] (sEnv qual scope s.heap.objs.size fI (.ref cda) cc))) []) _ _ _
  have hr := hp.run pos _ _ σ H _ I3 ht
  have hst' : starEach [arg] (cxS P w K mg base N qual scope fI (.ref cda) cc A outer s H0 E).env = (false, eval arg (sEnv qual scope s.heap.objs.size fI (.ref cda) cc)) :: starEach [] (sEnv qual scope s.heap.objs.size fI (.ref cda) cc) := hst
  rw [hst'] at hr
  rw [hst]
  refine PySem.W.kxs_callWith (i := "ValueError.__init__") (x := a) rfl (PySem.Calls.evalArgs_plain (thn hr fun us s2 ⟨vs, H1, I4, r1, hl, eH⟩ => ?_))
  subst eH
  have hp4 := I4.pin (h'.objs.size, PySem.W.kxs_mw "ValueError.__init__" a) (by simp)
  refine ⟨hp4.1, ?_⟩
  obtain ⟨t4, hea4⟩ := exo_at I4.hok ea
  obtain ⟨h4, g4, d4, tt4, os4⟩ := s2
  refine call_bwV (I4.kIn _ _ hCC) hea4 hp4.1 (by rw [List.nil_append, ← r1.length]; exact hl) fun h5 t5 k5 hx5 => ?_
  refine ⟨rfl, ?_⟩
  have J := I4.write (t' := tt4) (x := a) (e := a) (o := exo a C none) (by rw [ea]; exact True.intro) (.inl rfl) k5 ⟨_, hx5⟩ (exo_ok hx5)
  have eu : upd H1 a (exo a C none) = H1 := by
    funext b
    by_cases hb : b = a
    · rw [hb, upd_same, ea]
    · rw [upd_ne hb]
  rw [eu] at J
  exact J.pins_of fun p hp => by simp at hp
end
end G

set_option Elab.async false
set_option linter.all false
set_option maxRecDepth 100000
set_option maxHeartbeats 4000000
/-! an own exception's __init__ as a def that keeps a promise -/
namespace G
open PySem PySem.Spec PyProof.Rows L2

def pcV (ws : List V) : Pc → Prop
  | .c s => s.length ≤ 1000000
  | .p i => (∃ y : Str, ws[i]? = some (.str y) ∧ y.length ≤ 1000000) ∨ ∃ k : Int, ws[i]? = some (.int k) ∧ k.natAbs.log2 < 1920
def runFs {α : Type} (ws : List α) : List (Str × Nat) → List (Str × α) → Option (List (Str × α))
  | [], acc => some acc
  | (f, i) :: r, acc => match ws[i]? with
    | some v => runFs ws r ((f, v) :: acc)
    | none => none
/-- what is promised -/
def iniSp (C : Addr) (o : Ow) : Sp := fun vs H Q _ => ∃ (a : Addr) (ws : List V), vs = .ref a :: ws ∧ ws.length = o.n ∧ H a = some (exo a C none) ∧ o.tx.length ≤ 8 ∧ (∀ p ∈ o.tx, pcV ws p) ∧
  ∃ fvs, runFs ws o.fs [] = some fvs ∧ ∀ d H2, H d = none → d ≠ a → H2 a = some (exo a C (some d)) → H2 d = some (exd d fvs) → (∀ b, b ≠ a → b ≠ d → H2 b = H b) → Q .non H2
def okN (x : Str) : Bool := !(x == ("__debug__" : Str)) && !(x == ("__classdict__" : Str))
def partsB (ns : List Str) : List Pc → List Expr → Bool
  | [], [] => true
  | .c s :: r, .Constant (.str s') _ _ :: es => decide (s = s') && partsB ns r es
  | .p i :: r, .FormattedValue (.Name x _) n none _ :: es => decide (n = -1) && (decide (ns[i]? = some x) && partsB ns r es)
  | _, _ => false
def txB (ns : List Str) (tx : List Pc) : Expr → Bool
  | .Constant (.str s) _ _ => decide (tx = [.c s])
  | .JoinedStr (v1 :: v2 :: rest) _ => partsB ns tx (v1 :: v2 :: rest)
  | _ => false
def stsB (ns : List Str) : List (Str × Nat) → List Stmt → Bool
  | [], [] => true
  | (f, i) :: r, .Assign [.Attribute (.Name s _) f' _] (.Name x _) _ :: rest => decide (s = "self") && (decide (f = f') && (decide (ns[i]? = some x) && stsB ns r rest))
  | _, _ => false
def bodyB (ns : List Str) (o : Ow) : List Stmt → Bool
  | .Expr (.Call (.Attribute (.Call (.Name su _) [] [] _) ini p2) [arg] [] pos) _ :: rest => p2.endLine == pos.line && (decide (su = "super") && (decide (ini = "__init__") && (txB ns o.tx arg && stsB ns o.fs rest)))
  | _ => false
structure IniOk (P : Program) (K : PySem.W.Frag) (mg : Str → Option Value) (C : Addr) (o : Ow) (fI : Addr) (fd : FuncData) (ns : List Str) : Prop where
  ex : ∃ cda cc qual params body scope, IniK K P C fI cda cc qual params body scope fd ∧ ScS ("self" :: ns) ("self" :: ns) scope ∧ bodyB ns o body = true
  fi : PySem.W.findIn K (.ref C) "__init__" = some (some (.ref fI))
  ti : PySem.W.typeIn K (.ref fI) = some (.type "function")
  bi : Binds K fd ("self" :: ns) []
  su : mg "super" = none
  len : ns.length = o.n
  ne : o.fs ≠ []
  fl : o.fs.length ≤ 900 ∧ ∀ f ∈ o.fs, PySem.W.findIn K (.ref C) f.1 = some none
  nm : ∀ x ∈ ns, okN x = true
section
variable {P : Program} {w : World} {K : PySem.W.Frag} {mg : Str → Option Value} {base : Heap} {N : List Str} {qual : Str} {scope : Scope} {fI cc cda C a : Addr} {A : Around} {outer : List Env} {s s1 : Shared} {H0 H : Hp} {E : XK} {σ : L2.St} {params : Arguments} {body : List Stmt} {fd : FuncData}
theorem okN_d {x : Str} (h : okN x = true) : (x == ("__debug__" : Str)) = false ∧ (x == ("__classdict__" : Str)) = false := by
  simp only [okN, Bool.and_eq_true, Bool.not_eq_true'] at h
  exact h
/-- the slots hold the arguments -/
def Held (σ : L2.St) (a : Addr) (ws : List V) : Prop := σ[0]? = some (some (.ref a)) ∧ ∀ i v, ws[i]? = some v → σ[i + 1]? = some (some v)
theorem pe_par {X : Cx} {ns : List Str} {i : Nat} {x : Str} {p : Pos} (hN : X.N = ("self" : Str) :: ns) (hpar : ∀ y ∈ ("self" : Str) :: ns, X.env.scope.names.lookup y = some .local) (h : ns[i]? = some x) (ho : ∀ y ∈ ns, okN y = true) : PE X (.Name x p) (tVar (i + 1)) := by
  have hm := List.mem_of_getElem? h
  exact pe_var (by rw [hN]; simpa using h) (.inl (hpar x (List.mem_cons_of_mem _ hm))) (okN_d (ho x hm)).1 (okN_d (ho x hm)).2
/-- the readings of the text's parts -/
def pcT : Pc → TE
  | .c s => tC (.str s)
  | .p i => tFmt (tVar (i + 1))
theorem parts_pj {X : Cx} {ns : List Str} (hN : X.N = ("self" : Str) :: ns) (hpar : ∀ y ∈ ("self" : Str) :: ns, X.env.scope.names.lookup y = some .local) (ho : ∀ y ∈ ns, okN y = true) : ∀ {tx : List Pc} {es : List Expr}, partsB ns tx es = true → PJ X es (tx.map pcT)
  | [], [], _ => .nil
  | .c s :: r, e :: es, h => by
    unfold partsB at h
    split at h
    · rename_i heq
      cases heq
    · rename_i h1 h2
      cases h1
      cases h2
      simp only [Bool.and_eq_true, decide_eq_true_eq] at h
      obtain ⟨rfl, h⟩ := h
      exact .cons pe_str (parts_pj hN hpar ho h)
    · rename_i h1 h2
      cases h1
    · cases h
  | .p i :: r, e :: es, h => by
    unfold partsB at h
    split at h
    · rename_i heq
      cases heq
    · rename_i h1 h2
      cases h1
    · rename_i h1 h2
      cases h1
      cases h2
      simp only [Bool.and_eq_true, decide_eq_true_eq] at h
      obtain ⟨rfl, h3, h⟩ := h
      exact .cons (pe_fmt (pe_par hN hpar h3 ho)) (parts_pj hN hpar ho h)
    · cases h
  | [], _ :: _, h => by unfold partsB at h; cases h
  | .c _ :: _, [], h => by unfold partsB at h; cases h
  | .p _ :: _, [], h => by unfold partsB at h; cases h
theorem int_len {k : Int} (h : k.natAbs.log2 < 1920) : (Str.ofString (toString k)).length ≤ 1000000 := by
  have e := int_text_length_le (k := 1920) (by decide) h
  rw [PySem.ofString_length]; omega
theorem parts_run {ws : List V} (hd : Held σ a ws) : ∀ {tx : List Pc} {acc : Str} {Q : Str → Hp → Prop}, (∀ p ∈ tx, pcV ws p) → acc.length + tx.length * 1000000 ≤ 16000000 → (∀ out, Q out H) → tJs (tx.map pcT) acc σ H Q
  | [], acc, Q, _, _, hq => hq acc
  | p :: r, acc, Q, h, hl, hq => by
    have step : ∀ y : Str, y.length ≤ 1000000 → (acc ++ y).length ≤ sizeLine ∧ tJs (r.map pcT) (acc ++ y) σ H Q := fun y hy => by
      simp only [List.length_cons] at hl
      have e : (acc ++ y).length = acc.length + y.length := PySem.Str.length_append _ _
      refine ⟨by rw [e, sizeLine_eq]; omega, parts_run hd (fun q hq => h q (List.mem_cons_of_mem _ hq)) (by rw [e]; omega) hq⟩
    have hp := h p List.mem_cons_self
    cases p with
    | c s => exact ⟨s, rfl, step s hp⟩
    | p i =>
      rcases hp with ⟨y, h1, h2⟩ | ⟨k, h1, h2⟩
      · exact ⟨.str y, hd.2 i _ h1, .inl ⟨y, rfl, by rw [sizeLine_eq]; omega, y, rfl, step y h2⟩⟩
      · exact ⟨.int k, hd.2 i _ h1, .inr ⟨k, rfl, h2, _, rfl, step _ (int_len h2)⟩⟩
theorem tx_pe {X : Cx} {ns : List Str} {tx : List Pc} {arg : Expr} (hN : X.N = ("self" : Str) :: ns) (hpar : ∀ y ∈ ("self" : Str) :: ns, X.env.scope.names.lookup y = some .local) (ho : ∀ y ∈ ns, okN y = true) (h : txB ns tx arg = true) :
    ∃ te, PE X arg te ∧ ∀ {σ : L2.St} {H : Hp} {ws : List V} {Q : VK}, Held σ a ws → (∀ p ∈ tx, pcV ws p) → tx.length ≤ 8 → (∀ v, Q v H) → te σ H Q := by
  unfold txB at h
  split at h
  · exact ⟨_, pe_str, fun _ _ _ hq => hq _⟩
  · exact ⟨_, pe_joined (parts_pj hN hpar ho h), fun hd hp hl hq => parts_run hd hp (by show 0 + _ ≤ _; omega) fun out => hq _⟩
  · cases h
theorem tx_star {ns : List Str} {tx : List Pc} {arg : Expr} (h : txB ns tx arg = true) (env : Env) : starEach [arg] env = (false, eval arg env) :: starEach [] env := by
  unfold txB at h
  split at h
  · rfl
  · rfl
  · cases h
theorem mcp_eq {few : Bool} {o : Expr} {env : Env} {apos pos : Pos} (h : (apos.endLine == pos.line) = true) : methodCallPos few o env apos pos = pure pos := by
  unfold methodCallPos
  rw [h, Bool.or_true]
  rfl
theorem tx_call {ns : List Str} {tx : List Pc} {arg : Expr} (h : txB ns tx arg = true) (env : Env) {p0 p1 p2 pos : Pos} (hl : (p2.endLine == pos.line) = true) : ∃ pl : Sem Bool, eval (.Call (.Attribute (.Call (.Name "super" p0) [] [] p1) "__init__" p2) [arg] [] pos) env = (do
      let ov ← attributeBase (.Call (.Name "super" p0) [] [] p1) "__init__" env (eval (.Call (.Name "super" p0) [] [] p1) env)
      standAt p2.atName
      let (f, first) ← holding [ov] (getMethod ov "__init__" pl)
      callWith pos f first (backTo pos (starEach [arg] env)) []) := by
  have key : ∀ ov : Value, ∀ a : List (Bool × Sem Value), (do
      let (f, first) ← holding [ov] (getMethod ov "__init__" (do return (← importBound (.Call (.Name "super" p0) [] [] p1) env).getD true))
      let callPos ← methodCallPos true (.Call (.Name "super" p0) [] [] p1) env p2 pos
      callWith callPos f first a []) = (do
      let (f, first) ← holding [ov] (getMethod ov "__init__" (do return (← importBound (.Call (.Name "super" p0) [] [] p1) env).getD true))
      callWith pos f first a []) := fun ov a => by
    simp only [mcp_eq hl, pure_bind]
  unfold txB at h
  split at h
  · refine ⟨(do return (← importBound (.Call (.Name "super" p0) [] [] p1) env).getD true), ?_⟩
    simp only [← key]
    rfl
  · refine ⟨(do return (← importBound (.Call (.Name "super" p0) [] [] p1) env).getD true), ?_⟩
    simp only [← key]
    rfl
  · cases h
/-- the rest: fields are kept -/
theorem sts_run {X : Cx} {ns : List Str} {ws : List V} {d : Addr} (T : OexC X.K C) (hN : X.N = ("self" : Str) :: ns) (hpar : ∀ y ∈ ("self" : Str) :: ns, X.env.scope.names.lookup y = some .local) (ho : ∀ y ∈ ns, okN y = true) (hd : Held σ a ws) (hda : d ≠ a) : ∀ {fs : List (Str × Nat)} {sts : List Stmt} {acc : List (Str × V)} {fvs : List (Str × V)} {s : Shared} {H : Hp},
    stsB ns fs sts = true → Inv X [] σ H s → H a = some (exo a C (some d)) → H d = some (exd d acc) → (∀ f ∈ fs, PySem.W.findIn X.K (.ref C) f.1 = some none) → acc.length + fs.length ≤ 900 → runFs ws fs acc = some fvs →
    wpAny (model X.prog X.w) X.A (execs sts X.env) (fun f s' => f = .next ∧ ∃ H2, Inv X [] σ H2 s' ∧ H2 a = some (exo a C (some d)) ∧ H2 d = some (exd d fvs) ∧ ∀ b, b ≠ a → b ≠ d → H2 b = H b) X.xe s
  | [], [], acc, fvs, s, H, _, I, ea, ed, _, _, hr => by
    cases hr
    exact wpAny_execs_nil ⟨rfl, H, I, ea, ed, fun _ _ _ => rfl⟩
  | (f, i) :: r, st :: sts, acc, fvs, s, H, h, I, ea, ed, hf, hl, hr => by
    unfold stsB at h
    split at h
    · rename_i heq _
      cases heq
    · rename_i h1 h2
      cases h1
      cases h2
      simp only [Bool.and_eq_true, decide_eq_true_eq] at h
      obtain ⟨rfl, rfl, h3, h4⟩ := h
      unfold runFs at hr
      cases hw : ws[i]? with
      | none => rw [hw] at hr; cases hr
      | some y =>
        rw [hw] at hr
        have hs : ∀ p, PE X (.Name "self" p) (tVar 0) := fun p => pe_var (by rw [hN]; rfl) (.inl (hpar _ List.mem_cons_self)) (by decide) (by decide)
        simp only [List.length_cons] at hl
        refine wpAny_execs_cons (thn ((ps_ost (hs _) (pe_par hN hpar h3 ho)).run [] s σ H
          { nx := fun σ' H' => σ' = σ ∧ H' = upd H d (exd d ((f, y) :: acc)), bk := fun _ _ => False, ct := fun _ _ => False, rt := fun _ _ => False } I
          ⟨y, hd.2 i y hw, .ref a, hd.1, a, C, rfl, T, hf _ List.mem_cons_self, .inr ⟨d, acc, ea, ed, by omega, rfl, rfl⟩⟩) fun fl s' hs' => ?_)
        cases fl with
        | next =>
          obtain ⟨σ', H', J, e1, e2⟩ := hs'
          rw [e1, e2] at J
          refine thn (sts_run T hN hpar ho hd hda h4 J (by rw [upd_ne hda.symm]; exact ea) upd_same (fun g hg => hf g (List.mem_cons_of_mem _ hg)) (by simp only [List.length_cons]; omega) hr) fun f2 s2 ⟨e, H2, J2, a2, d2, k2⟩ => ⟨e, H2, J2, a2, d2, fun b hb1 hb2 => (k2 b hb1 hb2).trans (upd_ne hb2)⟩
        | brk => obtain ⟨_, _, _, z⟩ := hs'; exact z.elim
        | cont => obtain ⟨_, _, _, z⟩ := hs'; exact z.elim
        | ret u => obtain ⟨_, _, _, _, _, z⟩ := hs'; exact z.elim
    · cases h
  | [], _ :: _, _, _, _, _, h, _, _, _, _, _, _ => by unfold stsB at h; cases h
  | _ :: _, [], _, _, _, _, h, _, _, _, _, _, _ => by unfold stsB at h; cases h
theorem ini_fn {o : Ow} {ns : List Str} (ok : IniOk P K mg C o fI fd ns) : FnOk P w K mg base (L2.CX P w) 1 fI fd ("self" :: ns) (iniSp C o) := by
  obtain ⟨cda, cc, qual, params, body, scope, Ik, S, hb⟩ := ok.ex
  refine ⟨fun vs H Q E ⟨a, ws, e1, e2, _⟩ => by rw [e1, List.length_cons, List.length_cons, e2, ok.len], fun A outer s H args us vs Q E hr e0 hbi r ⟨a, ws, e1, e2, ea, hl8, htx, fvs, hfs, hq⟩ => ?_⟩
  obtain ⟨oc, od, osl, hlk⟩ := Ik.lk
  obtain ⟨cl, cld, csl, hcell⟩ := Ik.cell
  have KX : K.In s.heap := e0.mod.kin.keeps fun b o e => (e0.bs b o e).1
  have lim : s.heap.NoLimit := e0.mod.nolimit.keeps fun b o e => (e0.bs b o e).1
  have hvl : vs.length = (("self" : Str) :: ns).length := by rw [e1, List.length_cons, List.length_cons, e2, ok.len]
  have hloc : ∀ y ∈ (("self" : Str) :: ns).zip us, scope.names.lookup y.1 = some .local := fun ⟨n, v⟩ hy => S.par n (List.of_mem_zip hy).1
  have hIk := Ik
  obtain ⟨name, dV, kV, doc, pm, an, ct, hfd⟩ := Ik.fd
  subst hfd
  have hcode := Ik.code
  refine PySem.ks_codeAny_call_defAt (fd := PySem.W.ksFn name qual params body scope dV kV doc pm an (.ref cda) ct cc) (body := body) (binds := (("self" : Str) :: ns).zip us) hr.depth (KX _ _ hlk) rfl lim (PySem.W.codeRec_of KX hcode) rfl hbi S.ncl hloc (fun h₀ hns hk => ?_) S.co S.gen S.kind
  have hcc : ∃ v, base.IsCell cc v := ⟨_, _, e0.mod.kin _ _ hcell, rfl⟩
  have I := inv_startS (E := E) (f := fI) (cd := .ref cda) (qual := qual) (cc := cc) (tk := s.toks + ((("self" : Str) :: ns).zip us).length) S hr.hd e0 hvl r hcc hns hk
  have hheld : Held (L2.start ("self" :: ns) vs) a ws := by
    subst e1
    refine ⟨rfl, fun i v hv => ?_⟩
    show ((V.ref a :: ws).map some ++ List.replicate _ none)[i + 1]? = _
    have hi := (List.getElem?_eq_some_iff.mp hv).1
    rw [List.getElem?_append_left (by simpa using hi), List.getElem?_map]
    simp [hv]
  unfold bodyB at hb
  split at hb
  case h_2 => cases hb
  rename_i su p0 p1 ini p2 arg pos pos' rest
  simp only [Bool.and_eq_true, decide_eq_true_eq] at hb
  obtain ⟨hln, rfl, rfl, ht, hst⟩ := hb
  have hpar : ∀ y ∈ ("self" : Str) :: ns, (cxS P w K mg base ("self" :: ns) qual scope fI (.ref cda) cc A outer s H E).env.scope.names.lookup y = some .local := S.par
  obtain ⟨te, hpe, hte⟩ := tx_pe (X := cxS P w K mg base ("self" :: ns) qual scope fI (.ref cda) cc A outer s H E) (a := a) rfl hpar ok.nm ht
  have hin : interactive (sEnv qual scope s.heap.objs.size fI (.ref cda) cc) = false := by
    show (scope.kind == .module && _) = false
    rw [S.kind]
    rfl
  show _root_.PySem.wpAt (model P w) (A.deeper (sEnv qual scope s.heap.objs.size fI (.ref cda) cc)) (.func _ (sEnv qual scope s.heap.objs.size fI (.ref cda) cc)) (execs _ (sEnv qual scope s.heap.objs.size fI (.ref cda) cc)) _ _ _
  obtain ⟨pl, hcall⟩ := tx_call ht (sEnv qual scope s.heap.objs.size fI (.ref cda) cc) (p0 := p0) (p1 := p1) hln
  refine PySem.ks_wpAt_execs_cons (PySem.ks_wpAt_mono (sup_stmt (pl := pl) hIk S ok.su I rfl (S.par _ List.mem_cons_self) hheld.1 ea (pa_cons hpe pa_nil (tx_star ht _)) (hte hheld htx hl8 fun v => ⟨by show 1 ≤ _; rw [sizeLine_eq]; omega, rfl⟩) hin hcall (tx_star ht _)) (fun f s' ⟨ef, J⟩ => ?_) fun _ _ x => x)
  subst ef
  refine _root_.PySem.wpAt_of_wpAny ?_
  have fin : ∀ {H2 : Hp} {s2 : Shared} {d : Addr}, Inv (cxS P w K mg base ("self" :: ns) qual scope fI (.ref cda) cc A outer s H E) [] (L2.start ("self" :: ns) vs) H2 s2 → H d = none → d ≠ a → H2 a = some (exo a C (some d)) → H2 d = some (exd d fvs) → (∀ b, b ≠ a → b ≠ d → H2 b = H b) → CE outer P w H s Q .none s2 :=
    fun {H2 s2 d} J2 h1 h2 h3 h4 h5 => ⟨.non, H2, J2.os, J2.bare, J2.base, J2.hok, rfl, hq d H2 h1 h2 h3 h4 h5⟩
  have hne := ok.ne
  have hfl := ok.fl
  generalize hof : o.fs = ofs at hne hfl hst hfs
  cases ofs with
  | nil => exact absurd rfl hne
  | cons fi r2 =>
    obtain ⟨f1, i1⟩ := fi
    cases rest with
    | nil => unfold stsB at hst; cases hst
    | cons st sts =>
      unfold stsB at hst
      split at hst
      · rename_i heq _
        cases heq
      · rename_i h1 h2
        cases h1
        cases h2
        simp only [Bool.and_eq_true, decide_eq_true_eq] at hst
        obtain ⟨rfl, rfl, h3, h4⟩ := hst
        unfold runFs at hfs
        cases hw : ws[i1]? with
        | none => rw [hw] at hfs; cases hfs
        | some y =>
          rw [hw] at hfs
          have hs : ∀ p, PE (cxS P w K mg base ("self" :: ns) qual scope fI (.ref cda) cc A outer s H E) (.Name "self" p) (tVar 0) := fun p => pe_var rfl (.inl (hpar _ List.mem_cons_self)) (by decide) (by decide)
          refine wpAny_execs_cons (thn ((ps_ost (hs _) (pe_par rfl hpar h3 ok.nm)).run [] s' _ H
            { nx := fun σ' H' => σ' = L2.start ("self" :: ns) vs ∧ ∃ d, H d = none ∧ d ≠ a ∧ H' = upd (upd H d (exd d [(f1, y)])) a (exo a C (some d)), bk := fun _ _ => False, ct := fun _ _ => False, rt := fun _ _ => False } J
            ⟨y, hheld.2 i1 y hw, .ref a, hheld.1, a, C, rfl, hIk.oex, hfl.2 _ List.mem_cons_self, .inl ⟨ea, fun d hd1 hd2 => ⟨rfl, d, hd1, hd2, rfl⟩⟩⟩) fun fl s2 hs' => ?_)
          cases fl with
          | next =>
            obtain ⟨σ', H', J2, rfl, d, hd1, hd2, rfl⟩ := hs'
            have hl9 := hfl.1
            simp only [List.length_cons] at hl9
            refine thn (sts_run hIk.oex rfl hpar ok.nm hheld hd2 h4 J2 upd_same (by rw [upd_ne hd2, upd_same]) (fun g hg => hfl.2 g (List.mem_cons_of_mem _ hg)) (by simp only [List.length_cons, List.length_nil]; omega) hfs) fun f2 s3 ⟨e, H2, J3, a2, d2, k2⟩ => ?_
            subst e
            exact fin J3 hd1 hd2 a2 d2 fun b hb1 hb2 => (k2 b hb1 hb2).trans (by rw [upd_ne hb1, upd_ne hb2])
          | brk => obtain ⟨_, _, _, z⟩ := hs'; exact z.elim
          | cont => obtain ⟨_, _, _, z⟩ := hs'; exact z.elim
          | ret u => obtain ⟨_, _, _, _, _, z⟩ := hs'; exact z.elim
      · cases hst
end
end G

set_option Elab.async false
set_option linter.all false
set_option maxRecDepth 100000
set_option maxHeartbeats 8000000
namespace G
open PySem PySem.Spec PyProof.Rows L2

/-- what is known of the exception classes -/
structure XsOk (P : Program) (w : World) (K : PySem.W.Frag) (mg : Str → Option Value) (ct : Ct) (xs : Xs) : Prop where
  cls : ∀ z C, ct.tab z = some C → ExcC K C
  sub : ∀ z c b, xs.sub z c = some b → ∃ C, ct.tab z = some C ∧ ((∃ D, mg c = some (.ref D) ∧ PySem.W.exmOne K (.ref C) (.ref D) = some b ∧ PySem.W.kitOne K (.ref C) (.ref D) = some b) ∨ ∃ n, mg c = none ∧ bootBuiltins c = some (.type n) ∧ PySem.W.exmOne K (.ref C) (.type n) = some b ∧ PySem.W.kitOne K (.ref C) (.type n) = some b)
  fld : ∀ z f, xs.fld z f = true → ∃ C, ct.tab z = some C ∧ PySem.W.findIn K (.ref C) f = some none
  ow : ∀ c o, xs.ow c = some o → ∃ C fI fd ns, ct.tab o.z = some C ∧ mg c = some (.ref C) ∧ IniOk P K mg C o fI fd ns
  ofl : OflOk K ct xs.ofl
  kd : ∀ k l, xs.kd k = some l → ∃ (a : Addr) (es : Array DictEntry) (n : Nat), mg k = some (.ref a) ∧ KDict K w a es n ∧ (∀ z wv, l.lookup z = some wv → ∃ u v, PySem.W.nsIn K a (mkS z) = some (some u) ∧ RelV v u ∧ ∀ F μ, RV K F μ wv v) ∧ ∀ z, l.lookup z = none → PySem.W.nsIn K a (mkS z) = some none
  pl : ∀ c z, xs.pl c = some z → ∃ C, ct.tab z = some C ∧ mg c = some (.ref C) ∧ PySem.W.excIn K C He.veBase "ValueError.__new__" = true ∧ PySem.W.keepIn K (.ref C) = true ∧ PySem.W.subIn K (.ref C) (.type "BaseException") = some true ∧ PySem.W.typeIn K (.ref C) = some (.type "type")
/-- within an except suite: what is handled -/
structure HotX (ct : Ct) (L : Lm) (io : Option Nat) (X : Cx) : Prop where
  ex : ∃ (X0 : Cx) (a : Addr) (oe : Obj) (pn : List (Addr × Obj)) (cls : Value) (d : Option Addr) (x : Exc), X = X0.suite a ((a, oe) :: pn) ∧ Zc cls d oe ∧ (∃ vs, oe.data = .fields vs) ∧ L.xh = some x ∧
    ∀ σ F, ct.inv σ F → (∀ i, io = some i → σ[i]? = some (some (.ref a))) ∧ RX X.K ct F [] x cls d
structure Good (ct : Ct) (L : Lm) (k : Nat) (c : Sc) (X : Cx) : Prop where
  N : X.N = c.N
  sc : X.env.scope = c.sc
  un : X.A.units + 64 < cLine
  room : c.hot = none → Room (k + 2) X.A
  calm : c.hot = none → X.calm = true
  cool : c.hot = none → ∀ σ F, ct.inv σ F
  bear : ∀ j, mayW c j = true → ct.Bears j
  hx : ∀ io, c.hot = some io → HotX ct L io X
  xs : XsOk X.prog X.w X.K X.mg ct L.xs
  nd : X.N.Nodup
  gl : ∀ x ∈ c.gls, ∃ w v u, L.gl x = some w ∧ X.mg x = some u ∧ RelV v u ∧ ∀ F μ, RV X.K F μ w v
  fn : c.hot = none → ∀ f ∈ c.fns, FnC X.prog X.w X.K X.mg X.base ct k f.2 f.1 (L.fn f.1) (L.fi f.1)
  bs : ∀ x ∈ c.bs, X.mg x = none
  fnn : X.fn = c.fn
  xn : ∀ x ∈ c.xn, ∃ cv, X.mg x = some cv ∨ (X.mg x = none ∧ bootBuiltins x = some cv)
  top : c.top = true → X.stack = X.env :: X.outer ∧ X.env.frame = some X.env.locals
  gen : c.gen = true → ∃ cd P, X.env.code = .ref cd ∧ GxR.TabB X.base X.mg cd P ∧ P ∈ ct.tps
  sg : ∀ p ∈ c.sgn, SignF X.K X.mg p.1 p.2

theorem plain_star {e : Expr} (h : plainE e = true) (es : List Expr) (env : Env) : starEach (e :: es) env = (false, eval e env) :: starEach es env := by
  cases e <;> first | rfl | (simp [plainE] at h)
theorem plain_ix {e : Expr} (h : plainE e = true) : PlainIx e := by
  cases e <;> first | (exact fun _ _ => rfl) | (simp [plainE] at h)
theorem plain_marks {e : Expr} (h : plainE e = true) (op : CmpOp) : behindInMarks op e = false := by
  cases e <;> first | rfl | (simp [plainE] at h)
theorem plain_fold {e : Expr} (h : plainE e = true) (env : Env) (x : Value) : foldedSetIterable e env x = pure x := by
  cases e <;> first | rfl | (simp [plainE] at h)
theorem plain_tru {e : Expr} (h : plainE e = true) (h2 : plainOp e = true) (env : Env) (whole : Sem Value) : isTrue e env whole = (do let v ← whole; standAt e.pos; holding [v] (truthy v)) := by
  cases e <;> first | rfl | (simp [plainOp] at h2; done) | (rename_i op x p; cases op <;> first | rfl | (simp [plainOp] at h2))
theorem base_ok {e : Expr} (h : baseE e = true) (n : Str) (env : Env) : attributeBase e n env (eval e env) = eval e env := by
  cases e with
  | Call f as ks pos =>
    cases f <;> first | rfl | skip
    cases as <;> first | rfl | skip
    cases ks <;> first | rfl | skip
    simp [baseE] at h
  | _ => rfl
theorem back_any {pos : Pos} {env : Env} : ∀ {es : List Expr}, (∀ e ∈ es, plainE e = true) → (backTo pos (starEach es env)).any (·.1) = false
  | [], _ => rfl
  | e :: es, h => by
    rw [plain_star (h e List.mem_cons_self)]
    show (false || (backTo pos (starEach es env)).any (·.1)) = false
    rw [back_any fun x hx => h x (List.mem_cons_of_mem _ hx)]
    rfl
theorem back_all {pos : Pos} {env : Env} : ∀ {es : List Expr}, (∀ e ∈ es, plainE e = true) → (backTo pos (starEach es env)).all (fun x => !x.1) = true
  | [], _ => rfl
  | e :: es, h => by
    rw [plain_star (h e List.mem_cons_self)]
    show (!false && (backTo pos (starEach es env)).all (fun x => !x.1)) = true
    rw [back_all fun x hx => h x (List.mem_cons_of_mem _ hx)]
    rfl
theorem okName_d {x : Str} (h : okName x = true) : (x == ("__debug__" : Str)) = false ∧ (x == ("__classdict__" : Str)) = false := by
  simp only [okName, Bool.and_eq_true, Bool.not_eq_true'] at h
  exact h
theorem isB_d {c : Sc} {x : Str} (h : isB c x = true) : c.sc.names.lookup x = some .globalImplicit ∧ x ∈ c.bs ∧ (x == ("__debug__" : Str)) = false ∧ x ≠ "__name__" := by
  simp only [isB, isGl, Bool.and_eq_true, Bool.not_eq_true', decide_eq_true_eq] at h
  exact ⟨h.1.1.1, h.1.1.2, h.1.2, fun e => by rw [e] at h; simp at h⟩

section
variable {ct : Ct} {L : Lm} {k : Nat} {c : Sc} {X : Cx} {W : WX}
theorem Good.gl' (G : Good ct L k c X) {x : Str} (h : c.sc.names.lookup x = some .globalImplicit) : Gl X x := by
  show X.env.scope.names.lookup x = _
  rw [G.sc]; exact h
theorem Good.blk (G : Good ct L k c X) (hc : c.hot = none) (scope : Scope) (s : Shared) (H : Hp) (C : Addr) (cl : List (Str × Addr)) (fp : List Addr) : Good ct L k (blkSc c scope) (X.blk s H scope (compEnvC scope cl C X.env) fp) := by
  refine ⟨G.N, ?_, G.un, fun _ => G.room hc, fun _ => G.calm hc, fun _ => G.cool hc, G.bear, fun io h => (by rw [show (blkSc c scope).hot = c.hot from rfl, hc] at h; cases h), G.xs, G.nd, G.gl, G.fn, G.bs, rfl, G.xn, fun h => (by cases h), fun h => (by cases h), G.sg⟩
  show relS scope X.env.scope = relS scope c.sc
  rw [G.sc]
theorem Good.blkE (G : Good ct L k c X) (hc : c.hot = none) (scope : Scope) (s : Shared) (H : Hp) (C : Addr) (cl : List (Str × Addr)) (fp : List Addr) (W : WX) : Good ct L k (blkSc c scope) (X.blkE s H scope (compEnvC scope cl C X.env) fp W) := by
  refine ⟨G.N, ?_, G.un, fun _ => G.room hc, fun _ => G.calm hc, fun _ => G.cool hc, G.bear, fun io h => (by rw [show (blkSc c scope).hot = c.hot from rfl, hc] at h; cases h), G.xs, G.nd, G.gl, G.fn, G.bs, rfl, G.xn, fun h => (by cases h), fun h => (by cases h), G.sg⟩
  show relS scope X.env.scope = relS scope c.sc
  rw [G.sc]
theorem Good.one (G : Good ct L k c X) {i : Nat} {x : Str} (h1 : c.N[i]? = some x) (h2 : ownN c x = true) : X.N[i]? = some x ∧ Loc X.env.scope x ∧ (X.fn x = true ∨ X.env.scope.names.lookup x = some .local) := by
  rw [← G.N] at h1
  unfold ownN at h2
  rw [← G.sc, ← G.fnn] at h2
  split at h2
  · rename_i e
    exact ⟨h1, .inl e, .inr e⟩
  · rename_i e
    exact ⟨h1, .inr e, .inl h2⟩
  · cases h2
theorem cold_h {c : Sc} (h : cold c = true) : c.hot = none := by
  unfold cold at h
  exact Option.isNone_iff_eq_none.mp h
theorem cold_w {c : Sc} (h : c.hot = none) (j : Nat) : mayW c j = true := by unfold mayW; rw [h]
theorem Good.bears (G : Good ct L k c X) (h : c.hot = none) (vs : List Nat) : ∀ j ∈ vs, ct.Bears j := fun j _ => G.bear j (cold_w h j)
theorem tgOk_bears (G : Good ct L k c X) {tg : Tg} {e : Expr} (h : tgOk c tg e = true) : ∀ j ∈ tgIx tg, ct.Bears j := by
  intro j hj
  unfold tgOk at h
  split at h
  · simp only [Bool.and_eq_true] at h
    rw [List.mem_singleton.mp hj]
    exact G.bear _ h.2
  · simp only [Bool.and_eq_true] at h
    exact G.bear j (cold_w (cold_h h.1.1) j)
  · cases h
theorem sim_tg (G : Good ct L k c X) {tg : Tg} {e : Expr} (h : tgOk c tg e = true) : PG X e (gSet X.K tg) := by
  have one : ∀ {i : Nat} {x : Str}, c.N[i]? = some x → ownN c x = true → X.N[i]? = some x ∧ Loc X.env.scope x ∧ (X.fn x = true ∨ X.env.scope.names.lookup x = some .local) := fun {i x} h1 h2 => G.one h1 h2
  unfold tgOk at h
  split at h
  · simp only [Bool.and_eq_true, decide_eq_true_eq] at h
    obtain ⟨h1, h2, h3⟩ := one h.1.1 h.1.2
    exact sim_tgName G.nd h1 h2 h3
  · rename_i is es _ _
    simp only [Bool.and_eq_true, decide_eq_true_eq] at h
    obtain ⟨⟨hcold, hl⟩, ha⟩ := h
    have gen : ∀ (is : List Nat) (es : List Expr), es.length = is.length → ((is.zip es).all fun p => match p.2 with
      | .Name x _ => decide (c.N[p.1]? = some x) && ownN c x
      | _ => false) = true → PGs X es (gSeqs is) ∧ (assignEach es X.env).length = is.length ∧ (assignEach es X.env).findIdx? (·.1) = none ∧ ∀ p ∈ assignEach es X.env, p.1 = false := by
      intro is
      induction is with
      | nil =>
        intro es hl _
        cases es with
        | nil => exact ⟨pgs_nil, rfl, rfl, fun p hp => by cases hp⟩
        | cons e es => simp at hl
      | cons i is ih =>
        intro es hl ha
        cases es with
        | nil => simp at hl
        | cons e es =>
          simp only [List.zip_cons_cons, List.all_cons, Bool.and_eq_true] at ha
          obtain ⟨g1, g2, g3, g4⟩ := ih es (by simpa using hl) ha.2
          cases e with
          | Name x p =>
            have h0 := ha.1
            simp only [Bool.and_eq_true, decide_eq_true_eq] at h0
            obtain ⟨h1, h2, h3⟩ := one h0.1 h0.2
            have q : ∀ r ∈ assignEach (.Name x p :: es) X.env, r.1 = false := fun r hr => by
              have hr' : r ∈ (false, assign (.Name x p) X.env) :: assignEach es X.env := hr
              rcases List.mem_cons.mp hr' with rfl | hr'
              · rfl
              · exact g4 r hr'
            refine ⟨pgs_cons (pg_name G.nd h1 h2 h3) g1 rfl, ?_, ?_, q⟩
            · show (assignEach es X.env).length + 1 = is.length + 1
              rw [g2]
            · exact List.findIdx?_eq_none_iff.mpr q
          | _ => simp at ha
    obtain ⟨g1, g2, g3, _⟩ := gen is es hl ha
    exact sim_tgTup (G.calm (cold_h hcold)) g1 g2 g3
  · cases h

/-- a word of the syntax means what the text does -/
structure Sim (ct : Ct) (L : Lm) (k : Nat) (d : Den) (ck : Chk) : Prop where
  e : ∀ (c : Sc) (X : Cx) (W : WX) (ex : Expr), Good ct L k c X → Takes X W → ck.e c ex = true → plainE ex = true ∧ PE X ex (TE' X ct W d.e)
  t : ∀ (c : Sc) (X : Cx) (W : WX) (ex : Expr), Good ct L k c X → Takes X W → ck.t c ex = true → PT X ex (TT' X ct W d.t)
  l : ∀ (c : Sc) (X : Cx) (W : WX) (es : List Expr), Good ct L k c X → Takes X W → ck.l c es = true → (∀ e ∈ es, plainE e = true) ∧ PA X es (TA' X ct W d.l) ∧ ∀ env st ws st', d.l env st = .ok ws st' → ws.length = es.length
  z : ∀ (c : Sc) (es : List Expr), ck.l c es = true ∨ ck.lt c es = true → d.z = es.isEmpty
  an : ∀ (c : Sc) (X : Cx) (W : WX) (e : Expr) (es : List Expr) (pos : Pos), Good ct L k c X → Takes X W → ck.l c (e :: es) = true → PE X (.BoolOp .And (e :: es) pos) (TE' X ct W d.an)
  or : ∀ (c : Sc) (X : Cx) (W : WX) (e : Expr) (es : List Expr) (pos : Pos), Good ct L k c X → Takes X W → ck.l c (e :: es) = true → PE X (.BoolOp .Or (e :: es) pos) (TE' X ct W d.or)
  ta : ∀ (c : Sc) (X : Cx) (W : WX) (e : Expr) (es : List Expr) (pos : Pos), Good ct L k c X → Takes X W → ck.lt c (e :: es) = true → PW X (.BoolOp .And (e :: es) pos) (TT' X ct W d.ta)
  to : ∀ (c : Sc) (X : Cx) (W : WX) (e : Expr) (es : List Expr) (pos : Pos), Good ct L k c X → Takes X W → ck.lt c (e :: es) = true → PW X (.BoolOp .Or (e :: es) pos) (TT' X ct W d.to)
  p : ∀ (c : Sc) (X : Cx) (W : WX) (o : Option Expr), Good ct L k c X → Takes X W → ck.p c o = true → PO X o (TOf X.K ct W RO' d.p)
  c : ∀ (c : Sc) (X : Cx) (W : WX) (es : List Expr), Good ct L k c X → Takes X W → ck.c c es = true → PTs X es (TT' X ct W d.t)
  i : ∀ (c : Sc) (X : Cx) (W : WX) (tg ex : Expr), Good ct L k c X → Takes X W → ck.i c tg ex = true → PI X tg ex (TI' X ct W d.i)
  j : ∀ (c : Sc) (X : Cx) (W : WX) (es : List Expr), Good ct L k c X → Takes X W → ck.j c es = true → Prts X ct W es d.j
/-- a word that is an expression -/
theorem Sim.ofE {f : Sc → Expr → Bool} {m : Mx Va} (h : ∀ (c : Sc) (X : Cx) (W : WX) (ex : Expr), Good ct L k c X → Takes X W → f c ex = true → PE X ex (TE' X ct W m)) : Sim ct L k (mke m) (ckE f) where
  e := fun c X W ex G tk q => by
    simp only [ckE, Bool.and_eq_true] at q
    exact ⟨q.1, h c X W ex G tk q.2⟩
  t := fun c X W ex G tk q => by
    simp only [ckE, Bool.and_eq_true] at q
    exact sim_tru (h c X W ex G tk q.2) fun wh => plain_tru q.1.1 q.1.2 _ wh
  l := fun _ _ _ _ _ _ q => by cases q
  z := fun _ _ q => by rcases q with q | q <;> cases q
  an := fun _ _ _ _ _ _ _ _ q => by cases q
  or := fun _ _ _ _ _ _ _ _ q => by cases q
  ta := fun _ _ _ _ _ _ _ _ q => by cases q
  to := fun _ _ _ _ _ _ _ _ q => by cases q
  p := fun c X W o G tk q => by
    cases o with
    | none => cases q
    | some ex =>
      simp only [ckE, Bool.and_eq_true] at q
      exact sim_some (h c X W ex G tk q.2)
  c := fun c X W es G tk q => by
    match es, q with
    | [ex], q =>
      simp only [ckE, Bool.and_eq_true] at q
      exact pts_one (sim_tru (h c X W ex G tk q.2) fun wh => plain_tru q.1.1 q.1.2 _ wh)
  i := fun c X W tg ex G tk q => by
    simp only [ckE, Bool.and_eq_true] at q
    exact sim_it (h c X W ex G tk q.2)
  j := fun _ _ _ _ _ _ q => by cases q
theorem Sim.ofT {f g : Sc → Expr → Bool} {m : Mx Va} {mt : Mx Bool} (h : ∀ (c : Sc) (X : Cx) (W : WX) (ex : Expr), Good ct L k c X → Takes X W → f c ex = true → PE X ex (TE' X ct W m))
    (h2 : ∀ (c : Sc) (X : Cx) (W : WX) (ex : Expr), Good ct L k c X → Takes X W → g c ex = true → PT X ex (TT' X ct W mt)) : Sim ct L k (G.mk m mt) (ckT f g) where
  e := fun c X W ex G tk q => by
    simp only [ckT, Bool.and_eq_true] at q
    exact ⟨q.1, h c X W ex G tk q.2⟩
  t := fun c X W ex G tk q => by
    simp only [ckT, Bool.and_eq_true] at q
    exact h2 c X W ex G tk q.2
  l := fun _ _ _ _ _ _ q => by cases q
  z := fun _ _ q => by rcases q with q | q <;> cases q
  an := fun _ _ _ _ _ _ _ _ q => by cases q
  or := fun _ _ _ _ _ _ _ _ q => by cases q
  ta := fun _ _ _ _ _ _ _ _ q => by cases q
  to := fun _ _ _ _ _ _ _ _ q => by cases q
  p := fun c X W o G tk q => by
    cases o with
    | none => cases q
    | some ex =>
      simp only [ckT, Bool.and_eq_true] at q
      exact sim_some (h c X W ex G tk q.2)
  c := fun c X W es G tk q => by
    match es, q with
    | [ex], q =>
      simp only [ckT, Bool.and_eq_true] at q
      exact pts_one (h2 c X W ex G tk q.2)
  i := fun c X W tg ex G tk q => by
    simp only [ckT, Bool.and_eq_true] at q
    exact sim_it (h c X W ex G tk q.2)
  j := fun _ _ _ _ _ _ q => by cases q
theorem Sim.ofI {f : Sc → Expr → Expr → Bool} {m : Mx (List Va × Gd)} (h : ∀ (c : Sc) (X : Cx) (W : WX) (tg ex : Expr), Good ct L k c X → Takes X W → f c tg ex = true → PI X tg ex (TI' X ct W m)) :
    Sim ct L k (mkI m) ⟨fun _ _ => false, fun _ _ => false, fun _ _ => false, fun _ _ => false, fun _ _ => false, fun _ _ => false, f, fun _ _ => false⟩ where
  e := fun _ _ _ _ _ _ q => by cases q
  t := fun _ _ _ _ _ _ q => by cases q
  l := fun _ _ _ _ _ _ q => by cases q
  z := fun _ _ q => by rcases q with q | q <;> cases q
  an := fun _ _ _ _ _ _ _ _ q => by cases q
  or := fun _ _ _ _ _ _ _ _ q => by cases q
  ta := fun _ _ _ _ _ _ _ _ q => by cases q
  to := fun _ _ _ _ _ _ _ _ q => by cases q
  p := fun _ _ _ _ _ _ q => by cases q
  c := fun _ _ _ _ _ _ q => by cases q
  i := h
  j := fun _ _ _ _ _ _ q => by cases q
end
end G

set_option Elab.async false
set_option linter.all false
set_option maxRecDepth 100000
set_option maxHeartbeats 4000000
/-! isinstance of a caught error of an own class, with a dict or without -/
namespace G
open PySem PySem.Spec PySem.Calls PyProof.Rows PySem.W L2
section
variable {prog : Program} {w : World} {A : Around} {E : Value → Shared → Prop} {s : Shared} {K : Frag} {x D : Addr} {ox : Obj} {od : Option Obj}
theorem findD {C : Addr} {name : Str} {a g : Value} (c : (clsIn K C).isSome = true) (fa : findIn K (.ref C) name = some (some a)) (sg : specialIn K a "__get__" = some (some g)) (tk : takesIn K a = some true) : findObj K C od name = some (.bind g a) := by
  obtain ⟨cd, c⟩ := Option.isSome_iff_exists.mp c
  unfold findObj; rw [c, Option.bind_some, fa, Option.bind_some]; simp [sg, tk]
theorem cls_getD {Q : Option Value → Shared → Prop} (B : ExcC K D) (X : K.In s.heap) (I : InstAt s.heap x ox D od) (h : Q (some (.ref D)) { s with toks := s.toks + 1 }) : wpAny (model prog w) A (getAttr? (.ref x) "__class__") Q E s := by
  have ff : findObj K D od "__class__" = some (.bind (.builtin "getset_descriptor.__get__") (.builtin "object.__class__")) := findD (by obtain ⟨cd, c, _⟩ := any_some B.hd; rw [c]; rfl) B.ha B.hn B.ht
  obtain ⟨hp, g, d, t, os⟩ := s
  have l0 := I.type (M := model prog w); have l1 := looks_findIn (M := model prog w) X B.hg
  have l2 := looks_findIn (M := model prog w) X B.hk; have l3 := looks_find (M := model prog w) X I ff
  have isB : Looks (model prog w) hp (isInstance (.ref x) (.type "BaseException")) true := l0.andThen (looks_subIn X B.hs)
  have n0 : (false && onTheHeap (Value.builtin "BaseException.__getattribute__")) = false := rfl
  have n2 : (Value.builtin "BaseException.__getattribute__" == Value.builtin "object.__getattribute__") = false := by decide +kernel
  have n1 : (onTheHeap (Value.ref D) && Value.builtin "BaseException.__getattribute__" == Value.builtin "object.__getattribute__") = false := by rw [n2]; rfl
  unfold getAttr? getAttrBy? getAttrBy; refine wpAny_bind (wpAny_mkText (wpAny_bind (wpAny_attempt (wpAny_holding (wpAny_bind (l0.at (wpAny_bind (l1.at ?_))))))))
  show wpAny _ _ (if (onTheHeap (Value.ref D) && Value.builtin "BaseException.__getattribute__" == Value.builtin "object.__getattribute__") = true then _ else _) _ _ _; rw [n1, if_neg Bool.false_ne_true]
  unfold getAttrByItsOwn hookBefore; refine wpAny_bind ?_; rw [if_pos (show onTheHeap (Value.ref D) = true from rfl)]
  refine l2.at ?_; refine wpAny_bind (wpAny_attempt (wpAny_holding ?_)); unfold callGetattribute; rw [n0, if_neg Bool.false_ne_true]
  unfold boundAndCalled; rw [PySem.F.excAttr_ValueError.ga.bind (.ref x)]; refine wpAny_bind (wpAny_pure ?_)
  show wpAny _ _ (call (.builtin "BaseException.__getattribute__") [.ref x, .str "__class__" t]) _ _ _; refine wpAny_call (codeAny_call_builtin PySem.F.excAttr_ValueError.ga.plain PySem.F.entry_bexc_ga ?_)
  refine @check_slot (model prog w) _ _ ⟨hp, g, d, t + 1, os⟩ "BaseException.__getattribute__" "BaseException" "__getattribute__" (.ref x) [.str "__class__" t] [] _ (by decide +kernel) (by decide +kernel) isB (PySem.F.args_bexc_ga (.ref x) (.str "__class__" t)) ?_
  unfold Builtin.«object.__getattribute__»; refine wpAny_bind (wpAny_of_eq (a := ((Value.ref x : Value), [Value.str "__class__" t])) (by first | rfl | (simp only [slotArgs]; rfl)) ?_)
  refine wpAny_bind (wpAny_pure (wpAny_bind (l0.at (wpAny_bind (l3.at ?_)))))
  show wpAny _ _ (holding [Value.builtin "object.__class__"] (call (.builtin "getset_descriptor.__get__") [.builtin "object.__class__", .ref x, .ref D]) >>= ret) _ _ _; refine wpAny_bind (wpAny_holding (wpAny_call (class_get (s := ⟨hp, g, d, t + 1, os⟩) (ox := ox) (od := od) X I B.hm ?_)))
  refine wpAny_pure ?_; show wpAny _ _ (handedOut (.ref D)) _ _ _; rw [handedOut_of (v := .ref D) rfl]
  first | exact wpAny_pure (wpAny_pure h) | exact wpAny_pure h | exact wpAny_pure (wpAny_bind (wpAny_pure (wpAny_pure h)))
theorem kitD (B : ExcC K D) : KitX K (.ref x) (.ref D) (fun h => InstAt h x ox D od) := by
  obtain ⟨cdD, cD, _⟩ := any_some B.hd
  unfold clsIn at cD; split at cD
  · rename_i c' d' cd' sl' ho
    refine ⟨fun _ _ _ I => I.type, fun _ _ X _ => ?_, fun h tp dd its n sl X htp => ?_, fun X I k => cls_getD B X I k⟩
    · intro A' Q' E' s' k q
      unfold isType loadHead; exact wpAny_bind (wpAny_loadPart (k _ _ (X _ _ ho)) (wpAny_pure q))
    · refine Bool.eq_false_iff.mpr fun q => ?_
      have e : D = tp := Value.ref.inj (beq_iff_eq.mp q)
      subst e
      cases (X _ _ ho).symm.trans htp
  · cases cD
end
/-- isinstance(e, c), e the exception that the suite holds -/
def rIsD (K : PySem.W.Frag) (D a : Addr) (d : Option Addr) : List V → Hp → VK → Prop := fun xs H Q => ∃ (c : V) (cv : Value) (b : Bool), xs = [.ref a, c] ∧ (∀ u, RelV c u → u = cv) ∧ PySem.W.kitOne K (.ref D) cv = some b ∧ (d = none ∨ ∃ dd fs, d = some dd ∧ H dd = some (.xd fs)) ∧ Q (.bl b) H
theorem call_isD {X : Cx} {a D : Addr} {d : Option Addr} {oe : Obj} {pn : List (Addr × Obj)} (C : ExcC X.K D) (hz : Zc (.ref D) d oe) (hf : ∃ vs, oe.data = .fields vs) : CallR (X.suite a ((a, oe) :: pn)) (.builtin "isinstance") (rIsD X.K D a d) := by
  intro pins s σ H xs us Q I r h
  obtain ⟨c, cv, b, rfl, hcv, e, hd, q⟩ := h
  cases r with
  | cons rx rr =>
    cases rr with
    | cons rt rr =>
      cases rr
      cases rx
      have ec := hcv _ rt
      subst ec
      obtain ⟨hget, _⟩ := I.pin (a, oe) (List.mem_append.mpr (.inl List.mem_cons_self))
      obtain ⟨vs, hv⟩ := hf
      have J : ∃ od, PySem.W.InstAt s.heap a oe D od := by
        rcases hd with rfl | ⟨dd, fs, rfl, hx⟩
        · obtain ⟨oc, od, oda, osl⟩ := oe
          obtain ⟨h1, h2⟩ := hz
          dsimp only at h1 h2 hv
          subst h1 h2 hv
          exact ⟨none, hget, rfl, rfl, trivial⟩
        · have hx' : ObjOk X.prog X.w H s.heap dd (.xd fs) := I.hok dd _ hx
          obtain ⟨mA, hns, hr⟩ := hx'
          obtain ⟨od, ho, hl⟩ := lookIn_ns hns
          exact ⟨some od, hget, hz.1, by unfold PySem.W.notCls; rw [hv] <;> rfl, by rw [hz.2]; exact ho⟩
      obtain ⟨od, J⟩ := J
      exact PySem.W.kia_one (kitD C) I.kIn J e (fun z => nomatch z) fun tk => ⟨.bl b, H, I.kept (t' := tk) fun _ _ z => z, rfl, q⟩
end G

set_option Elab.async false
set_option linter.all false
set_option maxRecDepth 100000
set_option maxHeartbeats 8000000
namespace G
open PySem PySem.Spec PyProof.Rows L2

section
variable {ct : Ct} {L : Lm} {k : Nat} {c : Sc} {X : Cx} {W : WX}
theorem op_bop (op : BOp) (m : Bool) : OpR X (binaryOp (bopS op)) (opOf X.K ct W (bopV op m)) := by
  cases op
  · exact op_addV m
  · exact op_subV
  · exact op_mulV m
  · exact op_fdivV
  · exact op_modV
  · exact op_powV
theorem op_cop (hr : X.A.units + 64 < cLine) (op : COp) : OpR X (compareOp (copS op)) (opOf X.K ct W (copV op)) := by
  cases op
  · exact op_eqV' hr
  · exact op_neV' hr
  · exact op_ltV
  · exact op_leV
  · exact op_gtV
  · exact op_geV
  · exact op_inV hr
  · exact op_notInV hr
  · exact op_isNV
  · exact op_notNV
theorem genB_ok {env : Env} {x f : Str} {s : Scope} (h : genB x f s = true) : GxR.GenS env s x ∧ s.names.lookup f = some .globalImplicit ∧ (x == ("__debug__" : Str)) = false ∧ (f == ("__debug__" : Str)) = false := by
  unfold genB at h
  simp only [Bool.and_eq_true, decide_eq_true_eq, Bool.not_eq_true', List.all_eq_true] at h
  obtain ⟨h1, h2, h3, h4, h5, h6, h7, h8⟩ := h
  exact ⟨⟨h1, h2, fun y hy => (h3 y hy).1, h4, h5, fun y hy e => absurd e (h3 y hy).2⟩, h6, (okName_d h7).1, (okName_d h8).1⟩
theorem elt_ok {f x : Str} {gs : Tx} {s : Scope} {p1 p2 pos : Pos} {j : Nat} (hr : Room j X.A) (sg : SignF X.K X.mg f gs) (h : genB x f s = true) (ok : X.Ok) : EltQ X s x (.Call (.Name f p1) [.Name x p2] [] pos) (sgV gs) := by
  obtain ⟨g1, g2, g3, g4⟩ := genB_ok (env := X.env) h
  intro ce A' E' c t u m e1 e2 hA hd hb hn hm
  exact elt_sign sg ok.mod.kin ok.mod.glob ok.mod.nolimit g1.kind g1.loc g2 g4 g3 e1 (e2.trans ok.glob) hA (by have := hr.dp; omega) hb hn hm
theorem mt_any (hu : X.A.units + 64 < cLine) (kd : Mth) : ∃ id, MtR X id (mOf X.K ct W (mthV kd)) ∧ PlainAttrs (mthT kd) ∧ Slot (mthT kd) (mthN kd) id ∧ typeOf (.builtin id) = pure (.type "method_descriptor") := by
  cases kd
  · exact ⟨_, mt_appendV, PySem.F.plainAttrs_list, PySem.F.slot_list_append, PySem.F.type_list_append⟩
  · exact ⟨_, mt_extendV, PySem.F.plainAttrs_list, PySem.F.slot_list_extend, PySem.F.type_list_extend⟩
  · exact ⟨_, mt_popV, PySem.F.plainAttrs_list, PySem.F.slot_list_pop, PySem.F.type_list_pop⟩
  · exact ⟨_, mt_insertV, PySem.F.plainAttrs_list, PySem.F.slot_list_insert, PySem.F.type_list_insert⟩
  · exact ⟨_, mt_joinV, PySem.F.plainAttrs_str, PySem.F.slot_str_join, PySem.F.type_str_join⟩
  · exact ⟨_, mt_findV, PySem.F.plainAttrs_str, PySem.F.slot_str_find, PySem.F.type_str_find⟩
  · exact ⟨_, mt_lstripV, PySem.F.plainAttrs_str, PySem.F.slot_str_lstrip, PySem.F.type_str_lstrip⟩
  · exact ⟨_, mt_isalnumV, PySem.F.plainAttrs_str, PySem.F.slot_str_isalnum, PySem.F.type_str_isalnum⟩
  · exact ⟨_, mt_isdigitV, PySem.F.plainAttrs_str, PySem.F.slot_str_isdigit, PySem.F.type_str_isdigit⟩
  · exact ⟨_, mt_getV hu, PySem.F.plainAttrs_dict, PySem.F.slot_dict_get, PySem.F.type_dict_get⟩
  · exact ⟨_, mt_splitV, PySem.F.plainAttrs_str, PySem.F.slot_str_split, PySem.F.type_str_split⟩
  · exact ⟨_, mt_setdV, PySem.F.plainAttrs_dict, PySem.F.slot_dict_setdefault, PySem.F.type_dict_setdefault⟩
  · exact ⟨_, mt_indexV, PySem.F.plainAttrs_list, PySem.F.slot_list_index, PySem.F.type_list_index⟩
/-- a method's own class, of a locked dict too -/
def TyD (K : PySem.W.Frag) (T : String) (x : V) (H : Hp) : Prop := tyV K T x H ∨ (T = "dict" ∧ ∃ p kvs, x = .ref p ∧ Rd H p (.dK kvs))
theorem tyD_is {X : Cx} {pins : List (Addr × Obj)} {σ : L2.St} {H : Hp} {s : Shared} {T : String} {x : V} {v : Value} (I : Inv X pins σ H s) (r : RelV x v) (ty : TyD X.K T x H) :
    s.TypeIs v T ∧ ∀ a, v = .ref a → ∃ ob, s.heap.get? a = some ob ∧ ob.dict = none := by
  rcases ty with ty | ⟨rfl, p, kvs, rfl, rd⟩
  · exact tyV_is I r ty
  · obtain rfl : v = Value.ref p := r
    obtain ⟨_, _, vs, _, dd⟩ := dk_rd I.hok rd
    exact ⟨dd.typeIs, fun a e => by cases e; obtain ⟨o, _, _, e, ex, _⟩ := dd; exact ⟨o, e, ex.2.1⟩⟩
section
variable {X : Cx} {o e : Expr} {es : List Expr} {to : TE} {t : TA} {name : Str} {apos cpos : Pos} {T id : String} {r : V → List V → Hp → VK → Prop}
theorem pe_mthD0 (pa : PlainAttrs T) (slot : Slot T name id) (hty : typeOf (.builtin id) = pure (.type "method_descriptor")) (hm : MtR X id r) (ho : PE X o to) (hbase : attributeBase o name X.env (eval o X.env) = eval o X.env) (hline : (apos.endLine == cpos.line) = true) :
    PE X (.Call (.Attribute o name apos) [] [] cpos) (fun σ H Q => to σ H fun x H1 => TyD X.K T x H1 ∧ r x [] H1 Q) where
  run pins s σ H Q I h := wpAny_Call_method0_late hbase hline (thn (ho.run pins s σ H _ I h) fun v s1 ⟨x, H1, I1, r1, ty, q1⟩ =>
    let ⟨h1, h2⟩ := tyD_is I1 r1 ty
    ⟨T, id, pa, slot, hty, h1, h2, Calls.callWith_builtin rfl (PySem.evalArgs_none (hm pins s1 σ H1 x [] v [] Q I1 r1 .nil q1))⟩)
theorem pe_mthD (pa : PlainAttrs T) (slot : Slot T name id) (hty : typeOf (.builtin id) = pure (.type "method_descriptor")) (hm : MtR X id r) (ho : PE X o to) (ha : PA X (e :: es) t) (hbase : attributeBase o name X.env (eval o X.env) = eval o X.env)
    (few : ((backTo cpos (starEach (e :: es) X.env)).all (fun x => !x.1) && (backToKw cpos (keywordEach [] X.env)).all (fun x => x.1.isSome) && decide ((e :: es).length + ([] : List Keyword).length + (if ([] : List Keyword).isEmpty then 0 else 1) < 30)) = true)
    (hline : (apos.endLine == cpos.line) = true) (star : starEach (e :: es) X.env = (false, eval e X.env) :: starEach es X.env) (plain : (backTo cpos (starEach es X.env)).any (·.1) = false) :
    PE X (.Call (.Attribute o name apos) (e :: es) [] cpos) (fun σ H Q => to σ H fun x H1 => TyD X.K T x H1 ∧ t σ H1 fun xs H2 => r x xs H2 Q) where
  run pins s σ H Q I h := by
    refine wpAny_Call_method_late hbase few hline rfl (thn (ho.run pins s σ H _ I h) ?_)
    rintro v s1 ⟨x, H1, I1, r1, ty, q1⟩
    obtain ⟨h1, h2⟩ := tyD_is I1 r1 ty
    have A := ha.run cpos pins s1 σ H1 _ I1 q1
    rw [star] at A
    refine ⟨T, id, pa, slot, hty, h1, h2, ?_⟩
    rw [star]
    refine Calls.callWith_builtin ?_ (Calls.evalArgs_plain (thn A fun us s2 ⟨vs, H2, I2, r2, q2⟩ => hm pins s2 σ H2 x vs v us Q I2 r1 r2 q2))
    show (false || (backTo cpos (starEach es X.env)).any (·.1)) = false
    rw [plain]
    rfl
end
theorem tyB_ok {K : PySem.W.Frag} {F : Hp} {μ : List Addr} {H : Hp} {st : Sto} {T : String} {x : Va} {v : V} (r : Rel K ct F μ st H) (rv : RV K F μ x v) (h : tyB T x st = true) : TyD K T v H := by
  unfold tyB at h
  split at h
  · rename_i e
    subst e
    obtain ⟨l, el⟩ := Option.isSome_iff_exists.mp h
    obtain ⟨a, vs, rfl, hq, _⟩ := lstOf_ok r rv el
    exact .inl (.inl ⟨rfl, _, .of hq⟩)
  split at h
  · rename_i e
    subst e
    obtain ⟨l, el⟩ := Option.isSome_iff_exists.mp h
    rw [strOf_ok rv el]
    exact .inl rfl
  split at h
  · rename_i e
    subst e
    obtain ⟨⟨ks, l⟩, el⟩ := Option.isSome_iff_exists.mp h
    obtain ⟨a, kvs, rfl, hq, _⟩ := dicOf_ok r rv el
    exact .inr ⟨rfl, a, kvs, rfl, hq⟩
  · cases h
theorem own_snd (c : Sc) (vs : List Nat) : (ownOf c vs).map (·.2) = vs := by
  unfold ownOf
  rw [List.map_map]
  conv => rhs; rw [← List.map_id vs]
  rfl
theorem bif_ok (b : Bif) (m : Bool) : (∃ id, CallR X (.builtin id) (cOf X.K ct W (bifV b m)) ∧ bootBuiltins (bifN b) = some (.builtin id)) ∨ ∃ t, CallR X (.type t) (cOf X.K ct W (bifV b m)) ∧ bootBuiltins (bifN b) = some (.type t) := by
  cases b
  · exact .inl ⟨_, call_lenV, by decide +kernel⟩
  · exact .inr ⟨_, call_listV m, by decide +kernel⟩
  · exact .inr ⟨_, call_tupleV, by decide +kernel⟩
  · exact .inr ⟨_, call_strV, by decide +kernel⟩
  · exact .inr ⟨_, call_toIntV, by decide +kernel⟩
theorem loc_of (G : Good ct L k c X) {x : Str} (h : isLoc c x = true) : (X.env.scope.names.lookup x = some .local ∨ X.env.scope.names.lookup x = some .cell) ∨ X.env.scope.names.lookup x = some .free := by
  unfold isLoc at h
  rw [← G.sc] at h
  split at h
  · rename_i e; exact .inl (.inl e)
  · rename_i e; exact .inl (.inr e)
  · rename_i e; exact .inr e
  · cases h
theorem call_mm (hc : X.calm = true) (mx : Bool) : CallR X (.builtin (if mx then "max" else "min")) (cOf X.K ct W (mmV mx)) := by
  intro pins s σ H xs us Q I r h
  obtain ⟨F, μ, st, ws, σ', rl, rs, p⟩ := h
  unfold mmV at p
  split at p
  · rename_i i j
    cases rs with
    | cons r1 rr =>
      cases rr with
      | cons r2 rr =>
        cases rr
        cases r1
        cases r2
        cases mx with
        | true => exact call_max2 hc pins s σ H _ us Q I r ⟨i, j, rfl, p.here rl (.int _)⟩
        | false => exact call_min2 hc pins s σ H _ us Q I r ⟨i, j, rfl, p.here rl (.int _)⟩
  · rename_i i j k
    cases rs with
    | cons r1 rr =>
      cases rr with
      | cons r2 rr =>
        cases rr with
        | cons r3 rr =>
          cases rr
          cases r1
          cases r2
          cases r3
          cases mx with
          | true =>
            refine call_max3Nu hc pins s σ H _ us Q I r ⟨.int i, .int j, .int k, _, rfl, ?_, p.here rl (.int _)⟩
            by_cases h1 : i < j <;> simp [nuMax3, nuMax2, nuLt, nuCB, h1] <;> split <;> rfl
          | false =>
            refine call_min3Nu hc pins s σ H _ us Q I r ⟨.int i, .int j, .int k, _, rfl, ?_, p.here rl (.int _)⟩
            by_cases h1 : j < i <;> simp [nuMin3, nuMin2, nuLt, nuCB, h1] <;> split <;> rfl
  · exact p.elim
theorem ct_inj {ct : Ct} {z : Tx} {C D : Addr} (h1 : ct.tab z = some C) (h2 : ct.tab z = some D) : C = D := Option.some.inj (h1.symm.trans h2)
theorem sim_xf (G : Good ct L k c X) {i : Nat} {x f : Str} {p pos : Pos} (h1 : c.N[i]? = some x) (h2 : isLoc c x = true) (h3 : okName x = true) (h4 : c.hot = some (some i)) : PE X (.Attribute (.Name x p) f pos) (TE' X ct W (xfV L f)) := by
  obtain ⟨X0, a, oe, pn, cls, d, y, rfl, hz, hf, hL, hinv⟩ := (G.hx _ h4).ex
  obtain ⟨d1, d2⟩ := okName_d h3
  have hv : Vis (X0.suite a ((a, oe) :: pn)).env.scope x := by
    rcases loc_of G h2 with (q | q) | q
    · exact .inl q
    · exact .inr (.inl q)
    · exact .inr (.inr q)
  have he := pe_var (X := X0.suite a ((a, oe) :: pn)) (i := i) (pos := p) (by rw [G.N]; exact h1) hv d1 d2
  by_cases hfl : L.xs.fld y.cls f = true
  · obtain ⟨C, e1, e2⟩ := G.xs.fld _ _ hfl
    have B := G.xs.cls _ _ e1
    refine PE.mono (pe_xf (C := C) (d := d) (cls := cls) ⟨B.hg, B.hk, B.hs, B.hd⟩ e2 hz hf he) fun σ H Q ⟨F, μ, env, st, r, re, q⟩ => ?_
    obtain ⟨g1, g2⟩ := hinv σ F re.inv
    refine ⟨_, g1 i rfl, rfl, ?_⟩
    obtain ⟨C', e3, e4⟩ := g2.cls
    have e5 := ct_inj e3 e1
    subst e5
    unfold xfV at q
    rw [hL] at q
    simp only [hfl, if_true] at q
    cases el : y.fs.lookup f.cps.toList with
    | none => rw [el] at q; exact q.elim
    | some w =>
      rw [el] at q
      obtain ⟨d', fvs, v, a1, a2, a3, a4⟩ := g2.fs _ _ el
      rw [mkS_tl] at a3
      exact ⟨e4, d', fvs, v, a1, r.sub _ _ a2, a3, q.here r (a4.mono (.refl _) List.nil_prefix)⟩
  · refine ⟨fun pins s σ H Q I ⟨F, μ, env, st, r, re, q⟩ => ?_⟩
    unfold xfV at q
    rw [hL] at q
    simp only [hfl, if_false] at q
    exact q.elim
theorem sim_xi (G : Good ct L k c X) {i : Nat} {y z : Str} {p p2 p3 pos : Pos} (h1 : isB c "isinstance" = true) (h2 : c.N[i]? = some y) (h3 : isLoc c y = true) (h4 : okName y = true) (h5 : c.hot = some (some i)) (h6 : isGl c z = true) (h7 : okName z = true) (h8 : (z == ("__name__" : Str)) = false) : PE X (.Call (.Name "isinstance" p) [.Name y p2, .Name z p3] [] pos) (TE' X ct W (xiV L z)) := by
  obtain ⟨X0, a, oe, pn, cls, d, x, rfl, hz, hf, hL, hinv⟩ := (G.hx _ h5).ex
  obtain ⟨d1, d2⟩ := okName_d h4
  obtain ⟨b1, b2, b3, b4⟩ := isB_d h1
  obtain ⟨d3, d4⟩ := okName_d h7
  have hv : Vis (X0.suite a ((a, oe) :: pn)).env.scope y := by
    rcases loc_of G h3 with (q | q) | q
    · exact .inl q
    · exact .inr (.inl q)
    · exact .inr (.inr q)
  have he := pe_var (X := X0.suite a ((a, oe) :: pn)) (i := i) (pos := p2) (by rw [G.N]; exact h2) hv d1 d2
  have hgz : Gl (X0.suite a ((a, oe) :: pn)) z := G.gl' (by simpa [isGl] using h6)
  have hn : z ≠ "__name__" := fun e => by rw [e] at h8; simp at h8
  cases es : L.xs.sub x.cls z with
  | none =>
    refine ⟨fun pins s σ H Q I ⟨F, μ, env, st, r, re, q⟩ => ?_⟩
    unfold xiV at q
    rw [hL] at q
    simp only [es] at q
    exact q.elim
  | some b =>
    obtain ⟨C, e1, e2⟩ := G.xs.sub _ _ _ es
    have fin : ∀ {σ : L2.St} {H : Hp} {Q : VK} {F : Hp} {μ : List Addr} {env : Ev} {st : Sto}, Rel X0.K ct F μ st H → GPost X0.K ct W (RV X0.K) σ F μ H Q (xiV L z env st) → Q (.bl b) H := fun {σ H Q F μ env st} r q => by
      unfold xiV at q
      rw [hL] at q
      simp only [es] at q
      exact q.here r (.bl b)
    have key : ∀ (u : V) (cv : Value), (∀ w, RelV u w → w = cv) → PE (X0.suite a ((a, oe) :: pn)) (.Name z p3) (tC u) → PySem.W.kitOne X0.K (.ref C) cv = some b → PE (X0.suite a ((a, oe) :: pn)) (.Call (.Name "isinstance" p) [.Name y p2, .Name z p3] [] pos) (TE' (X0.suite a ((a, oe) :: pn)) ct W (xiV L z)) := fun u cv hu hp hk => by
      have B := G.xs.cls _ _ e1
      by_cases hcl : cls = .ref C
      · subst hcl
        refine PE.mono (pe_callB (call_isD (D := C) B hz hf) (G.gl' b1) (G.bs _ b2) (by decide +kernel) (pa_cons he (pa_cons hp pa_nil)) b4 b3) fun σ H Q ⟨F, μ, env, st, r, re, q⟩ => ?_
        obtain ⟨g1, g2⟩ := hinv σ F re.inv
        exact ⟨_, g1 i rfl, u, cv, b, rfl, hu, hk, g2.dd.imp (fun e => e) (fun ⟨d', fvs, g3, g4⟩ => ⟨d', fvs, g3, r.sub _ _ g4⟩), fin r q⟩
      · refine ⟨fun pins s σ H Q I ⟨F, μ, env, st, r, re, q⟩ => ?_⟩
        obtain ⟨g1, g2⟩ := hinv σ F re.inv
        obtain ⟨C', e3, e4⟩ := g2.cls
        exact absurd (by rw [e4, ct_inj e3 e1]) hcl
    rcases e2 with ⟨D, m1, _, m3⟩ | ⟨n, m1, m2, _, m3⟩
    · exact key (.ref D) (.ref D) (fun w h => h) (pe_glob hgz m1 rfl d3) m3
    · exact key (.ty n) (.type n) (fun w h => h) (pe_bltn (v := .ty n) hgz m1 m2 rfl hn d3) m3
theorem kin_of {neg : Bool} {l : List (Tx × Va)} {a : Addr} {me : Mx Va} (h1 : ∀ z wv, l.lookup z = some wv → ∃ u v, PySem.W.nsIn X.K a (mkS z) = some (some u) ∧ RelV v u ∧ ∀ F μ, RV X.K F μ wv v) (h2 : ∀ z, l.lookup z = none → PySem.W.nsIn X.K a (mkS z) = some none)
    {σ : L2.St} {H : Hp} {Q : VK} (h : TE' X ct W (mU (kinV l neg) me) σ H Q) : tOp (fun x y H Q => ∃ (z : Str) (r : Option Value), x = .str z ∧ y = .ref a ∧ PySem.W.nsIn X.K a z = some r ∧ Q (.bl (if neg then !r.isSome else r.isSome)) H) (TE' X ct W me) (tC (.ref a)) σ H Q := by
  obtain ⟨F, μ, env, st, r, re, p⟩ := h
  refine ⟨F, μ, env, st, r, re, p.bind fun w st1 F1 μ1 H1 v _ x1 r1 rv p1 => ?_⟩
  unfold kinV at p1
  cases ez : strOf w with
  | none => rw [ez] at p1; exact p1.elim
  | some z =>
    rw [ez] at p1
    obtain rfl := strOf_ok rv ez
    cases el : l.lookup z with
    | none => simp only [el] at p1; exact ⟨mkS z, none, rfl, rfl, h2 z el, p1.here r1 (.bl _)⟩
    | some wv =>
      simp only [el] at p1
      obtain ⟨u, v, g1, _⟩ := h1 z wv el
      exact ⟨mkS z, some u, rfl, rfl, g1, p1.here r1 (.bl _)⟩
theorem op_kin {neg : Bool} {op : CmpOp} {a : Addr} {es : Array DictEntry} {m : Nat} (D : KDict X.K X.w a es m) (ho : op = if neg then .NotIn else .In) : OpR X (compareOp op) (fun x y H Q => ∃ (z : Str) (r : Option Value), x = .str z ∧ y = .ref a ∧ PySem.W.nsIn X.K a z = some r ∧ Q (.bl (if neg then !r.isSome else r.isSome)) H) := by
  subst ho
  cases neg
  · exact op_in_kd D
  · exact op_notIn_kd D
theorem sim_kin {n : Str} {neg : Bool} {op : CmpOp} {e : Expr} {me : Mx Va} {np pos : Pos} (xs : XsOk X.prog X.w X.K X.mg ct L.xs) (hg : Gl X n) (hdb : (n == ("__debug__" : Str)) = false) (he : PE X e (TE' X ct W me)) (ho : op = if neg then .NotIn else .In) :
    PE X (.Compare e [op] [.Name n np] pos) (TE' X ct W (mKin (L.xs.kd n) neg me)) ∧ PT X (.Compare e [op] [.Name n np] pos) (TT' X ct W (mTst (mKin (L.xs.kd n) neg me))) := by
  cases ek : L.xs.kd n with
  | none =>
    constructor
    · exact ⟨fun pins s σ H Q I ⟨F, μ, env, st, r, re, p⟩ => p.elim⟩
    · exact ⟨fun pins s σ H Q I ⟨F, μ, env, st, r, re, p⟩ => p.elim⟩
  | some l =>
    obtain ⟨a, es, m, hm, D, h1, h2⟩ := xs.kd n l ek
    have hb := pe_glob (X := X) (pos := np) (v := .ref a) hg hm rfl hdb
    have hm : behindInMarks op (.Name n np) = false := by subst ho; cases neg <;> rfl
    exact ⟨PE.mono (pe_cmpR (op_kin D ho) he hb hm) fun σ H Q h => kin_of h1 h2 h, PT.mono (pt_cmpR (op_kin D ho) he hb hm) fun σ H Q h => tst_of (fun _ h => kin_of h1 h2 h) h⟩
theorem sim_kix {n : Str} {e : Expr} {me : Mx Va} {np pos : Pos} (xs : XsOk X.prog X.w X.K X.mg ct L.xs) (hg : Gl X n) (hdb : (n == ("__debug__" : Str)) = false) (he : PE X e (TE' X ct W me)) (hp : PlainIx e) : PE X (.Subscript (.Name n np) e pos) (TE' X ct W (mKix (L.xs.kd n) me)) := by
  cases ek : L.xs.kd n with
  | none => exact ⟨fun pins s σ H Q I ⟨F, μ, env, st, r, re, p⟩ => p.elim⟩
  | some l =>
    obtain ⟨a, es, m, hm, D, h1, h2⟩ := xs.kd n l ek
    have hb := pe_glob (X := X) (pos := np) (v := .ref a) hg hm rfl hdb
    refine PE.mono (pe_ix ix_kdict hb he hp) fun σ H Q ⟨F, μ, env, st, r, re, p⟩ => ?_
    refine ⟨F, μ, env, st, r, re, p.bind fun w st1 F1 μ1 H1 v _ x1 r1 rv p1 => ?_⟩
    unfold kixV at p1
    cases ez : strOf w with
    | none => rw [ez] at p1; exact p1.elim
    | some z =>
      rw [ez] at p1
      obtain rfl := strOf_ok rv ez
      cases el : l.lookup z with
      | none => simp only [el] at p1; exact p1.elim
      | some wv =>
        simp only [el] at p1
        obtain ⟨u, v, g1, g2, g3⟩ := h1 z wv el
        exact ⟨a, mkS z, v, rfl, rfl, ⟨es, m, u, D.at_, D.lit, g1, g2⟩, p1.here r1 (g3 _ _)⟩
theorem sim : ∀ t : T, Sim ct L k (ev L t) (chk t)
  | .nil => {
      e := fun _ _ _ _ _ _ q => by cases q
      t := fun _ _ _ _ _ _ q => by cases q
      l := fun c X W es G tk q => by
        match es, q with
        | [], _ => exact ⟨fun _ h => (by cases h), sim_anil, fun env st ws st' h => (by cases h; rfl)⟩
      z := fun c es q => by
        match es, q with
        | [], _ => rfl
        | _ :: _, .inl q => cases q
        | _ :: _, .inr q => cases q
      an := fun _ _ _ _ _ _ _ _ q => by cases q
      or := fun _ _ _ _ _ _ _ _ q => by cases q
      ta := fun _ _ _ _ _ _ _ _ q => by cases q
      to := fun _ _ _ _ _ _ _ _ q => by cases q
      p := fun c X W o G tk q => by
        match o, q with
        | none, _ => exact sim_none
      c := fun c X W es G tk q => by
        match es, q with
        | [], _ => exact ⟨fun pins s σ H Q I ⟨F, μ, env, st, r, re, p⟩ => pts_nil.run pins s σ H Q I (p.here r rfl)⟩
      i := fun _ _ _ _ _ _ _ q => by cases q
      j := fun c X W es G tk q => by
        match es, q with
        | [], _ => exact .nil }
  | .cons a b => {
      e := fun _ _ _ _ _ _ q => by cases q
      t := fun _ _ _ _ _ _ q => by cases q
      l := fun c X W es G tk q => by
        match es, q with
        | x :: r, q =>
          simp only [chk, Bool.and_eq_true] at q
          obtain ⟨p1, h1⟩ := (sim a).e c X W x G tk q.1
          obtain ⟨p2, h2, h3⟩ := (sim b).l c X W r G tk q.2
          refine ⟨fun y hy => ?_, sim_acons h1 h2 (plain_star p1 _ _), fun env st ws st' h => ?_⟩
          · rcases List.mem_cons.mp hy with rfl | hy
            · exact p1
            · exact p2 y hy
          · have h : ((ev L a).e env st).bind (fun x st => ((ev L b).l env st).bind fun xs st => .ok (x :: xs) st) = .ok ws st' := h
            cases ea : (ev L a).e env st with
            | ok x1 s1 =>
              rw [ea] at h
              simp only [R.bind_ok] at h
              cases eb : (ev L b).l env s1 with
              | ok x2 s2 =>
                rw [eb] at h
                simp only [R.bind_ok] at h
                cases h
                rw [List.length_cons, List.length_cons, h3 _ _ _ _ eb]
              | err _ _ => rw [eb] at h; cases h
              | stuck => rw [eb] at h; cases h
            | err _ _ => rw [ea] at h; cases h
            | stuck => rw [ea] at h; cases h
      z := fun c es q => by
        match es, q with
        | _ :: _, _ => rfl
        | [], .inl q => cases q
        | [], .inr q => cases q
      an := fun c X W e es pos G tk q => by
        simp only [chk, Bool.and_eq_true] at q
        have h1 := ((sim a).e c X W e G tk q.1).2
        have hz := (sim b).z c es (.inl q.2)
        cases es with
        | nil =>
          have e : (ev L (.cons a b)).an = (ev L a).e := if_pos hz
          rw [e]
          exact pe_one h1
        | cons y ys =>
          have e : (ev L (.cons a b)).an = mAnd (ev L a).e (ev L b).an := if_neg (by rw [hz]; exact Bool.false_ne_true)
          rw [e]
          exact sim_and h1 ((sim b).an c X W y ys pos G tk q.2)
      or := fun c X W e es pos G tk q => by
        simp only [chk, Bool.and_eq_true] at q
        have h1 := ((sim a).e c X W e G tk q.1).2
        have hz := (sim b).z c es (.inl q.2)
        cases es with
        | nil =>
          have e : (ev L (.cons a b)).or = (ev L a).e := if_pos hz
          rw [e]
          exact pe_one h1
        | cons y ys =>
          have e : (ev L (.cons a b)).or = mOr (ev L a).e (ev L b).or := if_neg (by rw [hz]; exact Bool.false_ne_true)
          rw [e]
          exact sim_or h1 ((sim b).or c X W y ys pos G tk q.2)
      ta := fun c X W e es pos G tk q => by
        simp only [chk, Bool.and_eq_true] at q
        have h1 := (sim a).t c X W e G tk q.1
        have hz := (sim b).z c es (.inr q.2)
        cases es with
        | nil =>
          have e : (ev L (.cons a b)).ta = (ev L a).t := if_pos hz
          rw [e]
          exact pw_and1 h1
        | cons y ys =>
          have e : (ev L (.cons a b)).ta = mTAnd (ev L a).t (ev L b).ta := if_neg (by rw [hz]; exact Bool.false_ne_true)
          rw [e]
          exact sim_tand h1 ((sim b).ta c X W y ys pos G tk q.2)
      to := fun c X W e es pos G tk q => by
        simp only [chk, Bool.and_eq_true] at q
        have h1 := (sim a).t c X W e G tk q.1
        have hz := (sim b).z c es (.inr q.2)
        cases es with
        | nil =>
          have e : (ev L (.cons a b)).to = (ev L a).t := if_pos hz
          rw [e]
          exact pw_or1 h1
        | cons y ys =>
          have e : (ev L (.cons a b)).to = mTOr (ev L a).t (ev L b).to := if_neg (by rw [hz]; exact Bool.false_ne_true)
          rw [e]
          exact sim_tor h1 ((sim b).to c X W y ys pos G tk q.2)
      p := fun _ _ _ _ _ _ q => by cases q
      c := fun _ _ _ _ _ _ q => by cases q
      i := fun _ _ _ _ _ _ _ q => by cases q
      j := fun c X W es G tk q => by
        match es, q with
        | x :: r, q =>
          simp only [chk, Bool.and_eq_true] at q
          exact .cons ((sim a).e c X W x G tk q.1).2 ((sim b).j c X W r G tk q.2) }
  | .js l => .ofE fun c X W ex G tk q => by
      split at q
      · exact sim_js ((sim l).j c X W _ G tk q)
      · cases q
  | .fmt a => .ofE fun c X W ex G tk q => by
      split at q
      · exact sim_fmt ((sim a).e c X W _ G tk q).2
      · cases q
  | .var i => .ofE fun c X W ex G tk q => by
      split at q
      · rename_i x p
        simp only [Bool.and_eq_true, decide_eq_true_eq] at q
        obtain ⟨d1, d2⟩ := okName_d q.2
        refine sim_var (by rw [G.N]; exact q.1.1) ?_ d1 d2
        have h := q.1.2
        show X.env.scope.names.lookup x = _ ∨ X.env.scope.names.lookup x = _ ∨ X.env.scope.names.lookup x = _
        rw [G.sc]
        unfold isLoc at h
        split at h
        · exact .inl (by assumption)
        · exact .inr (.inl (by assumption))
        · exact .inr (.inr (by assumption))
        · cases h
      · cases q
  | .glob y => .ofE fun c X W ex G tk q => by
      split at q
      · rename_i x p
        simp only [Bool.and_eq_true, decide_eq_true_eq, isGl] at q
        obtain ⟨⟨⟨rfl, h1⟩, h2⟩, h3⟩ := q
        obtain ⟨w, v, u, e1, e2, e3, e4⟩ := G.gl x h2
        simp only [e1]
        exact sim_C (pe_glob (G.gl' h1) e2 e3 (okName_d h3).1) e4
      · cases q
  | .int i => .ofE fun c X W ex G tk q => by
      split at q
      · obtain rfl := of_decide_eq_true q
        exact sim_C pe_int fun _ _ => .int _
      · cases q
  | .str s => .ofE fun c X W ex G tk q => by
      split at q
      · rename_i x _ _
        obtain rfl := of_decide_eq_true q
        refine sim_C pe_str fun F μ => ?_
        have h := RV.str (K := X.K) (F := F) (μ := μ) x.cps.toList
        rw [mkS_tl] at h
        exact h
      · cases q
  | .bl b => .ofE fun c X W ex G tk q => by
      split at q
      · obtain rfl := eq_of_beq q
        exact sim_C pe_bl fun _ _ => .bl _
      · cases q
  | .non => .ofE fun c X W ex G tk q => by
      split at q
      · exact sim_C pe_non fun _ _ => .non
      · cases q
  | .bin op m a b => .ofE fun c X W ex G tk q => by
      split at q
      · simp only [Bool.and_eq_true, decide_eq_true_eq] at q
        obtain ⟨⟨rfl, h1⟩, h2⟩ := q
        exact sim_bin (op_bop op m) ((sim a).e c X W _ G tk h1).2 ((sim b).e c X W _ G tk h2).2
      · cases q
  | .neg a => .ofE fun c X W ex G tk q => by
      split at q
      · exact sim_neg ((sim a).e c X W _ G tk q).2
      · cases q
  | .not a => .ofT (fun c X W ex G tk q => by
      split at q
      · exact sim_not ((sim a).e c X W _ G tk q).2
      · cases q) (fun c X W ex G tk q => by
      split at q
      · exact sim_tnot ((sim a).t c X W _ G tk q)
      · cases q)
  | .cmp op a b => .ofT (fun c X W ex G tk q => by
      split at q
      · simp only [Bool.and_eq_true, decide_eq_true_eq] at q
        obtain ⟨⟨rfl, h1⟩, h2⟩ := q
        obtain ⟨p2, g2⟩ := (sim b).e c X W _ G tk h2
        exact sim_cmp (op_cop G.un op) ((sim a).e c X W _ G tk h1).2 g2 (plain_marks p2 _)
      · cases q) (fun c X W ex G tk q => by
      split at q
      · simp only [Bool.and_eq_true, decide_eq_true_eq] at q
        obtain ⟨⟨rfl, h1⟩, h2⟩ := q
        obtain ⟨p2, g2⟩ := (sim b).e c X W _ G tk h2
        exact simT_cmp (op_cop G.un op) ((sim a).e c X W _ G tk h1).2 g2 (plain_marks p2 _)
      · cases q)
  | .cmp2 op op' a b d => .ofT (fun c X W ex G tk q => by
      split at q
      · simp only [Bool.and_eq_true, decide_eq_true_eq] at q
        obtain ⟨⟨⟨⟨rfl, rfl⟩, h1⟩, h2⟩, h3⟩ := q
        obtain ⟨p3, g3⟩ := (sim d).e c X W _ G tk h3
        exact sim_chain (op_cop G.un op) (op_cop G.un op') ((sim a).e c X W _ G tk h1).2 ((sim b).e c X W _ G tk h2).2 g3 (plain_marks p3 _)
      · cases q) (fun c X W ex G tk q => by
      split at q
      · simp only [Bool.and_eq_true, decide_eq_true_eq] at q
        obtain ⟨⟨⟨⟨rfl, rfl⟩, h1⟩, h2⟩, h3⟩ := q
        obtain ⟨p3, g3⟩ := (sim d).e c X W _ G tk h3
        exact simT_chain (op_cop G.un op) (op_cop G.un op') ((sim a).e c X W _ G tk h1).2 ((sim b).e c X W _ G tk h2).2 g3 (plain_marks p3 _)
      · cases q)
  | .and l => .ofT (fun c X W ex G tk q => by
      split at q
      · exact (sim l).an c X W _ _ _ G tk q
      · cases q) (fun c X W ex G tk q => by
      split at q
      · exact ((sim l).ta c X W _ _ _ G tk q).pt
      · cases q)
  | .or l => .ofT (fun c X W ex G tk q => by
      split at q
      · exact (sim l).or c X W _ _ _ G tk q
      · cases q) (fun c X W ex G tk q => by
      split at q
      · exact ((sim l).to c X W _ _ _ G tk q).pt
      · cases q)
  | .ife t a b => .ofT (fun c X W ex G tk q => by
      split at q
      · simp only [Bool.and_eq_true] at q
        exact sim_if ((sim t).t c X W _ G tk q.1.1) ((sim a).e c X W _ G tk q.1.2).2 ((sim b).e c X W _ G tk q.2).2
      · cases q) (fun c X W ex G tk q => by cases q)
  | .tup l => .ofE fun c X W ex G tk q => by
      split at q
      · exact sim_tup ((sim l).l c X W _ G tk q).2.1
      · cases q
  | .lst m l => .ofE fun c X W ex G tk q => by
      split at q
      · exact sim_lst ((sim l).l c X W _ G tk q).2.1
      · cases q
  | .ix a i => .ofE fun c X W ex G tk q => by
      split at q
      · simp only [Bool.and_eq_true] at q
        obtain ⟨p2, g2⟩ := (sim i).e c X W _ G tk q.2
        exact sim_ix G.un ((sim a).e c X W _ G tk q.1).2 g2 (plain_ix p2)
      · cases q
  | .sl m a lo hi => .ofE fun c X W ex G tk q => by
      split at q
      · simp only [Bool.and_eq_true] at q
        exact sim_slice ((sim a).e c X W _ G tk q.1.1).2 ((sim lo).p c X W _ G tk q.1.2) ((sim hi).p c X W _ G tk q.2)
      · cases q
  | .call f m l => .ofE fun c X W ex G tk q => by
      split at q
      · rename_i x _ y ys _
        simp only [Bool.and_eq_true, decide_eq_true_eq, isGl] at q
        obtain ⟨⟨⟨⟨⟨hcold, rfl⟩, h1⟩, h2⟩, h3⟩, h4⟩ := q
        obtain ⟨p1, g1, _⟩ := (sim l).l c X W _ G tk h4
        exact sim_call tk (G.fn (cold_h hcold) (x, []) h2) ((G.room (cold_h hcold)).mono (by omega)) (G.gl' h1) g1 (okName_d h3).1 (plain_star (p1 y List.mem_cons_self) _ _) (back_any fun z hz => p1 z (List.mem_cons_of_mem _ hz))
      · cases q
  | .callM f l => .ofE fun c X W ex G tk q => by
      split at q
      · rename_i x _ y ys _
        simp only [Bool.and_eq_true, decide_eq_true_eq, isGl] at q
        obtain ⟨⟨⟨⟨⟨hcold, rfl⟩, h1⟩, h2⟩, h3⟩, h4⟩ := q
        obtain ⟨p1, g1, _⟩ := (sim l).l c X W _ G tk h4
        exact sim_callM tk (G.fn (cold_h hcold) (x, mk7) h2) ((G.room (cold_h hcold)).mono (by omega)) (G.gl' h1) g1 (okName_d h3).1 (plain_star (p1 y List.mem_cons_self) _ _) (back_any fun z hz => p1 z (List.mem_cons_of_mem _ hz))
      · cases q
  | .callK f m l kk v => .ofE fun c X W ex G tk q => by
      split at q
      · rename_i x _ y ys kw z _ _
        simp only [Bool.and_eq_true, decide_eq_true_eq, isGl] at q
        obtain ⟨⟨⟨⟨⟨⟨⟨hcold, rfl⟩, h1⟩, rfl⟩, h2⟩, h3⟩, h4⟩, h5⟩ := q
        obtain ⟨p1, g1, _⟩ := (sim l).l c X W _ G tk h4
        exact sim_callK tk (G.fn (cold_h hcold) (x, [kw]) h2) ((G.room (cold_h hcold)).mono (by omega)) (G.gl' h1) g1 ((sim v).e c X W _ G tk h5).2 (okName_d h3).1 (plain_star (p1 y List.mem_cons_self) _ _) (back_any p1)
      · cases q
  | .cbf b m l => .ofE fun c X W ex G tk q => by
      split at q
      · rename_i x _ y ys _
        simp only [Bool.and_eq_true, decide_eq_true_eq] at q
        obtain ⟨⟨⟨hcold, rfl⟩, h1⟩, h4⟩ := q
        obtain ⟨p1, g1, _⟩ := (sim l).l c X W _ G tk h4
        obtain ⟨b1, b2, b3, b4⟩ := isB_d h1
        rcases cb_ok (X := X) (ct := ct) (W := W) (G.calm (cold_h hcold)) G.un b m with ⟨id, hc, hb⟩ | ⟨T, hc, hb⟩
        · exact PE.mono (pe_callB hc (G.gl' b1) (G.bs _ b2) hb g1 b4 b3 (plain_star (p1 y List.mem_cons_self) _ _) (back_any fun z hz => p1 z (List.mem_cons_of_mem _ hz))) fun _ _ _ => tCB_of
        · exact PE.mono (pe_callTy hc (G.gl' b1) (G.bs _ b2) hb g1 b4 b3 (plain_star (p1 y List.mem_cons_self) _ _) (back_any fun z hz => p1 z (List.mem_cons_of_mem _ hz))) fun _ _ _ => tCB_of
      · cases q
  | .dnew m => .ofE fun c X W ex G tk q => by
      split at q
      · exact sim_dnew
      · cases q
  | .bif b m l => .ofE fun c X W ex G tk q => by
      split at q
      · rename_i x _ y ys _
        simp only [Bool.and_eq_true, decide_eq_true_eq] at q
        obtain ⟨⟨rfl, h1⟩, h4⟩ := q
        obtain ⟨p1, g1, _⟩ := (sim l).l c X W _ G tk h4
        obtain ⟨b1, b2, b3, b4⟩ := isB_d h1
        rcases bif_ok (X := X) (ct := ct) (W := W) b m with ⟨id, hc, hb⟩ | ⟨T, hc, hb⟩
        · exact PE.mono (pe_callB hc (G.gl' b1) (G.bs _ b2) hb g1 b4 b3 (plain_star (p1 y List.mem_cons_self) _ _) (back_any fun z hz => p1 z (List.mem_cons_of_mem _ hz))) fun _ _ _ => tCB_of
        · exact PE.mono (pe_callTy hc (G.gl' b1) (G.bs _ b2) hb g1 b4 b3 (plain_star (p1 y List.mem_cons_self) _ _) (back_any fun z hz => p1 z (List.mem_cons_of_mem _ hz))) fun _ _ _ => tCB_of
      · cases q
  | .isi kd a => .ofE fun c X W ex G tk q => by
      split at q
      · rename_i x _ y z _ _
        simp only [Bool.and_eq_true, decide_eq_true_eq] at q
        obtain ⟨⟨⟨⟨rfl, h1⟩, h2⟩, h3⟩, h4⟩ := q
        obtain ⟨b1, b2, b3, b4⟩ := isB_d h1
        obtain ⟨c1, c2, c3, c4⟩ := isB_d h3
        obtain ⟨p1, g1⟩ := (sim a).e c X W _ G tk h2
        have h5 : bootBuiltins z = some (.type kd) := by
          split at h4
          · rename_i n e
            rw [e, of_decide_eq_true h4]
          · cases h4
        exact sim_isi (G.gl' b1) (G.bs _ b2) (by decide +kernel) b4 b3 (G.gl' c1) (G.bs _ c2) h5 c4 c3 g1 (plain_star p1 _ _)
      · cases q
  | .mth kd o l => .ofE fun c X W ex G tk q => by
      obtain ⟨id, hm, pa, slot, hty⟩ := mt_any (X := X) (ct := ct) (W := W) G.un kd
      split at q
      · rename_i x n apos cpos
        simp only [Bool.and_eq_true, decide_eq_true_eq] at q
        obtain ⟨⟨⟨⟨rfl, h1⟩, h2⟩, h3⟩, h4⟩ := q
        have ho := ((sim o).e c X W _ G tk h2).2
        obtain ⟨_, hl, hlen⟩ := (sim l).l c X W _ G tk h3
        refine PE.mono (pe_mthD0 pa slot hty hm ho (base_ok h1 _ _) h4) fun σ H Q ⟨F, μ, env, st, r, re, p⟩ => ⟨F, μ, env, st, r, re, p.bind fun w st1 F1 μ1 H1 v _ x1 r1 rv p1 => ?_⟩
        split at p1
        · rename_i ht
          refine ⟨tyB_ok r1 rv ht, ?_⟩
          have hnil : (ev L l).l env st1 = .ok [] st1 ∨ (ev L l).l env st1 ≠ .ok [] st1 := Classical.em _
          have p2 : GPost X.K ct W (RV X.K) σ F1 μ1 H1 Q (((ev L l).l env st1).bind fun l st => mthV kd w l st) := p1
          -- no arguments: the list is empty
          have hl0 : ∃ T0, l = T0 ∧ (chk T0).l c [] = true := ⟨l, rfl, h3⟩
          cases l with
          | nil => exact ⟨F1, μ1, st1, w, [], σ, r1, rv, .nil, p2⟩
          | _ => cases h3
        · exact p1.elim
      · rename_i x n apos y ys cpos
        simp only [Bool.and_eq_true, decide_eq_true_eq] at q
        obtain ⟨⟨⟨⟨⟨rfl, h1⟩, h2⟩, h3⟩, h4⟩, h5⟩ := q
        have ho := ((sim o).e c X W _ G tk h2).2
        obtain ⟨p1, g1, _⟩ := (sim l).l c X W _ G tk h3
        refine PE.mono (pe_mthD pa slot hty hm ho g1 (base_ok h1 _ _) ?_ h4 (plain_star (p1 y List.mem_cons_self) _ _) (back_any fun z hz => p1 z (List.mem_cons_of_mem _ hz))) fun σ H Q ⟨F, μ, env, st, r, re, p⟩ => ⟨F, μ, env, st, r, re, p.bind fun w st1 F1 μ1 H1 v _ x1 r1 rv p1 => ?_⟩
        · rw [back_all p1]
          simp only [Bool.true_and, Bool.and_eq_true, decide_eq_true_eq]
          refine ⟨rfl, ?_⟩
          have : ([] : List Keyword).length = 0 := rfl
          simp only [this, List.isEmpty_nil, if_true]
          omega
        · split at p1
          · rename_i ht
            refine ⟨tyB_ok r1 rv ht, F1, μ1, env, st1, r1, re.mono x1, p1.bind fun ws st2 F2 μ2 H2 vs _ x2 r2 rvs p2 => ?_⟩
            exact ⟨F2, μ2, st2, w, ws, σ, r2, x2.rv rv, rvs, p2⟩
          · exact p1.elim
      · cases q
  | .lc m vs tg it cd el => .ofE fun c X W ex G tk q => by
      split at q
      · rename_i elt t i ifs scope pos
        simp only [Bool.and_eq_true, List.all_eq_true, decide_eq_true_eq] at q
        obtain ⟨⟨⟨⟨⟨⟨⟨hcold, h1⟩, h2⟩, h3⟩, h4⟩, h5⟩, h6⟩, h7⟩ := q
        have hc := cold_h hcold
        have ok : BlkOk X.N X.env.scope scope (ownOf c vs) := by
          rw [G.N, G.sc]
          exact blkOk_by h1
        refine PE.mono (pe_lc (own := ownOf c vs) (g := gSet X.K tg) (tt := TT' X ct W0 (ev L cd).t) (te := TE' X ct W0 (ev L el).e) (G.calm hc) G.nd ((sim it).i c X W _ _ G tk h3) ok (fun s H C cl fp => sim_tg (G.blk hc scope s H C cl fp) h5) (fun s H C cl fp => (sim cd).c _ _ W0 _ (G.blk hc scope s H C cl fp) takes0 h6)
          (fun s H C cl fp => ((sim el).e _ _ W0 _ (G.blk hc scope s H C cl fp) takes0 h7).2) (fun x => plain_fold h4 _ x)) fun σ H Q h => ?_
        rw [own_snd]
        exact tLc_of (fun _ h => h) h2 (G.bears hc _) h
      · cases q
  | .lcX m vs tg it cd el => .ofE fun c X W ex G tk q => by
      split at q
      · rename_i elt t i ifs scope pos
        simp only [Bool.and_eq_true, List.all_eq_true, decide_eq_true_eq] at q
        obtain ⟨⟨⟨⟨⟨⟨⟨⟨htop, hcold⟩, h1⟩, h2⟩, h3⟩, h4⟩, h5⟩, h6⟩, h7⟩ := q
        have hc := cold_h hcold
        obtain ⟨hst, hfl⟩ := G.top htop
        have ok : BlkOk X.N X.env.scope scope (ownOf c vs) := by
          rw [G.N, G.sc]
          exact blkOk_by h1
        refine PE.mono (pe_lcX (W := W) (own := ownOf c vs) (g := gSet X.K tg) (tt := fun σ => TT' X ct (fun c d _ H => W c d σ H) (ev L cd).t) (te := fun σ => TE' X ct (fun c d _ H => W c d σ H) (ev L el).e) hst hfl tk (G.calm hc) G.nd ((sim it).i c X W _ _ G tk h3) ok (fun σ s H C cl fp => sim_tg (G.blkE hc scope s H C cl fp _) h5) (fun σ s H C cl fp => (sim cd).c _ _ _ _ (G.blkE hc scope s H C cl fp _) takes_blkE h6)
          (fun σ s H C cl fp => ((sim el).e _ _ _ _ (G.blkE hc scope s H C cl fp _) takes_blkE h7).2) (fun x => plain_fold h4 _ x)) fun σ H Q h => ?_
        rw [own_snd]
        exact tLcX_of (fun _ h => h) h2 (G.bears hc _) h
      · cases q
  | .idic a => .ofI fun c X W tg ex G tk q => sim_dicI ((sim a).e c X W ex G tk q).2
  | .izip l => .ofI fun c X W tg ex G tk q => by
      split at q
      · rename_i x _ y z _
        simp only [Bool.and_eq_true, decide_eq_true_eq] at q
        obtain ⟨⟨rfl, h1⟩, h4⟩ := q
        obtain ⟨p1, g1, _⟩ := (sim l).l c X W _ G tk h4
        obtain ⟨b1, b2, b3, b4⟩ := isB_d h1
        exact sim_zip (G.gl' b1) (G.bs _ b2) g1 (plain_star (p1 y List.mem_cons_self) _ _) (back_any fun u hu => p1 u (List.mem_cons_of_mem _ hu))
      · cases q
  | .lc2 m vs vs1 tg it cd tg1 it1 cd1 el => .ofE fun c X W ex G tk q => by
      split at q
      · rename_i elt t i ifs t1 i1 ifs1 scope pos
        simp only [Bool.and_eq_true, List.all_eq_true, decide_eq_true_eq] at q
        obtain ⟨⟨⟨⟨⟨⟨⟨⟨⟨⟨⟨⟨⟨hcold, h1⟩, h2⟩, h3⟩, h4⟩, h5⟩, h6⟩, h7⟩, h8⟩, h9⟩, h10⟩, h11⟩, h12⟩, h13⟩ := q
        have hc := cold_h hcold
        have ok : BlkOk X.N X.env.scope scope (ownOf c vs) := by
          rw [G.N, G.sc]
          exact blkOk_by h1
        refine PE.mono (pe_lc2 (own := ownOf c vs) (vs1 := vs1) (g := gSet X.K tg) (tt := TT' X ct W0 (ev L cd).t) (wi1 := TI' X ct W0 (ev L it1).i) (g1 := gSet X.K tg1) (tt1 := TT' X ct W0 (ev L cd1).t) (te := TE' X ct W0 (ev L el).e) (G.calm hc) G.nd ((sim it).i c X W _ _ G tk h3) ok (by rw [own_snd]; exact h8)
          (fun s H C cl fp => sim_tg (G.blk hc scope s H C cl fp) h5) (fun s H C cl fp => (sim cd).c _ _ W0 _ (G.blk hc scope s H C cl fp) takes0 h6) (fun s H C cl fp => (sim it1).i _ _ W0 _ _ (G.blk hc scope s H C cl fp) takes0 h10) (fun s H C cl fp => sim_tg (G.blk hc scope s H C cl fp) h12)
          (fun s H C cl fp => (sim cd1).c _ _ W0 _ (G.blk hc scope s H C cl fp) takes0 h13) (fun s H C cl fp => ((sim el).e _ _ W0 _ (G.blk hc scope s H C cl fp) takes0 h7).2) (fun x => plain_fold h4 _ x) (fun env x => plain_fold h11 env x)) fun σ H Q h => ?_
        rw [own_snd]
        exact tLc2_of (fun _ h => h) h2 h9 (G.bears hc _) (G.bears hc _) h
      · cases q
  | .lrng m a b => .ofE fun c X W ex G tk q => by
      split at q
      · rename_i x _ y _ z w _ _
        simp only [Bool.and_eq_true, decide_eq_true_eq] at q
        obtain ⟨⟨⟨⟨⟨⟨hcold, rfl⟩, h1⟩, rfl⟩, h2⟩, h3⟩, h4⟩ := q
        obtain ⟨b1, b2, _, _⟩ := isB_d h1
        obtain ⟨c1, c2, _, _⟩ := isB_d h2
        obtain ⟨p1, g1⟩ := (sim a).e c X W _ G tk h3
        obtain ⟨p2, g2⟩ := (sim b).e c X W _ G tk h4
        exact sim_lrg (G.calm (cold_h hcold)) (G.gl' b1) (G.bs _ b2) (G.gl' c1) (G.bs _ c2) g1 g2 (plain_star p1 _ _) (plain_star p2 _ _) (back_any fun u hu => by rw [List.mem_singleton.mp hu]; exact p2)
      · cases q
  | .irng l => .ofI fun c X W tg ex G tk q => by
      split at q
      · rename_i x _ y _
        simp only [Bool.and_eq_true, decide_eq_true_eq] at q
        obtain ⟨⟨rfl, h1⟩, h4⟩ := q
        obtain ⟨p1, g1, hl⟩ := (sim l).l c X W _ G tk h4
        obtain ⟨b1, b2, b3, b4⟩ := isB_d h1
        exact sim_rng1 (G.gl' b1) (G.bs _ b2) g1 (plain_star (p1 y List.mem_cons_self) _ _) hl
      · rename_i x _ y z _
        simp only [Bool.and_eq_true, decide_eq_true_eq] at q
        obtain ⟨⟨rfl, h1⟩, h4⟩ := q
        obtain ⟨p1, g1, hl⟩ := (sim l).l c X W _ G tk h4
        obtain ⟨b1, b2, b3, b4⟩ := isB_d h1
        have hz : starEach [z] X.env = [(false, eval z X.env)] := plain_star (p1 z (by simp)) _ _
        exact sim_rng2 (G.gl' b1) (G.bs _ b2) g1 (by rw [plain_star (p1 y List.mem_cons_self), hz]) hz hl
      · rename_i x _ y z u _
        simp only [Bool.and_eq_true, decide_eq_true_eq] at q
        obtain ⟨⟨rfl, h1⟩, h4⟩ := q
        obtain ⟨p1, g1, hl⟩ := (sim l).l c X W _ G tk h4
        obtain ⟨b1, b2, b3, b4⟩ := isB_d h1
        exact sim_rng3 (G.gl' b1) (G.bs _ b2) g1 (plain_star (p1 y List.mem_cons_self) _ _) (back_any fun v hv => p1 v (List.mem_cons_of_mem _ hv)) hl
      · cases q
  | .irev a => .ofI fun c X W tg ex G tk q => by
      split at q
      · rename_i x _ y _
        simp only [Bool.and_eq_true, decide_eq_true_eq] at q
        obtain ⟨rfl, h1, h4⟩ := q
        obtain ⟨b1, b2, _, _⟩ := isB_d h1
        obtain ⟨p1, g1⟩ := (sim a).e c X W _ G tk h4
        exact sim_rev (G.gl' b1) (G.bs _ b2) g1 (plain_star p1 _ _)
      · cases q
  | .ienum l => .ofI fun c X W tg ex G tk q => by
      split at q
      · rename_i x _ y _
        simp only [Bool.and_eq_true, decide_eq_true_eq] at q
        obtain ⟨⟨rfl, h1⟩, h4⟩ := q
        obtain ⟨p1, g1, _⟩ := (sim l).l c X W _ G tk h4
        obtain ⟨b1, b2, b3, b4⟩ := isB_d h1
        exact sim_enum (G.gl' b1) (G.bs _ b2) g1 (plain_star (p1 y List.mem_cons_self) _ _)
      · cases q
  | .callI f l => .ofE fun c X W ex G tk q => by
      split at q
      · rename_i x _ y ys _
        simp only [Bool.and_eq_true, decide_eq_true_eq, isGl] at q
        obtain ⟨⟨⟨⟨⟨hcold, rfl⟩, h1⟩, h2⟩, h3⟩, h4⟩ := q
        obtain ⟨p1, g1, _⟩ := (sim l).l c X W _ G tk h4
        exact sim_callI tk (G.fn (cold_h hcold) (x, mk8) h2) ((G.room (cold_h hcold)).mono (by omega)) (G.gl' h1) g1 (okName_d h3).1 (plain_star (p1 y List.mem_cons_self) _ _) (back_any fun z hz => p1 z (List.mem_cons_of_mem _ hz))
      · cases q
  | .mcall qn C m o l => .ofE fun c X W ex G tk q => by
      split at q
      · rename_i x n apos cpos
        simp only [Bool.and_eq_true, decide_eq_true_eq] at q
        obtain ⟨⟨⟨⟨⟨⟨hcold, rfl⟩, h1⟩, h2⟩, h3⟩, h4⟩, h5⟩ := q
        have ho := ((sim o).e c X W _ G tk h3).2
        cases l with
        | nil => exact sim_mcall0 tk (G.fn (cold_h hcold) (qn, mkt C n) h1) ((G.room (cold_h hcold)).mono (by omega)) ho (base_ok h2 _ _) h5
        | _ => cases h4
      · rename_i x n apos y ys cpos
        simp only [Bool.and_eq_true, decide_eq_true_eq] at q
        obtain ⟨⟨⟨⟨⟨⟨⟨hcold, rfl⟩, h1⟩, h2⟩, h3⟩, h4⟩, h5⟩, h6⟩ := q
        have ho := ((sim o).e c X W _ G tk h3).2
        obtain ⟨p1, g1, _⟩ := (sim l).l c X W _ G tk h4
        refine sim_mcall tk (G.fn (cold_h hcold) (qn, mkt C n) h1) ((G.room (cold_h hcold)).mono (by omega)) ho g1 (base_ok h2 _ _) ?_ h5 (plain_star (p1 y List.mem_cons_self) _ _) (back_any fun z hz => p1 z (List.mem_cons_of_mem _ hz))
        rw [back_all p1]
        simp only [Bool.true_and, Bool.and_eq_true, decide_eq_true_eq]
        refine ⟨rfl, ?_⟩
        have : ([] : List Keyword).length = 0 := rfl
        simp only [this, List.isEmpty_nil, if_true]
        omega
      · cases q
  | .mkC qn C l => .ofE fun c X W ex G tk q => by
      split at q
      · rename_i x p pos
        simp only [Bool.and_eq_true, decide_eq_true_eq, isGl] at q
        obtain ⟨⟨⟨⟨⟨hcold, rfl⟩, h1⟩, h2⟩, h3⟩, h4⟩ := q
        cases l with
        | nil => exact sim_mkC0 tk (G.fn (cold_h hcold) (qn, mkt x "__init__") h2) ((G.room (cold_h hcold)).mono (by omega)) (G.gl' h1) (okName_d h3).1
        | _ => cases h4
      · rename_i x p y ys pos
        simp only [Bool.and_eq_true, decide_eq_true_eq, isGl] at q
        obtain ⟨⟨⟨⟨⟨hcold, rfl⟩, h1⟩, h2⟩, h3⟩, h4⟩ := q
        obtain ⟨p1, g1, _⟩ := (sim l).l c X W _ G tk h4
        exact sim_mkC tk (G.fn (cold_h hcold) (qn, mkt x "__init__") h2) ((G.room (cold_h hcold)).mono (by omega)) (G.gl' h1) g1 (okName_d h3).1 (plain_star (p1 y List.mem_cons_self) _ _) (back_any fun z hz => p1 z (List.mem_cons_of_mem _ hz))
      · cases q
  | .fld o f => .ofE fun c X W ex G tk q => by
      split at q
      · rename_i x n pos
        simp only [Bool.and_eq_true, decide_eq_true_eq] at q
        obtain ⟨⟨rfl, h1⟩, h2⟩ := q
        exact sim_fld G.xs.ofl ((sim o).e c X W _ G tk h2).2 (base_ok h1 _ _)
      · cases q
  | .mmD mx a d => .ofE fun c X W ex G tk q => by
      split at q
      · rename_i x p y kw z kp pos
        simp only [Bool.and_eq_true, decide_eq_true_eq] at q
        obtain ⟨⟨⟨⟨⟨hcold, h0⟩, h1⟩, rfl⟩, h2⟩, h3⟩ := q
        obtain ⟨b1, b2, _, _⟩ := isB_d h1
        obtain ⟨p1, g1⟩ := (sim a).e c X W _ G tk h2
        exact sim_bst (G.calm (cold_h hcold)) h0 (G.gl' b1) (G.bs _ b2) g1 ((sim d).e c X W _ G tk h3).2 (plain_star p1 _ _)
      · cases q
  | .kin neg x k => .ofT (fun c X W ex G tk q => by
      split at q
      · rename_i y o n np pos
        simp only [Bool.and_eq_true, decide_eq_true_eq, isGl] at q
        obtain ⟨⟨⟨⟨ho, h1⟩, rfl⟩, h2⟩, h3⟩ := q
        exact (sim_kin G.xs (G.gl' h2) (okName_d h3).1 ((sim x).e c X W _ G tk h1).2 ho).1
      · cases q) (fun c X W ex G tk q => by
      split at q
      · rename_i y o n np pos
        simp only [Bool.and_eq_true, decide_eq_true_eq, isGl] at q
        obtain ⟨⟨⟨⟨ho, h1⟩, rfl⟩, h2⟩, h3⟩ := q
        exact (sim_kin G.xs (G.gl' h2) (okName_d h3).1 ((sim x).e c X W _ G tk h1).2 ho).2
      · cases q)
  | .kix k x => .ofE fun c X W ex G tk q => by
      split at q
      · rename_i n np y pos
        simp only [Bool.and_eq_true, decide_eq_true_eq, isGl] at q
        obtain ⟨⟨⟨rfl, h2⟩, h3⟩, h1⟩ := q
        obtain ⟨p1, g1⟩ := (sim x).e c X W _ G tk h1
        exact sim_kix G.xs (G.gl' h2) (okName_d h3).1 g1 (plain_ix p1)
      · cases q
  | .xf i f => .ofE fun c X W ex G tk q => by
      split at q
      · rename_i x p n pos
        simp only [Bool.and_eq_true, decide_eq_true_eq] at q
        obtain ⟨⟨⟨⟨rfl, h1⟩, h2⟩, h3⟩, h4⟩ := q
        exact sim_xf G h1 h2 h3 h4
      · cases q
  | .xi i kk => .ofE fun c X W ex G tk q => by
      split at q
      · rename_i x p y p2 z p3 pos
        simp only [Bool.and_eq_true, decide_eq_true_eq, Bool.not_eq_true'] at q
        obtain ⟨⟨⟨⟨⟨⟨⟨⟨⟨rfl, h1⟩, h2⟩, h3⟩, h4⟩, h5⟩, rfl⟩, h6⟩, h7⟩, h8⟩ := q
        exact sim_xi G h1 h2 h3 h4 h5 h6 h7 h8
      · cases q
  | .allS f gs a => .ofE fun c X W ex G tk q => by
      split at q
      · rename_i z pz f1 pf x1 px1 pc x px y py gsc pg pos
        simp only [Bool.and_eq_true, decide_eq_true_eq] at q
        obtain ⟨hcold, hgen, rfl, h1, rfl, rfl, hs, hg, ha⟩ := q
        obtain ⟨b1, b2, _, _⟩ := isB_d h1
        obtain ⟨cd, P, ec, tb, hP⟩ := G.gen hgen
        have hc := cold_h hcold
        exact PE.mono (pe_allQ (G.room hc) (G.gl' b1) (G.bs _ b2) tb ec (genB_ok hg).1 ((sim a).e c X W _ G tk ha).2 (elt_ok (G.room hc) (G.sg _ hs) hg) (fun v => rfl)) fun _ _ _ => tAllS_of hP
      · cases q
  | .anyL all i vs a t => .ofE fun c X W ex G tk q => by
      split at q
      · rename_i z pz elt x px src gsc pg pos
        simp only [Bool.and_eq_true, decide_eq_true_eq] at q
        obtain ⟨hcold, hgen, rfl, h1, hsrc, hgb, hqk, ha⟩ := q
        obtain ⟨b1, b2, _, _⟩ := isB_d h1
        obtain ⟨cd, P, ec, tb, hP⟩ := G.gen hgen
        have hc := cold_h hcold
        cases all with
        | true => exact pe_allL (G.room hc) G.un (G.gl' b1) (G.bs _ b2) tb hP ec (by rw [G.N, G.sc]; exact hgb) (by rw [G.N]; exact hqk) ((sim a).e c X W _ G tk ha).2 (fun v => srcOk_ok hsrc _ v)
        | false => exact pe_anyL (G.room hc) G.un (G.gl' b1) (G.bs _ b2) tb hP ec (by rw [G.N, G.sc]; exact hgb) (by rw [G.N]; exact hqk) ((sim a).e c X W _ G tk ha).2 (fun v => srcOk_ok hsrc _ v)
      · cases q
  | .mm mx l => .ofE fun c X W ex G tk q => by
      split at q
      · rename_i x p y ys pos
        simp only [Bool.and_eq_true, decide_eq_true_eq] at q
        obtain ⟨⟨⟨hcold, rfl⟩, h1⟩, h4⟩ := q
        obtain ⟨p1, g1, _⟩ := (sim l).l c X W _ G tk h4
        obtain ⟨b1, b2, b3, b4⟩ := isB_d h1
        exact PE.mono (pe_callB (call_mm (G.calm (cold_h hcold)) mx) (G.gl' b1) (G.bs _ b2) (by cases mx <;> decide +kernel) g1 b4 b3 (plain_star (p1 y List.mem_cons_self) _ _) (back_any fun z hz => p1 z (List.mem_cons_of_mem _ hz))) fun _ _ _ => tCB_of
      · cases q
end
end G

set_option Elab.async false
set_option linter.all false
set_option maxRecDepth 100000
set_option maxHeartbeats 8000000
namespace G
open PySem PySem.Spec PyProof.Rows L2

/-! ### statements -/
inductive RS where
  | nx (env : Ev) (st : Sto) | ct (env : Ev) (st : Sto) | rt (w : Va) (st : Sto) | err (x : Exc) (env : Ev) (st : Sto) | stuck
abbrev Ms := Ev → Sto → RS
def SPost (K : PySem.W.Frag) (ct : Ct) (W : WX) (D : Ends) (F : Hp) (μ : List Addr) (H : Hp) : RS → Prop
  | .nx env st => ∀ F' μ' H' σ', Ext F μ H F' μ' H' → Rel K ct F' μ' st H' → REnv K ct F' μ' env σ' → D.nx σ' H'
  | .ct env st => ∀ F' μ' H' σ', Ext F μ H F' μ' H' → Rel K ct F' μ' st H' → REnv K ct F' μ' env σ' → D.ct σ' H'
  | .rt w st => ∀ F' μ' H' v, Ext F μ H F' μ' H' → Rel K ct F' μ' st H' → RV K F' μ' w v → D.rt v H'
  | .err x env st => ∀ F' μ' H' σ' cls d, Ext F μ H F' μ' H' → Rel K ct F' μ' st H' → REnv K ct F' μ' env σ' → RX K ct F' μ' x cls d → W cls d σ' H'
  | .stuck => False
def TS' (X : Cx) (ct : Ct) (W : WX) (m : Ms) : TS := fun D σ H => ∃ F μ env st, Rel X.K ct F μ st H ∧ REnv X.K ct F μ env σ ∧ SPost X.K ct W D F μ H (m env st)
section
variable {K : PySem.W.Frag} {ct : Ct} {W : WX} {F F1 : Hp} {μ μ1 : List Addr} {H H1 : Hp} {σ : L2.St} {st : Sto} {D : Ends} {env : Ev} {α β : Type} {RA : Hp → List Addr → α → β → Prop}
theorem SPost.at {m : RS} (x : Ext F μ H F1 μ1 H1) (h : SPost K ct W D F μ H m) : SPost K ct W D F1 μ1 H1 m := by
  cases m with
  | nx env st => exact fun F' μ' H' v e r ra => h F' μ' H' v (x.trans e) r ra
  | ct env st => exact fun F' μ' H' v e r ra => h F' μ' H' v (x.trans e) r ra
  | rt w st => exact fun F' μ' H' v e r ra => h F' μ' H' v (x.trans e) r ra
  | err y env st => exact fun F' μ' H' σ' c d e r re rx => h F' μ' H' σ' c d (x.trans e) r re rx
  | stuck => exact h
/-- an expression ahead -/
def bindE {α : Type} (m : R α) (env : Ev) (k : α → Sto → RS) : RS := match m with
  | .ok a st => k a st
  | .err x st => .err x env st
  | .stuck => .stuck
@[simp] theorem bindE_ok (a : α) (env : Ev) (k : α → Sto → RS) : bindE (.ok a st) env k = k a st := rfl
theorem SPost.bind {N : β → Hp → Prop} {m : R α} {k : α → Sto → RS} (re : REnv K ct F μ env σ) (h : SPost K ct W D F μ H (bindE m env k))
    (n : ∀ a st1 F1 μ1 H1 v, Ext F μ H F1 μ1 H1 → Rel K ct F1 μ1 st1 H1 → RA F1 μ1 a v → SPost K ct W D F1 μ1 H1 (k a st1) → N v H1) : GPost K ct W RA σ F μ H N m := by
  cases m with
  | ok a st => exact fun F' μ' H' v e r ra => n a st F' μ' H' v e r ra (SPost.at e h)
  | err y st => exact fun F' μ' H' c d e r rx => h F' μ' H' σ c d e r (re.mono e) rx
  | stuck => exact h
end

inductive S where
  | nil | seq (a b : S)
  | set (tg : Tg) (e : T) | setIx (o i e : T) | aug (i : Nat) (sub : Bool) (e : T)
  | expr (e : T) | ret (e : T) | retN | sif (c : T) (a b : S) | swh (c : T) (b : S) | sfor (tg : Tg) (it : T) (b : S) | cont | pass
  | tryE (b h : S) | hnd (c : Str) (io : Option Nat) (s r : S) | hend | rais (c : Str) (s : Tx) | raisI (c : Str) (l : T) | raisP (c : Str) (e : T) | stk | setF (o : T) (f : Str) (e : T) | augF (o : T) (f : Str) (sub : Bool) (e : T)
def mSeq (a b : Ms) : Ms := fun env st => match a env st with
  | .nx env st => b env st
  | r => r
def mSet (tg : Tg) (me : Mx Va) : Ms := fun env st => bindE (me env st) env fun w st => match tgV tg w env st with
  | some env' => .nx env' st
  | none => .stuck
def setV (o i v : Va) (st : Sto) : Option Sto := match o with
  | .ref p => match st[p]? with
    | some (some (.lst l)) => match intOf i with
      | some k => match ixN l.length k with
        | some j => some (st.set p (some (.lst (l.set j v))))
        | none => none
      | none => none
    | some (some (.dic ks l)) => match kyOf i with
      | some k => if ks.length < sizeLine then some (st.set p (some (.dic (putKy ks l k v).1 (putKy ks l k v).2))) else none
      | none => none
    | _ => none
  | _ => none
def mSetIx (mo mi me : Mx Va) : Ms := fun env st => bindE (me env st) env fun v st => bindE (mo env st) env fun o st => bindE (mi env st) env fun i st => match setV o i v st with
  | some st => .nx env st
  | none => .stuck
def mAug (i : Nat) (sub : Bool) (me : Mx Va) : Ms := fun env st => match env[i]? with
  | some (some x) => bindE (me env st) env fun y st => match intOf x, intOf y with
    | some a, some b => .nx (env.set i (some (.int (if sub then a - b else a + b)))) st
    | _, _ => .stuck
  | _ => .stuck
def mExpr (me : Mx Va) : Ms := fun env st => bindE (me env st) env fun _ st => .nx env st
def mRet (me : Mx Va) : Ms := fun env st => bindE (me env st) env fun w st => .rt w st
def mIfS (mt : Mx Bool) (a b : Ms) : Ms := fun env st => bindE (mt env st) env fun c st => if c = true then a env st else b env st
def whileN (mt : Mx Bool) (b : Ms) : Nat → Ms
  | 0 => fun _ _ => .stuck
  | n + 1 => fun env st => bindE (mt env st) env fun c st => if c = true then (match b env st with
      | .nx env st => whileN mt b n env st
      | .ct env st => whileN mt b n env st
      | r => r) else .nx env st
def fuel : Nat := 1099511627776
def forRun (tg : Tg) (gd : Gd) (b : Ms) : List Va → Ms
  | [] => fun env st => if gdB gd st then .nx env st else .stuck
  | x :: r => fun env st => if gdB gd st then match tgV tg x env st with
      | none => .stuck
      | some env => match b env st with
        | .nx env st => forRun tg gd b r env st
        | .ct env st => forRun tg gd b r env st
        | r => r
    else .stuck
def mFor (tg : Tg) (mi : Mx (List Va × Gd)) (b : Ms) : Ms := fun env st => bindE (mi env st) env fun wg st => forRun tg wg.2 b wg.1 env st
/-- raise c(text) -/
def mRais (L : Lm) (c : Str) : Ms := fun env st => match L.xs.pl c with
  | some z => .err ⟨z, []⟩ env st
  | none => .stuck
/-- raise c(e), c a plain class -/
def mRaisP (L : Lm) (c : Str) (me : Mx Va) : Ms := match L.xs.pl c with
  | some z => fun env st => bindE (me env st) env fun _ st => .err ⟨z, []⟩ env st
  | none => fun _ _ => .stuck
def pcW (ws : List Va) : Pc → Bool
  | .c s => decide (s.length ≤ 1000000)
  | .p i => match ws[i]? with
    | some (.str y) => decide (y.length ≤ 1000000)
    | some (.int k) => decide (k.natAbs.log2 < 1920)
    | _ => false
/-- raise c(e, ..), where c's own __init__ keeps what it is given -/
def mRaisI (L : Lm) (c : Str) (ml : Mx (List Va)) : Ms := match L.xs.ow c with
  | some o => fun env st => bindE (ml env st) env fun ws st => if ws.length = o.n ∧ o.n ≤ 100 ∧ o.tx.length ≤ 8 ∧ o.tx.all (pcW ws) = true then (match runFs ws o.fs [] with
      | some fs => .err ⟨o.z, fs.map fun p => (p.1.cps.toList, p.2)⟩ env st
      | none => .stuck) else .stuck
  | none => fun _ _ => .stuck
def clr (io : Option Nat) (env : Ev) : Ev := match io with
  | some i => env.set i none
  | none => env
/-- an except suite -/
def mHnd (io : Option Nat) (m : Ms) : Ms := fun env st => match m (clr io env) st with
  | .nx env st => .nx (clr io env) st
  | .ct env st => .ct (clr io env) st
  | .rt w st => .rt w st
  | _ => .stuck
def mTry (mb : Ms) (mh : Exc → Ms) : Ms := fun env st => match mb env st with
  | .err x env st => if (x.fs.all fun p => free p.2) = true then mh x env st else .stuck
  | r => r
def mSel (L : Lm) (c : Str) (ms mr : Ms) : Ms := fun env st => match L.xh with
  | some x => match L.xs.sub x.cls c with
    | some true => ms env st
    | some false => mr env st
    | none => .stuck
  | none => .stuck
def mHend (L : Lm) : Ms := fun env st => match L.xh with
  | some x => .err x env st
  | none => .stuck
/-- o.f = e -/
def setFV (ok : Tx → Str → Bool) (f : Str) (o v : Va) (st : Sto) : Option Sto := match insOf o st with
  | some (p, c, fs) => if ok c f = true ∧ fs.length < 900 then some (st.set p (some (.ins c (putT f.cps.toList v fs)))) else none
  | none => none
def mSetF (ok : Tx → Str → Bool) (f : Str) (mo me : Mx Va) : Ms := fun env st => bindE (me env st) env fun v st => bindE (mo env st) env fun o st => match setFV ok f o v st with
  | some st => .nx env st
  | none => .stuck
/-- o.f += e -/
def mAugF (ok : Tx → Str → Bool) (f : Str) (sub : Bool) (mo me : Mx Va) : Ms := fun env st => bindE (mo env st) env fun o st => match insOf o st with
  | some (_, c, fs) => if ok c f = true then (match fs.lookup f.cps.toList with
    | some (.int a) => bindE (me env st) env fun y st => match intOf y with
      | some b => if (insOf o st).map (·.2.1) = some c then (match setFV ok f o (.int (if sub then a - b else a + b)) st with
        | some st => .nx env st
        | none => .stuck) else .stuck
      | none => .stuck
    | _ => .stuck) else .stuck
  | none => .stuck
def ex (L : Lm) : S → Ms
  | .nil => fun env st => .nx env st
  | .seq a b => mSeq (ex L a) (ex L b)
  | .set tg e => mSet tg (ev L e).e
  | .setIx o i e => mSetIx (ev L o).e (ev L i).e (ev L e).e
  | .aug i s e => mAug i s (ev L e).e
  | .expr e => mExpr (ev L e).e
  | .ret e => mRet (ev L e).e
  | .retN => fun _ st => .rt .non st
  | .sif c a b => mIfS (ev L c).t (ex L a) (ex L b)
  | .swh c b => whileN (ev L c).t (ex L b) fuel
  | .sfor tg it b => mFor tg (ev L it).i (ex L b)
  | .cont => fun env st => .ct env st
  | .pass => fun env st => .nx env st
  | .stk => fun _ _ => .stuck
  | .tryE b h => mTry (ex L b) fun x => ex { L with xh := some x } h
  | .hnd c io s r => mSel L c (mHnd io (ex L s)) (ex L r)
  | .hend => mHend L
  | .rais c _ => mRais L c
  | .raisI c l => mRaisI L c (ev L l).l
  | .raisP c e => mRaisP L c (ev L e).e
  | .setF o f e => mSetF L.xs.ofl f (ev L o).e (ev L e).e
  | .augF o f s e => mAugF L.xs.ofl f s (ev L o).e (ev L e).e

section
variable {X : Cx} {ct : Ct} {W : WX} {pos : Pos}
theorem PS.mono {X : Cx} {s : Stmt} {t t' : TS} (h : PS X s t) (i : ∀ D σ H, t' D σ H → t D σ H) : PS X s t' := ⟨fun pins s σ H D I q => h.run pins s σ H D I (i D σ H q)⟩
theorem PSs.mono {X : Cx} {s : List Stmt} {t t' : TS} (h : PSs X s t) (i : ∀ D σ H, t' D σ H → t D σ H) : PSs X s t' := ⟨fun pins s σ H D I q => h.run pins s σ H D I (i D σ H q)⟩
theorem simS_nil : PSs X [] (TS' X ct W fun env st => .nx env st) := PSs.mono pss_nil fun D σ H ⟨F, μ, env, st, r, re, p⟩ => p F μ H σ .refl r re
theorem simS_cons {s : Stmt} {r : List Stmt} {a b : Ms} (h1 : PS X s (TS' X ct W a)) (h2 : PSs X r (TS' X ct W b)) : PSs X (s :: r) (TS' X ct W (mSeq a b)) := by
  refine PSs.mono (pss_cons h1 h2) fun D σ H ⟨F, μ, env, st, r, re, p⟩ => ⟨F, μ, env, st, r, re, ?_⟩
  unfold mSeq at p
  cases e : a env st with
  | nx env1 st1 =>
    rw [e] at p
    exact fun F' μ' H' σ' x r' re' => ⟨F', μ', env1, st1, r', re', SPost.at x p⟩
  | ct env1 st1 => rw [e] at p; exact p
  | rt w st1 => rw [e] at p; exact p
  | err y env1 st1 => rw [e] at p; exact p
  | stuck => rw [e] at p; exact p
theorem tAsg_of {K : PySem.W.Frag} {tg : Tg} {me : Mx Va} {te : TE} {D : Ends} {σ : L2.St} {H : Hp} (hb : ∀ j ∈ tgIx tg, ct.Bears j) (hte : ∀ Q, TOf K ct W (RV K) me σ H Q → te σ H Q) (h : ∃ F μ env st, Rel K ct F μ st H ∧ REnv K ct F μ env σ ∧ SPost K ct W D F μ H (mSet tg me env st)) : tAsg te (gSet K tg) D σ H := by
  obtain ⟨F, μ, env, st, r, re, p⟩ := h
  refine hte _ ⟨F, μ, env, st, r, re, SPost.bind re p fun w st1 F1 μ1 H1 v x1 r1 rv p1 => ?_⟩
  split at p1
  · rename_i env' e
    exact gSet_of r1 (re.mono x1) rv e hb fun σ' re' _ => p1 F1 μ1 H1 σ' .refl r1 re'
  · exact p1.elim
def rSetV (K : PySem.W.Frag) (ct : Ct) (W : WX) : V → V → V → Hp → (Hp → Prop) → Prop := fun o i v H Q =>
  ∃ F μ st wo wi wv st', Rel K ct F μ st H ∧ RV K F μ wo o ∧ RV K F μ wi i ∧ RV K F μ wv v ∧ setV wo wi wv st = some st' ∧ ∀ H', Ext F μ H F μ H' → Rel K ct F μ st' H' → Q H'
theorem set_V (hu : X.A.units + 64 < cLine) : PSet X (rSetV X.K ct W) := by
  intro pins s σ H o i v ov iv u Q I ro ri rv h
  obtain ⟨F, μ, st, wo, wi, wv, st', r, r1, r2, r3, e, q⟩ := h
  unfold setV at e
  split at e
  · rename_i p
    cases r1 with
    | @ref _ a hp =>
    split at e
    · rename_i l el
      split at e
      · rename_i k ek
        obtain rfl := intOf_ok r2 ek
        split at e
        · rename_i j ej
          cases e
          cases r.obj _ _ _ el hp with
          | @lst _ vs h1 h2 =>
            refine set_list pins s σ H _ _ v ov iv u Q I ro ri rv ⟨a, vs, k, j, rfl, rfl, h1, by rw [← h2.length]; exact ej, ?_⟩
            exact q _ (.write r el hp _) (r.write el hp (.lst upd_same (h2.set r3 j)))
        · cases e
      · cases e
    · rename_i ks l el
      split at e
      · rename_i k ek
        obtain rfl := kyOf_ok r2 ek
        split at e
        · rename_i hz
          cases e
          cases r.obj _ _ _ el hp with
          | @dic _ _ kvs h1 h2 h3 =>
            obtain rfl : ov = Value.ref a := ro
            have hl : kvs.length < sizeLine := by
              have := congrArg List.length h2
              simp at this
              omega
            refine d_setItem (H' := upd H a (.dK (putK kvs (kyK k) v))) (by omega) I (.inl ⟨kvs, kyK k, h1, rfl, hl, rfl⟩) ri rv fun s' I' => ⟨_, I', ?_⟩
            obtain ⟨g1, g2⟩ := putKy_ok (k := k) r3 h2 h3
            exact q _ (.write r el hp _) (r.write el hp (.dic upd_same g1 g2))
        · cases e
      · cases e
    · cases e
  · cases e
theorem simS_setIx {o i e : Expr} {mo mi me : Mx Va} {pos' : Pos} (hpl : plainE i = true) (hu : X.A.units + 64 < cLine) (ho : PE X o (TE' X ct W mo)) (hi : PE X i (TE' X ct W mi)) (he : PE X e (TE' X ct W me)) (hs : swapsWithSole [.Subscript o i pos'] e pos.line X.env = pure false) :
    PS X (.Assign [.Subscript o i pos'] e pos) (TS' X ct W (mSetIx mo mi me)) := by
  refine PS.mono (ps_asg he (pg_sub ho hi (set_V (ct := ct) (W := W) hu) (fun v => by cases i <;> first | rfl | (simp [plainE] at hpl))) hs) fun D σ H ⟨F, μ, env, st, r, re, p⟩ => ⟨F, μ, env, st, r, re, SPost.bind re p fun v st1 F1 μ1 H1 vv x1 r1 rv p1 => ?_⟩
  refine ⟨F1, μ1, env, st1, r1, re.mono x1, SPost.bind (re.mono x1) p1 fun o st2 F2 μ2 H2 ov x2 r2 ro p2 => ?_⟩
  have re2 := (re.mono x1).mono x2
  refine ⟨F2, μ2, env, st2, r2, re2, SPost.bind re2 p2 fun i st3 F3 μ3 H3 iv x3 r3 ri p3 => ?_⟩
  split at p3
  · rename_i st4 e4
    exact ⟨F3, μ3, st3, o, i, v, st4, r3, x3.rv ro, ri, x3.rv (x2.rv rv), e4, fun H' x r' => p3 F3 μ3 H' σ x r' ((re2.mono x3).mono x)⟩
  · exact p3.elim
theorem simS_aug {i : Nat} {x : Str} {e : Expr} {me : Mx Va} {sub : Bool} {op : Operator} {pos' : Pos} (hb : ct.Bears i) (hop : op = if sub then .Sub else .Add) (hN : X.N.Nodup) (hi : X.N[i]? = some x) (hx : Loc X.env.scope x) (he : PE X e (TE' X ct W me)) (hf : X.fn x = true ∨ X.env.scope.names.lookup x = some .local) :
    PS X (.AugAssign (.Name x pos') op e pos) (TS' X ct W (mAug i sub me)) := by
  have ho : PIp X op (ipI fun a b => if sub then a - b else a + b) := by
    subst hop
    cases sub
    · exact ip_add
    · exact ip_sub
  refine PS.mono (ps_aug hN hi hx he ho hf) fun D σ H ⟨F, μ, env, st, r, re, p⟩ => ?_
  unfold mAug at p
  split at p
  · rename_i w ew
    obtain ⟨v, e1, rv⟩ := re.get i w ew
    refine ⟨v, e1, F, μ, env, st, r, re, SPost.bind re p fun y st1 F1 μ1 H1 yv x1 r1 ry p1 => ?_⟩
    split at p1
    · rename_i a b ea eb
      obtain rfl := intOf_ok rv ea
      obtain rfl := intOf_ok ry eb
      exact ⟨a, b, rfl, rfl, p1 F1 μ1 H1 _ .refl r1 ((re.mono x1).set i hb (.int _))⟩
    · exact p1.elim
  · exact p.elim
theorem setFV_ok {K : PySem.W.Frag} {ok : Tx → Str → Bool} {f : Str} {F : Hp} {μ : List Addr} {H : Hp} {st st' : Sto} {o v : Va} {ov vv : V} (hok : OflOk K ct ok) (r : Rel K ct F μ st H) (ro : RV K F μ o ov) (rv : RV K F μ v vv) (h : setFV ok f o v st = some st') : ∃ a C dx fvs, ov = .ref a ∧ H a = some (.ins C dx fvs) ∧ Cls K C ∧ NoAttr K C f ∧ fvs.length < 1000 ∧ Ext F μ H F μ (upd H a (.ins C dx (putF f vv fvs))) ∧ Rel K ct F μ st' (upd H a (.ins C dx (putF f vv fvs))) := by
  unfold setFV at h
  split at h
  · rename_i p c fs e
    split at h
    · rename_i hc
      cases h
      obtain ⟨_, es, a, C, dx, fvs, rfl, ha, hC, hH, k1, k2⟩ := insOf_ok r ro e
      obtain ⟨C', c1, c2, c3⟩ := hok _ _ hc.1
      rw [hC] at c1
      cases c1
      obtain ⟨q1, q2⟩ := put_ok (n := f.cps.toList) rv k1 k2
      rw [mkS_cps] at q1 q2
      have hl : fvs.length < 1000 := by
        have := congrArg List.length k1
        simp at this
        omega
      exact ⟨a, C, dx, fvs, rfl, hH, c2, c3, hl, .write r es ha _, r.write es ha (.ins hC upd_same q1 q2)⟩
    · cases h
  · cases h
theorem attr_sw {e o : Expr} {f : Str} {p : Pos} {l : Nat} {env : Env} : swapsWith e (some (.Attribute o f p)) l env = pure false := by
  cases e <;> rfl
theorem simS_setF {ok : Tx → Str → Bool} {o e : Expr} {f : Str} {mo me : Mx Va} {pos' : Pos} (hok : OflOk X.K ct ok) (ho : PE X o (TE' X ct W mo)) (he : PE X e (TE' X ct W me)) : PS X (.Assign [.Attribute o f pos'] e pos) (TS' X ct W (mSetF ok f mo me)) := by
  refine PS.mono (ps_fld ho he attr_sw) fun D σ H ⟨F, μ, env, st, r, re, p⟩ => ⟨F, μ, env, st, r, re, SPost.bind re p fun v st1 F1 μ1 H1 vv x1 r1 rv p1 => ?_⟩
  refine ⟨F1, μ1, env, st1, r1, re.mono x1, SPost.bind (re.mono x1) p1 fun o st2 F2 μ2 H2 ov x2 r2 ro p2 => ?_⟩
  split at p2
  · rename_i st3 e3
    obtain ⟨a, C, dx, fvs, rfl, h1, h2, h3, h4, h5, h6⟩ := setFV_ok hok r2 ro (x2.rv rv) e3
    exact ⟨a, C, dx, fvs, rfl, h1, h2, h3, h4, p2 F2 μ2 _ σ h5 h6 (((re.mono x1).mono x2).mono h5)⟩
  · exact p2.elim
theorem simS_augF {ok : Tx → Str → Bool} {o e : Expr} {f : Str} {sub : Bool} {op : Operator} {mo me : Mx Va} {pos' : Pos} (hok : OflOk X.K ct ok) (hop : op = if sub then .Sub else .Add) (ho : PE X o (TE' X ct W mo)) (he : PE X e (TE' X ct W me)) : PS X (.AugAssign (.Attribute o f pos') op e pos) (TS' X ct W (mAugF ok f sub mo me)) := by
  have hi : InOp X op (fun x y H Q => ∃ i j, x = .int i ∧ y = .int j ∧ Q (.int (if sub then i - j else i + j)) H) := by
    subst hop
    cases sub
    · exact in_add
    · exact in_sub
  refine PS.mono (ps_fldaug ho he hi) fun D σ H ⟨F, μ, env, st, r, re, p⟩ => ⟨F, μ, env, st, r, re, SPost.bind re p fun o st1 F1 μ1 H1 ov x1 r1 ro p1 => ?_⟩
  split at p1
  case h_2 => exact p1.elim
  rename_i q c fs e1
  split at p1
  case isFalse => exact p1.elim
  rename_i hc
  split at p1
  case h_2 => exact p1.elim
  rename_i a0 el
  obtain ⟨rfl, es, a, C, dx, fvs, rfl, ha, hC, hH, k1, k2⟩ := insOf_ok r1 ro e1
  obtain ⟨C', c1, c2, c3⟩ := hok _ _ hc
  rw [hC] at c1
  cases c1
  obtain ⟨v, l1, l2⟩ := fld_lk k1 k2 el
  rw [mkS_cps] at l1
  refine ⟨a, C, dx, fvs, v, rfl, hH, c2, c3, l1, F1, μ1, env, st1, r1, re.mono x1, SPost.bind (re.mono x1) p1 fun y st2 F2 μ2 H2 yv x2 r2 ry p2 => ?_⟩
  split at p2
  · rename_i b eb
    obtain rfl := intOf_ok ry eb
    cases l2
    refine ⟨a0, b, rfl, rfl, ?_⟩
    split at p2
    case isFalse => exact p2.elim
    rename_i hcl
    obtain ⟨⟨q3, c3, fs3⟩, e5, e6⟩ := Option.map_eq_some_iff.mp hcl
    obtain ⟨_, _, a', C3, dx3, fvs3, e4, _, hC3, hH3, _⟩ := insOf_ok r2 (x2.rv ro) e5
    have e6 : c3 = c := e6
    subst e6
    cases e4
    rw [hC] at hC3
    cases hC3
    split at p2
    · rename_i st3 e3
      obtain ⟨a', C', dx', fvs', e4, h1, h2, h3, h4, h5, h6⟩ := setFV_ok hok r2 (x2.rv ro) (.int (if sub = true then a0 - b else a0 + b)) e3
      cases e4
      rw [hH3] at h1
      cases h1
      exact ⟨dx3, fvs3, hH3, h4, p2 F2 μ2 _ σ h5 h6 (((re.mono x1).mono x2).mono h5)⟩
    · exact p2.elim
  · exact p2.elim
theorem simS_expr {e : Expr} {me : Mx Va} (he : PE X e (TE' X ct W me)) (hs : swapsWith e none pos.line X.env = pure false) : PS X (.Expr e pos) (TS' X ct W (mExpr me)) :=
  PS.mono (ps_expr he hs) fun D σ H ⟨F, μ, env, st, r, re, p⟩ => ⟨F, μ, env, st, r, re, SPost.bind re p fun v st1 F1 μ1 H1 vv x1 r1 rv p1 => p1 F1 μ1 H1 σ .refl r1 (re.mono x1)⟩
theorem simS_ret {e : Expr} {me : Mx Va} (he : PE X e (TE' X ct W me)) : PS X (.Return (some e) pos) (TS' X ct W (mRet me)) :=
  PS.mono (ps_ret he) fun D σ H ⟨F, μ, env, st, r, re, p⟩ => ⟨F, μ, env, st, r, re, SPost.bind re p fun v st1 F1 μ1 H1 vv x1 r1 rv p1 => p1 F1 μ1 H1 vv .refl r1 rv⟩
theorem simS_retN : PS X (.Return none pos) (TS' X ct W fun _ st => .rt .non st) :=
  PS.mono ps_retN fun D σ H ⟨F, μ, env, st, r, re, p⟩ => p F μ H _ .refl r .non
theorem simS_if {c : Expr} {a b : List Stmt} {mt : Mx Bool} {ma mb : Ms} (hc : PT X c (TT' X ct W mt)) (ha : PSs X a (TS' X ct W ma)) (hb : PSs X b (TS' X ct W mb)) : PS X (.If c a b pos) (TS' X ct W (mIfS mt ma mb)) := by
  refine PS.mono (ps_if hc ha hb) fun D σ H ⟨F, μ, env, st, r, re, p⟩ => ⟨F, μ, env, st, r, re, SPost.bind re p fun k st1 F1 μ1 H1 k' x1 r1 ek p1 => ?_⟩
  subst ek
  cases k with
  | true => exact ⟨F1, μ1, env, st1, r1, re.mono x1, p1⟩
  | false => exact ⟨F1, μ1, env, st1, r1, re.mono x1, p1⟩
theorem simS_while {c : Expr} {b : List Stmt} {mt : Mx Bool} {mb : Ms} (hp : PassesOwn (model X.prog X.w) X.A X.env X.xe) (hc : PT X c (TT' X ct W mt)) (hb : PSs X b (TS' X ct W mb)) (n : Nat) : PS X (.While c b [] pos) (TS' X ct W (whileN mt mb n)) := by
  refine PS.mono (ps_while hp hc hb) fun D σ H h => ?_
  refine ⟨fun m σ H => ∃ F μ env st, Rel X.K ct F μ st H ∧ REnv X.K ct F μ env σ ∧ SPost X.K ct W D F μ H (whileN mt mb m env st), ⟨n, h⟩, ?_⟩
  rintro m σ H ⟨F, μ, env, st, r, re, p⟩
  cases m with
  | zero => exact p.elim
  | succ m =>
    refine ⟨F, μ, env, st, r, re, SPost.bind re p fun k st1 F1 μ1 H1 k' x1 r1 ek p1 => ?_⟩
    subst ek
    cases k with
    | false =>
      rw [if_neg Bool.false_ne_true]
      exact p1 F1 μ1 H1 σ .refl r1 (re.mono x1)
    | true =>
      rw [if_pos rfl]
      refine ⟨fun σ' H' => ∃ F μ env st, Rel X.K ct F μ st H' ∧ REnv X.K ct F μ env σ' ∧ SPost X.K ct W D F μ H' (whileN mt mb m env st), fun σ' H' q => ⟨m, Nat.lt_succ_self m, q⟩, F1, μ1, env, st1, r1, re.mono x1, ?_⟩
      simp only [if_true] at p1
      cases e : mb env st1 with
      | nx env2 st2 => rw [e] at p1; exact fun F' μ' H' σ' x r' re' => ⟨F', μ', env2, st2, r', re', SPost.at x p1⟩
      | ct env2 st2 => rw [e] at p1; exact fun F' μ' H' σ' x r' re' => ⟨F', μ', env2, st2, r', re', SPost.at x p1⟩
      | rt w st2 => rw [e] at p1; exact p1
      | err y env2 st2 => rw [e] at p1; exact p1
      | stuck => rw [e] at p1; exact p1
theorem simS_for {tg : Tg} {t i : Expr} {b : List Stmt} {mi : Mx (List Va × Gd)} {mb : Ms} (hbe : ∀ j ∈ tgIx tg, ct.Bears j) (hp : PassesOwn (model X.prog X.w) X.A X.env X.xe) (hc : X.calm = true) (hi : PI X t i (TI' X ct W mi)) (hg : PG X t (gSet X.K tg)) (hb : PSs X b (TS' X ct W mb)) (hs : ∀ x, foldedSetIterable i X.env x = pure x) :
    PS X (.For t i b [] pos) (TS' X ct W (mFor tg mi mb)) := by
  refine PS.mono (ps_for hp hc hi hg hb hs) fun D σ H ⟨F, μ, env, st, r, re, p⟩ => ⟨F, μ, env, st, r, re, SPost.bind re p fun wg st1 F1 μ1 H1 J x1 r1 hJ p1 => ?_⟩
  refine ⟨fun i m σ H => m = wg.1.length - i ∧ i ≤ wg.1.length ∧ ∃ F μ env st, Ext F1 μ1 H1 F μ H ∧ Rel X.K ct F μ st H ∧ REnv X.K ct F μ env σ ∧ SPost X.K ct W D F μ H (forRun tg wg.2 mb (wg.1.drop i) env st),
    ⟨_, rfl, Nat.zero_le _, F1, μ1, env, st1, .refl, r1, re.mono x1, by rw [List.drop_zero]; exact p1⟩, ?_⟩
  rintro i m σ H ⟨rfl, hi', F2, μ2, env2, st2, x2, r2, re2, p2⟩
  by_cases hlt : i < wg.1.length
  · obtain ⟨w, hw⟩ : ∃ w, wg.1[i]? = some w := ⟨_, List.getElem?_eq_getElem hlt⟩
    have hdrop : wg.1.drop i = w :: wg.1.drop (i + 1) := by
      rw [List.drop_eq_getElem_cons hlt]
      rw [List.getElem?_eq_getElem hlt] at hw
      rw [Option.some.inj hw]
    rw [hdrop] at p2
    unfold forRun at p2
    split at p2
    · rename_i hgd
      have hIt := (hJ F2 μ2 st2 H x2.fr x2.pre r2 (gdB_ok hgd) i).2 w hw
      refine .inr ⟨hIt.1, fun σ' H' => i + 1 ≤ wg.1.length ∧ ∃ F μ env st, Ext F1 μ1 H1 F μ H' ∧ Rel X.K ct F μ st H' ∧ REnv X.K ct F μ env σ' ∧ SPost X.K ct W D F μ H' (forRun tg wg.2 mb (wg.1.drop (i + 1)) env st),
        fun σ' H' q => ⟨wg.1.length - (i + 1), by omega, rfl, q⟩, fun x H3 y => ?_⟩
      obtain ⟨F3, x3, r3, rx⟩ := hIt.2 x H3 y
      split at p2
      · exact p2.elim
      · rename_i env3 et
        refine gSet_of r3 (re2.mono x3) rx et hbe fun σ' re' _ => ⟨F3, μ2, env3, st2, r3, re', ?_⟩
        have p3 := SPost.at x3 p2
        cases e : mb env3 st2 with
        | nx env4 st4 => rw [e] at p3; exact fun F' μ' H' σ' x r' re' => ⟨hlt, F', μ', env4, st4, (x2.trans x3).trans x, r', re', SPost.at x p3⟩
        | ct env4 st4 => rw [e] at p3; exact fun F' μ' H' σ' x r' re' => ⟨hlt, F', μ', env4, st4, (x2.trans x3).trans x, r', re', SPost.at x p3⟩
        | rt w st4 => rw [e] at p3; exact p3
        | err y env4 st4 => rw [e] at p3; exact p3
        | stuck => rw [e] at p3; exact p3
    · exact p2.elim
  · have hi2 : i = wg.1.length := by omega
    rw [List.drop_eq_nil_of_le (by omega)] at p2
    unfold forRun at p2
    split at p2
    · rename_i hgd
      exact .inl ⟨(hJ F2 μ2 st2 H x2.fr x2.pre r2 (gdB_ok hgd) i).1 hi2, p2 F2 μ2 H σ .refl r2 re2⟩
    · exact p2.elim
end
end G

set_option Elab.async false
set_option linter.all false
set_option maxRecDepth 100000
set_option maxHeartbeats 8000000
namespace G
open PySem PySem.Spec PyProof.Rows L2

/-! ### try with several clauses, named or not -/
/-- the ends of a suite whose name goes -/
def Eclr (io : Option Nat) (D : Ends) : Ends := match io with
  | none => D
  | some i => { nx := fun σ' H' => D.nx (σ'.set i none) H', rt := D.rt, bk := fun σ' H' => D.bk (σ'.set i none) H', ct := fun σ' H' => D.ct (σ'.set i none) H' }
def Sset (io : Option Nat) (a : Addr) (σ : L2.St) : L2.St := match io with
  | none => σ
  | some i => σ.set i (some (.ref a))
abbrev Hd3 := Value × Option Nat × (Addr → Value → Option Addr → TS)
/-- what the clauses wish -/
def wG (K : PySem.W.Frag) (nN : Nat) (Wo : WX) (D : Ends) : List Hd3 → WX
  | [] => Wo
  | (c, io, ts) :: r => fun cls d σ H => ∃ b, PySem.W.exmOne K cls c = some b ∧ (b = true → σ.length = nN → ∀ a, H a = none → ts a cls d (Eclr io D) (Sset io a σ) H) ∧ (b = false → wG K nN Wo D r cls d σ H)
inductive HdsG (X : Cx) : List ExceptHandler → List Hd3 → Prop
  | nil : HdsG X [] []
  | cons {x : Str} {c : Value} {io : Option Nat} {on : Option Str} {ts : Addr → Value → Option Addr → TS} {b₀ : Stmt} {su : List Stmt} {np pos' : Pos} {hds : List ExceptHandler} {l : List Hd3} (hc : Names X x c)
      (hn : (io = none ∧ on = none) ∨ ∃ i n, io = some i ∧ on = some n ∧ X.N[i]? = some n ∧ X.env.kindOf n = some .local)
      (hsu : ∀ (a : Addr) (oe : Obj) (cls : Value) (d : Option Addr) (pn : List (Addr × Obj)), Zc cls d oe → (∃ vs, oe.data = .fields vs) → PSs (X.suite a ((a, oe) :: pn)) (b₀ :: su) (ts a cls d)) (r : HdsG X hds l) :
      HdsG X (.ExceptHandler (some (.Name x np)) on (b₀ :: su) pos' :: hds) ((c, io, ts) :: l)
section
variable {X : Cx} {body : List Stmt} {h₀ : ExceptHandler} {hds : List ExceptHandler} {l : List Hd3} {pos : Pos} {tb : WX → TS} {Wo : WX}
theorem ps_tryG (hs : X.stack = X.env :: X.outer) (hf : X.env.frame = some X.env.locals) (hN : X.N.Nodup) (tk : Takes X Wo)
    (hb : ∀ (W : WX) (pn : List (Addr × Obj)) (xe : Value → Shared → Prop), Takes (X.tr pn xe) W → PassesOwn (model X.prog X.w) X.A X.env xe → PSs (X.tr pn xe) body (tb W))
    (hh : HdsG X (h₀ :: hds) l) : PS X (.Try body (h₀ :: hds) [] [] pos) (fun D σ H => tb (wG X.K X.N.length Wo D l) D σ H) := by
  refine ⟨fun pins s σ H D I h => ?_⟩
  have ok := I.ok
  have hfr : X.A.frames = some (X.env :: X.outer) := by rw [ok.frames, hs]
  refine wpAny_Try_except ?_
  refine wpAny_mono ((hb (wG X.K X.N.length Wo D l) (X.pn ++ pins) (fun e s₁ => wpAny (model X.prog X.w) X.A (noteFrame e X.env) (fun _ s₂ => wpAny (model X.prog X.w) X.A (setFlight e none) (fun _ s₃ =>
    wpAny (model X.prog X.w) X.A (handleBy e X.env (h₀ :: hds)) (SP X pins D) X.xe s₃) X.xe s₂) X.xe s₁) (fun u s' xx => ?_) PassesOwn.looking).run [] s σ H D (I.toTry _) h) (fun f s1 hsp => ?_) (fun e s1 he => he)
  · -- the catch
    obtain ⟨a, B, sI, pins', σ', H', cls, d, rfl, J', nb, up, sky, na, os, ag, w⟩ := xx
    have J : Inv X pins σ' H' sI := J'.ofTry ok
    have sky' : Sky B (X.env :: X.outer) a (Zc cls d) X.env.locals s'.heap := by rw [← hs]; exact sky
    show wpAny (model X.prog X.w) X.A (noteFrame (.ref a) X.env) _ _ _
    refine Sky.land Zc.steady hfr hf sky' fun h3 fl3 up3 => ?_
    have J3 : Inv X pins σ' H' { s' with heap := h3 } := J.landed nb fl3.1 (up.trans up3) os ag
    obtain ⟨oe3, vs3, he3, hz3, hd3⟩ := fl3.there
    have notFr : ∀ {h : Heap} {o : Obj} {vs : Array Value}, h.FunFrames B (X.env :: X.outer) → h.get? a = some o → o.data = .fields vs → a ∉ frs (X.env :: X.outer) := fun {h o vs} ff e dd hm => by
      obtain ⟨_, o', e', hnf⟩ := ff.mem hm
      rw [e] at e'; cases e'
      exact hnf _ dd
    have nfr := notFr fl3.2.2.1 he3 hd3
    have nL : a ≠ X.env.locals := fun z => nfr (List.mem_filterMap.mpr ⟨X.env, List.mem_cons_self, by rw [hf, z]⟩)
    have nF : a ∉ X.fs := fun hm => by
      obtain ⟨e, he, q⟩ := List.mem_filterMap.mp hm
      exact nfr (List.mem_filterMap.mpr ⟨e, List.mem_cons_of_mem _ he, q⟩)
    have S3 := J3.suite he3 hd3 na nL nF
    have go : ∀ {hds' : List ExceptHandler} {l' : List Hd3}, HdsG X hds' l' → wG X.K X.N.length Wo D l' cls d σ' H' →
        wpAny (model X.prog X.w) X.A (handleBy (.ref a) X.env hds') (SP X pins D) X.xe { s' with heap := h3 } := by
      intro hds' l' hk
      induction hk with
      | nil =>
        intro w
        refine wpAny_handleBy_nil ?_
        obtain ⟨k1, k2, k3, oe, vs, T, oT, ts', he, hz, hd, h1, hr⟩ := id fl3
        unfold PySem.passOn
        refine wpAny_bind (wpAny_field he hd h1 ?_)
        rw [if_neg (show ¬ ((Value.ref T == Value.none) = true) from by simp)]
        have fin : wpAny (model X.prog X.w) X.A (setFlight (.ref a) X.env.frame) (fun _ s4 => wpAny (model X.prog X.w) X.A (throw (.ref a) : Sem Flow) (SP X pins D) X.xe s4) X.xe { s' with heap := h3 } := by
          rw [hf]
          refine HandSPX.setFlight_upZ fl3 fun h4 hh4 up4 => wpAny_throw (tk _ _ ?_)
          exact ⟨a, B, sI, pins, σ', H', cls, d, rfl, J, nb, (up.trans up3).trans up4, .inr (.inr (by rw [hs]; exact hh4)), na, os, ag, w⟩
        first
          | exact wpAny_bind (wpAny_pure (wpAny_bind fin))
          | exact wpAny_bind fin
      | @cons x c io on ts b₀ su np pos' hds2 l2 hc hnn hsu r ih =>
        intro w
        obtain ⟨b, hb1, hyes, hno⟩ := w
        refine wpAny_handleBy_cons (codeAny_handlers_test ?_) (by intro q; cases q)
        have LT : PySem.W.Looks (model X.prog X.w) h3 (typeOf (.ref a)) cls := fun A Q E s k q => wpAny_typeOf_ref (k _ _ he3) (by rw [hz3.1]; exact q)
        have LM := PySem.W.exm_one (M := model X.prog X.w) (J3.kIn) LT hb1
        have test : ∀ {Q : Value → Shared → Prop} {E : Value → Shared → Prop}, Q c { s' with heap := h3 } → wpAny (model X.prog X.w) (X.A.mark (some (.ref a))) (eval (.Name x np) X.env) Q E { s' with heap := h3 } := fun {Q E} q => by
          obtain ⟨hg, hdbg, hm | ⟨hm, hv, hnn⟩⟩ := hc
          · exact ld_glob (X := X.suite a ((a, oe3) :: (X.pn ++ pins))) S3 hg hm q hdbg
          · exact ld_blt (X := X.suite a ((a, oe3) :: (X.pn ++ pins))) S3 hg hm hv q hnn hdbg
        refine test (LM.here ?_)
        cases b with
        | true =>
          rcases hnn with ⟨rfl, rfl⟩ | ⟨i, n, rfl, rfl, hi, hln⟩
          · refine codeAny_handlers_suite ?_
            refine HandSPX.lands_againZ fl3 fun h4 fl4 up4 => ?_
            have J4 : Inv X pins σ' H' { s' with heap := h4 } := J.landed nb fl4.1 ((up.trans up3).trans up4) os ag
            obtain ⟨oe4, vs4, he4, hz4, hd4⟩ := fl4.there
            have S4 := J4.suite he4 hd4 na nL nF
            refine wpAny_mono ((hsu a oe4 cls d (X.pn ++ pins) hz4 ⟨_, hd4⟩).run [] _ _ H' _ S4 (hyes rfl J.len a na)) (fun f s6 hsp => ?_) (fun _ _ z => False.elim z)
            cases f with
            | next =>
              obtain ⟨σ6, H6, S6, q6⟩ := hsp
              exact ⟨_, _, S6.unsuite ok, q6⟩
            | brk =>
              obtain ⟨σ6, H6, S6, q6⟩ := hsp
              exact ⟨_, _, S6.unsuite ok, q6⟩
            | cont =>
              obtain ⟨σ6, H6, S6, q6⟩ := hsp
              exact ⟨_, _, S6.unsuite ok, q6⟩
            | ret u =>
              obtain ⟨v6, σ6, H6, S6, r6, q6⟩ := hsp
              exact ⟨_, _, _, S6.unsuite ok, r6, q6⟩
          · have hloc : Loc X.env.scope n := .inl hln
            refine codeAny_handlers_suite_as ?_
            refine HandSPX.lands_againZ fl3 fun h4 fl4 up4 => ?_
            have J4 : Inv X pins σ' H' { s' with heap := h4 } := J.landed nb fl4.1 ((up.trans up3).trans up4) os ag
            obtain ⟨oe4, vs4, he4, hz4, hd4⟩ := fl4.there
            have S4 := J4.suite he4 hd4 na nL nF
            refine store_ok (X := X.suite a ((a, oe4) :: (X.pn ++ pins))) (v := .ref a) S4 hN hi hloc rfl (fun s5 S5 => ?_) (.inr hln)
            refine wpAny_mono ((hsu a oe4 cls d (X.pn ++ pins) hz4 ⟨_, hd4⟩).run [] s5 _ H' _ S5 (hyes rfl J.len a na)) (fun f s6 hsp => ?_) (fun _ _ z => False.elim z)
            have end_ : ∀ {σ6 : L2.St} {H6 : Hp} {Q : Shared → Prop}, Inv (X.suite a ((a, oe4) :: (X.pn ++ pins))) [] σ6 H6 s6 → (∀ s7, Inv X pins (σ6.set i none) H6 s7 → Q s7) →
                wpAny (model X.prog X.w) X.A (do bindName X.env n .none; unbindBehindTheSuite X.env n pos') (fun _ s7 => Q s7) X.xe s6 := fun {σ6 H6 Q} S6 hq => gone_ok (S6.unsuite ok) hN hi hln hq
            cases f with
            | next =>
              obtain ⟨σ6, H6, S6, q6⟩ := hsp
              exact end_ S6 fun s7 J7 => ⟨_, _, J7, q6⟩
            | brk =>
              obtain ⟨σ6, H6, S6, q6⟩ := hsp
              exact end_ S6 fun s7 J7 => ⟨_, _, J7, q6⟩
            | cont =>
              obtain ⟨σ6, H6, S6, q6⟩ := hsp
              exact end_ S6 fun s7 J7 => ⟨_, _, J7, q6⟩
            | ret u =>
              obtain ⟨v6, σ6, H6, S6, r6, q6⟩ := hsp
              exact end_ S6 fun s7 J7 => ⟨_, _, _, J7, r6, q6⟩
        | false =>
          show wpAny _ X.A (handleBy (.ref a) X.env hds2) _ _ _
          exact ih (hno rfl)
    exact go hh w
  · cases f with
    | next =>
      obtain ⟨σ', H', J', q⟩ := hsp
      exact wpAny_execs_nil ⟨σ', H', J'.ofTry ok, q⟩
    | brk =>
      obtain ⟨σ', H', J', q⟩ := hsp
      exact ⟨σ', H', J'.ofTry ok, q⟩
    | cont =>
      obtain ⟨σ', H', J', q⟩ := hsp
      exact ⟨σ', H', J'.ofTry ok, q⟩
    | ret u =>
      obtain ⟨v, σ', H', J', r, q⟩ := hsp
      exact ⟨v, σ', H', J'.ofTry ok, r, q⟩
end
end G

set_option Elab.async false
set_option linter.all false
set_option maxRecDepth 100000
set_option maxHeartbeats 8000000
namespace G
open PySem PySem.Spec PyProof.Rows L2

/-! ### raise, try -/
section
variable {K : PySem.W.Frag} {ct ct' : Ct} {F F' : Hp} {μ : List Addr} {H : Hp} {st : Sto} {env : Ev} {σ : L2.St}
theorem RO.tab {a : Addr} {o : Ob} (e : ct.own = ct'.own) (h : RO K ct F μ H a o) : RO K ct' F μ H a o := by
  cases h with
  | lst h r => exact .lst h r
  | dic h k r => exact .dic h k r
  | ins c h k r => exact .ins (e ▸ c) h k r
theorem Rel.tab (e : ct.own = ct'.own) (e2 : ct'.tps = ct.tps) (r : Rel K ct F μ st H) : Rel K ct' F μ st H := ⟨r.sub0, r.len, fun p o a h1 h2 => (r.obj p o a h1 h2).tab e, r.dis, r.inj, r.mtr, fun P m => r.tabs P (e2 ▸ m)⟩
theorem RX.tab {x : Exc} {cls : Value} {d : Option Addr} (e : ct.tab = ct'.tab) (r : RX K ct F μ x cls d) : RX K ct' F μ x cls d := ⟨e ▸ r.cls, r.fs, r.dd⟩
/-- into a suite -/
theorem REnv.hot {a : Addr} (io : Option Nat) (r : REnv K ct F μ env σ) (h : ct'.inv (Sset io a σ) F) : REnv K ct' F μ (clr io env) (Sset io a σ) := by
  cases io with
  | none => exact ⟨r.len, r.get, h⟩
  | some i =>
    refine ⟨by show (env.set i none).length = (σ.set i _).length; simp [r.len], fun j w e => ?_, h⟩
    have e : (env.set i none)[j]? = some (some w) := e
    show ∃ v, (σ.set i (some (.ref a)))[j]? = some (some v) ∧ _
    by_cases hj : i = j
    · subst hj
      by_cases hl : i < env.length
      · rw [List.getElem?_set_self hl] at e; cases e
      · rw [List.getElem?_eq_none (by simpa using hl)] at e; cases e
    · rw [List.getElem?_set_ne hj] at e ⊢
      exact r.get j w e
def Sclr (io : Option Nat) (σ : L2.St) : L2.St := match io with
  | none => σ
  | some i => σ.set i none
/-- out of it -/
theorem REnv.cool (io : Option Nat) (hc : ∀ σ F, ct.inv σ F) (r : REnv K ct' F μ env σ) : REnv K ct F μ (clr io env) (Sclr io σ) := by
  cases io with
  | none => exact ⟨r.len, r.get, hc _ _⟩
  | some i =>
    refine ⟨by show (env.set i none).length = (σ.set i _).length; simp [r.len], fun j w e => ?_, hc _ _⟩
    have e : (env.set i none)[j]? = some (some w) := e
    show ∃ v, (σ.set i none)[j]? = some (some v) ∧ _
    by_cases hj : i = j
    · subst hj
      by_cases hl : i < env.length
      · rw [List.getElem?_set_self hl] at e; cases e
      · rw [List.getElem?_eq_none (by simpa using hl)] at e; cases e
    · rw [List.getElem?_set_ne hj] at e ⊢
      exact r.get j w e
/-- what is known in the suite -/
def hotCt (K : PySem.W.Frag) (ct : Ct) (io : Option Nat) (a : Addr) (cls : Value) (d : Option Addr) (x : Exc) : Ct where
  tab := ct.tab
  tps := ct.tps
  own := ct.own
  inv := fun σ F => (∀ i, io = some i → σ[i]? = some (some (.ref a))) ∧ RX K ct F [] x cls d
  mono := fun σ F F' s h => ⟨h.1, h.2.cls, fun n w e => let ⟨d', fvs, v, h1, h2, h3, h4⟩ := h.2.fs n w e; ⟨d', fvs, v, h1, s.sub _ _ h2, h3, h4.mono s List.prefix_rfl⟩, h.2.dd.imp (fun e => e) fun ⟨d', fvs, g1, g2⟩ => ⟨d', fvs, g1, s.sub _ _ g2⟩⟩
theorem Rel.toHot {io : Option Nat} {a : Addr} {cls : Value} {d : Option Addr} {x : Exc} (r : Rel K ct F μ st H) : Rel K (hotCt K ct io a cls d x) F μ st H := Rel.tab (show ct.own = (hotCt K ct io a cls d x).own from rfl) rfl r
theorem Rel.ofHot {io : Option Nat} {a : Addr} {cls : Value} {d : Option Addr} {x : Exc} (r : Rel K (hotCt K ct io a cls d x) F μ st H) : Rel K ct F μ st H := Rel.tab (show (hotCt K ct io a cls d x).own = ct.own from rfl) rfl r
theorem RX.free {x : Exc} {cls : Value} {d : Option Addr} (r : RX K ct F μ x cls d) (h : (x.fs.all fun p => G.free p.2) = true) : RX K ct F [] x cls d :=
  ⟨r.cls, fun n w hw => let ⟨d', fvs, v, a1, a2, a3, a4⟩ := r.fs n w hw; ⟨d', fvs, v, a1, a2, a3, a4.free (List.all_eq_true.mp h _ (lookup_mem hw))⟩, r.dd⟩
end
section
variable {X : Cx} {ct : Ct} {W : WX} {L : Lm}
theorem simS_rais {c m : Str} {j : Nat} {p p2 pos pos' : Pos} (hc : X.calm = true) (tk : Takes X W) (xs : XsOk X.prog X.w X.K X.mg ct L.xs) (hg : Gl X c) (hdb : (c == ("__debug__" : Str)) = false) : PS X (.Raise (some (.Call (.Name c p) [.Constant (.str m) j p2] [] pos)) none pos') (TS' X ct W (mRais L c)) := by
  cases e : L.xs.pl c with
  | none =>
    refine ⟨fun pins s σ H D I ⟨F, μ, env, st, r, re, q⟩ => ?_⟩
    unfold mRais at q
    simp only [e] at q
    exact q.elim
  | some z =>
    obtain ⟨C, e1, e2, e3, e4, e5, e6⟩ := xs.pl _ _ e
    refine PS.mono (ps_raise hc tk (pmk_own PySem.F.excBase_ValueError e3 e2 e4 (raises_own e5 e6) hg hdb)) fun D σ H ⟨F, μ, env, st, r, re, q⟩ => ?_
    unfold mRais at q
    simp only [e] at q
    exact q F μ H σ _ _ .refl r re ⟨⟨C, e1, rfl⟩, fun n w h => (by simp at h), .inl rfl⟩
theorem simS_raisP {c : Str} {e : Expr} {me : Mx Va} {p pos pos' : Pos} (hc : X.calm = true) (tk : Takes X W) (xs : XsOk X.prog X.w X.K X.mg ct L.xs) (hg : Gl X c) (he : PE X e (TE' X ct W me)) (hdb : (c == ("__debug__" : Str)) = false) (hs : starEach [e] X.env = (false, eval e X.env) :: starEach [] X.env) :
    PS X (.Raise (some (.Call (.Name c p) [e] [] pos)) none pos') (TS' X ct W (mRaisP L c me)) := by
  cases eo : L.xs.pl c with
  | none =>
    refine ⟨fun pins s σ H D I ⟨F, μ, env, st, r, re, q⟩ => ?_⟩
    unfold mRaisP at q
    rw [eo] at q
    exact q.elim
  | some z =>
    obtain ⟨C, e1, e2, e3, e4, e5, e6⟩ := xs.pl _ _ eo
    refine PS.mono (ps_raise hc tk (SkE.pmk_own1 PySem.F.excBase_ValueError e3 e2 e4 (raises_own e5 e6) hg he hs hdb)) fun D σ H ⟨F, μ, env, st, r, re, q⟩ => ?_
    unfold mRaisP at q
    simp only [eo] at q
    refine ⟨F, μ, env, st, r, re, SPost.bind re q fun w st1 F1 μ1 H1 v x1 r1 rv p1 => ?_⟩
    exact p1 F1 μ1 H1 σ _ _ .refl r1 (re.mono x1) ⟨⟨C, e1, rfl⟩, fun n w h => (by simp at h), .inl rfl⟩
theorem Passes.nev : Passes (L2.CX X.prog X.w) X (fun _ _ _ => False) := fun pins σ H s e s' I h => by
  obtain ⟨_, _, _, _, _, _, _, _, _, _, _, _, z⟩ := h
  exact z.elim
theorem pcW_ok {K : PySem.W.Frag} {F : Hp} {μ : List Addr} {ws : List Va} {vs : List V} (r : RVs K F μ ws vs) : ∀ {p : Pc}, pcW ws p = true → pcV vs p
  | .c s, h => by
    have h : decide (s.length ≤ 1000000) = true := h
    show s.length ≤ 1000000
    exact of_decide_eq_true h
  | .p i, h => by
    have h : (match ws[i]? with
      | some (.str y) => decide (y.length ≤ 1000000)
      | some (.int k) => decide (k.natAbs.log2 < 1920)
      | _ => false) = true := h
    split at h
    · rename_i y e
      obtain ⟨v, e1, rv⟩ := r.get e
      cases rv
      exact .inl ⟨_, e1, by simpa [mkS, PySem.Str.length] using of_decide_eq_true h⟩
    · rename_i k e
      obtain ⟨v, e1, rv⟩ := r.get e
      cases rv
      exact .inr ⟨_, e1, of_decide_eq_true h⟩
    · cases h
theorem runFs_ok {K : PySem.W.Frag} {F : Hp} {μ : List Addr} {ws : List Va} {vs : List V} (r : RVs K F μ ws vs) : ∀ {l : List (Str × Nat)} {acc : List (Str × Va)} {acv : List (Str × V)} {fs : List (Str × Va)}, acv.map (·.1) = acc.map (·.1) → RVs K F μ (acc.map (·.2)) (acv.map (·.2)) → runFs ws l acc = some fs →
    ∃ fvs, runFs vs l acv = some fvs ∧ fvs.map (·.1) = fs.map (·.1) ∧ RVs K F μ (fs.map (·.2)) (fvs.map (·.2))
  | [], acc, acv, fs, h1, h2, h => by cases h; exact ⟨_, rfl, h1, h2⟩
  | (f, i) :: l, acc, acv, fs, h1, h2, h => by
    unfold runFs at h ⊢
    cases e : ws[i]? with
    | none => rw [e] at h; cases h
    | some w =>
      rw [e] at h
      obtain ⟨v, e1, rv⟩ := r.get e
      rw [e1]
      exact runFs_ok r (acc := (f, w) :: acc) (acv := (f, v) :: acv) (by simp [h1]) (.cons rv h2) h
theorem fs_look {K : PySem.W.Frag} {F : Hp} {μ : List Addr} {n : Tx} {w : Va} : ∀ {fs : List (Str × Va)} {fvs : List (Str × V)}, fvs.map (·.1) = fs.map (·.1) → RVs K F μ (fs.map (·.2)) (fvs.map (·.2)) → (fs.map fun p => (p.1.cps.toList, p.2)).lookup n = some w → ∃ v, fvs.lookup (mkS n) = some v ∧ RV K F μ w v
  | [], fvs, h1, h2, h => by simp at h
  | (f, x) :: fs, [], h1, h2, h => by simp at h1
  | (f, x) :: fs, (g, y) :: fvs, h1, h2, h => by
    simp only [List.map_cons, List.cons.injEq] at h1
    obtain ⟨rfl, h1⟩ := h1
    cases h2 with
    | cons r t =>
      simp only [List.map_cons, List.lookup_cons] at h ⊢
      by_cases e : n = g.cps.toList
      · have e1 : (n == g.cps.toList) = true := by simpa using e
        rw [e1] at h
        cases h
        have e2 : (mkS n == g) = true := by rw [e, mkS_tl]; simp
        rw [e2]
        exact ⟨y, rfl, r⟩
      · have e1 : (n == g.cps.toList) = false := by simpa using e
        rw [e1] at h
        have e2 : (mkS n == g) = false := by
          simp only [beq_eq_false_iff_ne]
          intro z
          exact e (by rw [← z]; rfl)
        rw [e2]
        exact fs_look h1 t h
theorem simS_raisI {k : Nat} {c : Str} {e : Expr} {es : List Expr} {ml : Mx (List Va)} {p pos pos' : Pos} (hr : Room (k + 2) X.A) (hc : X.calm = true) (tk : Takes X W) (xs : XsOk X.prog X.w X.K X.mg ct L.xs) (hg : Gl X c) (ha : PA X (e :: es) (TA' X ct W ml)) (hdb : (c == ("__debug__" : Str)) = false)
    (he : starEach (e :: es) X.env = (false, eval e X.env) :: starEach es X.env) (hpl : (backTo pos (starEach es X.env)).any (·.1) = false) : PS X (.Raise (some (.Call (.Name c p) (e :: es) [] pos)) none pos') (TS' X ct W (mRaisI L c ml)) := by
  cases eo : L.xs.ow c with
  | none =>
    refine ⟨fun pins s σ H D I ⟨F, μ, env, st, r, re, q⟩ => ?_⟩
    unfold mRaisI at q
    rw [eo] at q
    exact q.elim
  | some o =>
    obtain ⟨C, fI, fd, ns, e1, e2, ok⟩ := xs.ow _ _ eo
    obtain ⟨_, _, _, _, _, _, Ik, _, _⟩ := ok.ex
    refine PS.mono (ps_raise hc tk (pmk_oex (ds := []) (dvs := []) Ik.oex ok.fi ok.ti (ini_fn (w := X.w) (base := X.base) ok) (hr.mono (by omega)) ok.bi .nil Passes.nev hg e2 ha hdb he hpl)) fun D σ H ⟨F, μ, env, st, r, re, q⟩ => ?_
    unfold mRaisI at q
    simp only [eo] at q
    refine ⟨F, μ, env, st, r, re, SPost.bind re q fun ws st1 F1 μ1 H1 vs x1 r1 rvs p1 => ?_⟩
    split at p1
    case isFalse => exact p1.elim
    rename_i hcond
    obtain ⟨hl, hn, ht, hp⟩ := hcond
    split at p1
    case h_2 => exact p1.elim
    rename_i fs efs
    obtain ⟨fvs, f1, f2, f3⟩ := runFs_ok rvs (acv := []) rfl .nil efs
    refine ⟨by rw [← rvs.length, hl]; omega, fun a ha => ⟨a, vs ++ [], rfl, by rw [List.append_nil, ← rvs.length, hl], upd_same, ht, fun y hy => by rw [List.append_nil]; exact pcW_ok rvs (List.all_eq_true.mp hp y hy), fvs, by rw [List.append_nil]; exact f1, fun d H2 hd hda g1 g2 g3 => ?_⟩⟩
    rw [upd_ne hda] at hd
    refine ⟨rfl, d, fvs, g1, g2, hd, ?_⟩
    have eH : upd (del H2 a) d (.xd fvs) = upd H1 d (.xd fvs) := by
      funext b
      by_cases hb : b = d
      · rw [hb, upd_same, upd_same]
      · rw [upd_ne hb, upd_ne hb]
        by_cases hba : b = a
        · rw [hba, del_same, ha]
        · rw [del_ne hba, g3 b hba hb, upd_ne hba]
    rw [eH]
    have x2 := Ext.frz r1 hd (.xd fvs)
    have r2 := Rel.frz r1 hd (.xd fvs)
    exact p1 _ _ _ _ _ _ x2 r2 ((re.mono x1).mono x2) ⟨⟨C, e1, rfl⟩, fun n w hw => by
      obtain ⟨v, v1, v2⟩ := fs_look f2 f3 hw
      exact ⟨d, fvs, v, rfl, upd_same, v1, x2.rv v2⟩, .inr ⟨d, fvs, rfl, upd_same⟩⟩
/-- a clause -/
structure Cl where
  c : Str
  io : Option Nat
  m : Lm → Ms
def selAll (L : Lm) : List Cl → Ms
  | [] => mHend L
  | k :: r => mSel L k.c (mHnd k.io (k.m L)) (selAll L r)
theorem Eclr_nx (io : Option Nat) (D : Ends) (σ : L2.St) (H : Hp) : (Eclr io D).nx σ H ↔ D.nx (Sclr io σ) H := by cases io <;> exact Iff.rfl
theorem Eclr_ct (io : Option Nat) (D : Ends) (σ : L2.St) (H : Hp) : (Eclr io D).ct σ H ↔ D.ct (Sclr io σ) H := by cases io <;> exact Iff.rfl
theorem Eclr_rt (io : Option Nat) (D : Ends) : (Eclr io D).rt = D.rt := by cases io <;> rfl
/-- the clauses, each with what its class is -/
def lG (K : PySem.W.Frag) (ct : Ct) (L : Lm) (cl : List Cl) (cvs : List Value) : List Hd3 := (cl.zip cvs).map fun p => (p.2, p.1.io, fun a cls d => fun D σ H => ∃ x F μ env st, Rel K (hotCt K ct p.1.io a cls d x) F μ st H ∧ REnv K (hotCt K ct p.1.io a cls d x) F μ env σ ∧ SPost K (hotCt K ct p.1.io a cls d x) W0 D F μ H (p.1.m { L with xh := some x } env st))
theorem wG_of {nN : Nat} {P : Program} {w : World} {K : PySem.W.Frag} {mg : Str → Option Value} {D : Ends} {x : Exc} {cls : Value} {d : Option Addr} (xs : XsOk P w K mg ct L.xs) (hcold : ∀ σ F, ct.inv σ F) : ∀ {cl : List Cl} {cvs : List Value} {F : Hp} {μ : List Addr} {env : Ev} {st : Sto} {σ : L2.St} {H : Hp},
    cvs.length = cl.length → (∀ (i : Nat) k cv, cl[i]? = some k → cvs[i]? = some cv → mg k.c = some cv ∨ (mg k.c = none ∧ bootBuiltins k.c = some cv)) → (∀ k ∈ cl, ∀ i, k.io = some i → i < nN) →
    Rel K ct F μ st H → REnv K ct F μ env σ → RX K ct F [] x cls d → SPost K ct W D F μ H (selAll { L with xh := some x } cl env st) → wG K nN W D (lG K ct L cl cvs) cls d σ H
  | [], cvs, F, μ, env, st, σ, H, hl, hc, hn, r, re, rx, q => by
    show W cls d σ H
    exact q F μ H σ cls d .refl r re ⟨rx.cls, fun n w e => let ⟨d', fvs, v, a1, a2, a3, a4⟩ := rx.fs n w e; ⟨d', fvs, v, a1, a2, a3, a4.mono (.refl _) List.nil_prefix⟩, rx.dd⟩
  | k :: cl, [], _, _, _, _, _, _, hl, _, _, _, _, _, _ => by simp at hl
  | k :: cl, cv :: cvs, F, μ, env, st, σ, H, hl, hc, hn, r, re, rx, q => by
    unfold selAll mSel at q
    cases es : L.xs.sub x.cls k.c with
    | none => simp only [es] at q; exact q.elim
    | some b =>
      obtain ⟨C, e1, e2⟩ := xs.sub _ _ _ es
      obtain ⟨C', e3, e4⟩ := rx.cls
      have e5 := Option.some.inj (e3.symm.trans e1)
      subst e5
      have hcv : PySem.W.exmOne K cls cv = some b := by
        rw [e4]
        rcases hc 0 k cv rfl rfl with h | ⟨h1, h2⟩
        · rcases e2 with ⟨D', m1, m2, _⟩ | ⟨n, m1, _⟩
          · rw [h] at m1; cases m1; exact m2
          · rw [h] at m1; cases m1
        · rcases e2 with ⟨D', m1, m2, _⟩ | ⟨n, m1, m2, m3, _⟩
          · rw [h1] at m1; cases m1
          · rw [h2] at m2; cases m2; exact m3
      show wG K nN W D ((cv, k.io, _) :: lG K ct L cl cvs) cls d σ H
      refine ⟨b, hcv, fun hb hlen a na => ?_, fun hb => ?_⟩
      · subst hb
        simp only [es] at q
        have hinv : (hotCt K ct k.io a cls d x).inv (Sset k.io a σ) F := by
          refine ⟨fun i hi => ?_, rx⟩
          rw [hi]
          show (σ.set i (some (.ref a)))[i]? = _
          rw [List.getElem?_set_self]
          rw [hlen]
          exact hn k List.mem_cons_self i hi
        refine ⟨x, F, μ, clr k.io env, st, r.toHot, re.hot k.io hinv, ?_⟩
        unfold mHnd at q
        cases em : k.m { L with xh := some x } (clr k.io env) st with
        | nx env2 st2 =>
          rw [em] at q
          exact fun F' μ' H' σ' x' r' re' => (Eclr_nx _ _ _ _).mpr (q F' μ' H' _ x' r'.ofHot (re'.cool k.io hcold))
        | ct env2 st2 =>
          rw [em] at q
          exact fun F' μ' H' σ' x' r' re' => (Eclr_ct _ _ _ _).mpr (q F' μ' H' _ x' r'.ofHot (re'.cool k.io hcold))
        | rt w st2 =>
          rw [em] at q
          intro F' μ' H' v x' r' rv
          rw [Eclr_rt]
          exact q F' μ' H' v x' r'.ofHot rv
        | err y env2 st2 => rw [em] at q; exact q.elim
        | stuck => rw [em] at q; exact q.elim
      · subst hb
        simp only [es] at q
        exact wG_of xs hcold (by simpa using hl) (fun i k' cv' h1 h2 => hc (i + 1) k' cv' h1 h2) (fun k' hk => hn k' (List.mem_cons_of_mem _ hk)) r re rx q
theorem simS_try {mg : Str → Option Value} {body : List Stmt} {h₀ : ExceptHandler} {hds : List ExceptHandler} {pos : Pos} {cl : List Cl} {cvs : List Value} {mb : Ms} (hs : X.stack = X.env :: X.outer) (hf : X.env.frame = some X.env.locals) (hN : X.N.Nodup) (tk : Takes X W) (xs : XsOk X.prog X.w X.K mg ct L.xs) (hcold : ∀ σ F, ct.inv σ F)
    (hb : ∀ (W : WX) (pn : List (Addr × Obj)) (xe : Value → Shared → Prop), Takes (X.tr pn xe) W → PassesOwn (model X.prog X.w) X.A X.env xe → PSs (X.tr pn xe) body (TS' (X.tr pn xe) ct W mb))
    (hl : cvs.length = cl.length) (hc : ∀ (i : Nat) k cv, cl[i]? = some k → cvs[i]? = some cv → mg k.c = some cv ∨ (mg k.c = none ∧ bootBuiltins k.c = some cv))
    (hn : ∀ k ∈ cl, ∀ i, k.io = some i → i < X.N.length) (hh : HdsG X (h₀ :: hds) (lG X.K ct L cl cvs)) : PS X (.Try body (h₀ :: hds) [] [] pos) (TS' X ct W (mTry mb fun x => selAll { L with xh := some x } cl)) := by
  refine PS.mono (ps_tryG (tb := fun W => TS' X ct W mb) hs hf hN tk hb hh) fun D σ H ⟨F, μ, env, st, r, re, q⟩ => ⟨F, μ, env, st, r, re, ?_⟩
  unfold mTry at q
  cases em : mb env st with
  | nx env2 st2 => rw [em] at q; exact q
  | ct env2 st2 => rw [em] at q; exact q
  | rt w st2 => rw [em] at q; exact q
  | stuck => rw [em] at q; exact q
  | err x env2 st2 =>
    rw [em] at q
    simp only at q
    split at q
    · rename_i hfr
      exact fun F' μ' H' σ' cls d x' r' re' rx => wG_of xs hcold hl hc hn r' re' (rx.free hfr) (SPost.at x' q)
    · exact q.elim

end
end G

set_option Elab.async false
set_option linter.all false
set_option maxRecDepth 100000
set_option maxHeartbeats 8000000
namespace G
open PySem PySem.Spec PyProof.Rows L2

/-! ### does it stand for this text: statements -/
structure SChk where
  s : Sc → Stmt → Bool
  b : Sc → List Stmt → Bool
  h : Sc → List ExceptHandler → Bool
def noComp : Expr → Bool
  | .ListComp .. => false | .SetComp .. => false | .DictComp .. => false | _ => true
def noTup : Expr → Bool
  | .Tuple .. => false | .List .. => false | _ => true
def ckS (f : Sc → Stmt → Bool) : SChk := ⟨f, fun _ _ => false, fun _ _ => false⟩
/-- a comprehension that is written to a name at once -/
def ckLc (b : Bool) : T → Chk × Chk × Chk × Tg × List Nat × Bool
  | .lc _ vs tg it cd el => (chk it, chk cd, chk el, tg, vs, true)
  | .lcX _ vs tg it cd el => (chk it, chk cd, chk el, tg, vs, b)
  | _ => (chk .nil, chk .nil, chk .nil, .inl 0, [], false)
def ckSetLc (i : Nat) (e : T) (c : Sc) (s : Stmt) : Bool := match s with
  | .Assign [.Name x xp] (.ListComp elt [⟨t, it, ifs, 0⟩] scope cpos) _ =>
    cold c && (ckLc c.top e).2.2.2.2.2 && blkC c.N c.sc scope (ownOf c (ckLc c.top e).2.2.2.2.1) && (tgIx (ckLc c.top e).2.2.2.1).all (fun j => decide (j ∈ (ckLc c.top e).2.2.2.2.1)) && (ckLc c.top e).1.i c t it && plainE it && tgOk (blkSc c scope) (ckLc c.top e).2.2.2.1 t
      && (ckLc c.top e).2.1.c (blkSc c scope) ifs && (ckLc c.top e).2.2.1.e (blkSc c scope) elt
      && decide (c.N[i]? = some x) && decide (c.sc.names.lookup x = some .local) && (xp.line == cpos.line) && (match c.sc.kind with | .function => true | _ => false) && !(scope.names.any fun (n, k) => n == x && (k == .local || k == .cell))
  | _ => false
/-- the name of a clause -/
def onOk (c : Sc) (io : Option Nat) (on : Option Str) : Bool := match io, on with
  | none, none => true
  | some i, some n => decide (c.N[i]? = some n) && decide (c.sc.names.lookup n = some .local)
  | _, _ => false
def chkS : S → SChk
  | .nil => ⟨fun _ _ => false, fun _ l => (match l with | [] => true | _ => false), fun _ _ => false⟩
  | .seq a b => ⟨fun _ _ => false, fun c l => (match l with | s :: r => (chkS a).s c s && (chkS b).b c r | [] => false), fun _ _ => false⟩
  | .set (.inl i) e => ckS fun c s => (match s with
      | .Assign [.Name y p] x _ => tgOk c (.inl i) (.Name y p) && (noComp x || decide (c.sc.names.lookup y = some .cell)) && (chk e).e c x
      | _ => false) || ckSetLc i e c s
  | .set (.inr is) e => ckS fun c s => match s with
      | .Assign [t] x _ => tgOk c (.inr is) t && noComp x && noTup x && (chk e).e c x
      | _ => false
  | .setIx o i e => ckS fun c s => match s with
      | .Assign [.Subscript x y _] z _ => plainE y && noComp z && (chk o).e c x && (chk i).e c y && (chk e).e c z
      | _ => false
  | .aug i sub e => ckS fun c s => match s with
      | .AugAssign (.Name x _) op z _ => cold c && decide (op = if sub then .Sub else .Add) && decide (c.N[i]? = some x) && ownN c x && (chk e).e c z
      | _ => false
  | .expr e => ckS fun c s => match s with
      | .Expr z _ => noComp z && (chk e).e c z
      | _ => false
  | .ret e => ckS fun c s => match s with
      | .Return (some z) _ => (chk e).e c z
      | _ => false
  | .retN => ckS fun c s => match s with
      | .Return none _ => true
      | _ => false
  | .sif e a b => ckS fun c s => match s with
      | .If z p q _ => (chk e).t c z && (chkS a).b c p && (chkS b).b c q
      | _ => false
  | .swh e b => ckS fun c s => match s with
      | .While z p [] _ => (chk e).t c z && (chkS b).b c p
      | _ => false
  | .sfor tg it b => ckS fun c s => match s with
      | .For t i p [] _ => cold c && tgOk c tg t && plainE i && (chk it).i c t i && (chkS b).b c p
      | _ => false
  | .cont => ckS fun _ s => match s with
      | .Continue _ => true
      | _ => false
  | .stk => ckS fun _ _ => true
  | .pass => ckS fun _ s => match s with
      | .Pass _ => true
      | .Expr (.Constant (.str _) _ _) _ => true
      | _ => false
  | .tryE a h => ckS fun c s => match s with
      | .Try p (h₀ :: hds) [] [] _ => cold c && c.top && (chkS a).b c p && (chkS h).h c (h₀ :: hds)
      | _ => false
  | .hnd k io a r => ⟨fun _ _ => false, fun _ _ => false, fun c l => match l with
      | .ExceptHandler (some (.Name x _)) on (s₀ :: su) _ :: rest => decide (x = k) && isGl c x && okName x && !(x == ("__name__" : Str)) && decide (x ∈ c.xn) && onOk c io on && (chkS a).b { c with hot := some io } (s₀ :: su) && (chkS r).h c rest
      | _ => false⟩
  | .hend => ⟨fun _ _ => false, fun _ _ => false, fun _ l => match l with | [] => true | _ => false⟩
  | .rais k _ => ckS fun c s => match s with
      | .Raise (some (.Call (.Name x _) [.Constant (.str _) _ _] [] _)) none _ => cold c && decide (x = k) && isGl c x && okName x
      | _ => false
  | .raisP k e => ckS fun c s => match s with
      | .Raise (some (.Call (.Name x _) [y] [] _)) none _ => cold c && decide (x = k) && isGl c x && okName x && (chk e).e c y
      | _ => false
  | .raisI k l => ckS fun c s => match s with
      | .Raise (some (.Call (.Name x _) (y :: ys) [] _)) none _ => cold c && decide (x = k) && isGl c x && okName x && (chk l).l c (y :: ys)
      | _ => false
  | .setF o f e => ckS fun c s => match s with
      | .Assign [.Attribute x n _] z _ => decide (n = f) && (chk o).e c x && (chk e).e c z
      | _ => false
  | .augF o f sub e => ckS fun c s => match s with
      | .AugAssign (.Attribute x n _) op z _ => decide (n = f) && decide (op = if sub then .Sub else .Add) && (chk o).e c x && (chk e).e c z
      | _ => false

section
variable {ct : Ct} {L : Lm} {k : Nat} {c : Sc} {X : Cx} {W : WX}
theorem nocomp_sw {e : Expr} (h : noComp e = true) (t : Option Expr) (l : Nat) (env : Env) : swapsWith e t l env = pure false := by
  cases e <;> first | rfl | (simp [noComp] at h)
theorem sole_sw {e t : Expr} (h : noComp e = true) (l : Nat) (env : Env) : swapsWithSole [t] e l env = pure false := nocomp_sw h _ _ _
theorem cell_sw {e : Expr} {y : Str} {p : Pos} {env : Env} (h : env.scope.names.lookup y = some .cell) (l : Nat) : swapsWithSole [.Name y p] e l env = pure false := by
  show swapsWith e (some (.Name y p)) l env = pure false
  have ky : env.kindOf y = some .cell := h
  have kl : (env.kindOf y == some .local) = false := by rw [ky]; rfl
  cases e <;> first | rfl | (unfold swapsWith; simp only [kl, Bool.and_false, Bool.false_and] <;> rfl)
theorem notup_st {e t : Expr} (h : noTup e = true) (env : Env) : swappedStores [t] e env = pure none := by
  unfold swappedStores
  cases e <;> first | (simp [noTup] at h; done) | (cases t <;> rfl)
theorem assignEach_one {t : Expr} (env : Env) {c : Sc} {tg : Tg} (h : tgOk c tg t = true) : (assignEach [t] env).map (·.2) = [assign t env] := by
  cases t <;> first | rfl | (cases tg <;> simp [tgOk] at h)
structure SimS (ct : Ct) (L : Lm) (k : Nat) (m : Lm → Ms) (ck : SChk) : Prop where
  s : ∀ (c : Sc) (X : Cx) (W : WX) (st : Stmt), Good ct L k c X → Takes X W → PassesOwn (model X.prog X.w) X.A X.env X.xe → ck.s c st = true → PS X st (TS' X ct W (m L))
  b : ∀ (c : Sc) (X : Cx) (W : WX) (sts : List Stmt), Good ct L k c X → Takes X W → PassesOwn (model X.prog X.w) X.A X.env X.xe → ck.b c sts = true → PSs X sts (TS' X ct W (m L))
  h : ∀ (c : Sc) (X : Cx) (hds : List ExceptHandler), Good ct L k c X → c.hot = none → ck.h c hds = true → ∃ (cl : List Cl) (cvs : List Value), (∀ L' : Lm, m L' = selAll L' cl) ∧ cvs.length = cl.length ∧
    (∀ (i : Nat) k cv, cl[i]? = some k → cvs[i]? = some cv → X.mg k.c = some cv ∨ (X.mg k.c = none ∧ bootBuiltins k.c = some cv)) ∧ (∀ k ∈ cl, ∀ i, k.io = some i → i < X.N.length) ∧ HdsG X hds (lG X.K ct L cl cvs)
theorem SimS.of {f : Sc → Stmt → Bool} {m : Lm → Ms} (h : ∀ (c : Sc) (X : Cx) (W : WX) (st : Stmt), Good ct L k c X → Takes X W → PassesOwn (model X.prog X.w) X.A X.env X.xe → f c st = true → PS X st (TS' X ct W (m L))) : SimS ct L k m (ckS f) := ⟨h, fun _ _ _ _ _ _ _ q => (by cases q), fun _ _ _ _ _ q => (by cases q)⟩
theorem Good.tr (G : Good ct L k c X) (hc : c.hot = none) (pn : List (Addr × Obj)) (xe : Value → Shared → Prop) : Good ct L k c (X.tr pn xe) :=
  ⟨G.N, G.sc, G.un, G.room, G.calm, G.cool, G.bear, fun io h => (by rw [hc] at h; cases h), G.xs, G.nd, G.gl, G.fn, G.bs, G.fnn, G.xn, G.top, G.gen, G.sg⟩
theorem Good.hot (G : Good ct L k c X) (io : Option Nat) {b : Addr} {oe : Obj} {cls : Value} {d : Option Addr} {pn : List (Addr × Obj)} {y : Exc} (hz : Zc cls d oe) (hf : ∃ vs, oe.data = .fields vs) :
    Good (hotCt X.K ct io b cls d y) { L with xh := some y } k { c with hot := some io } (X.suite b ((b, oe) :: pn)) := by
  refine ⟨G.N, G.sc, G.un, fun h => (by cases h), fun h => (by cases h), fun h => (by cases h), fun j hj σ v F h => ⟨fun i hi => ?_, h.2⟩, fun io' h => ?_, ⟨G.xs.cls, G.xs.sub, G.xs.fld, G.xs.ow, G.xs.ofl, G.xs.kd, G.xs.pl⟩, G.nd, G.gl, fun h => (by cases h), G.bs, G.fnn, G.xn, G.top, G.gen, G.sg⟩
  · subst hi
    have hj : (!(j == i)) = true := hj
    have ne : j ≠ i := by simpa using hj
    rw [List.getElem?_set_ne ne]
    exact h.1 i rfl
  · cases h
    exact ⟨X, b, oe, pn, cls, d, y, rfl, hz, hf, rfl, fun σ F h => ⟨h.1, h.2.tab (show ct.tab = (hotCt X.K ct io b cls d y).tab from rfl)⟩⟩
theorem Good.lv (G : Good ct L k c X) {i : Nat} {x : Str} (h1 : c.N[i]? = some x) (h2 : c.sc.names.lookup x = some .local) : X.N[i]? = some x ∧ X.env.scope.names.lookup x = some .local := by
  rw [← G.N] at h1
  rw [← G.sc] at h2
  exact ⟨h1, h2⟩
theorem simS_set {tg : Tg} {t e : Expr} {me : Mx Va} {pos : Pos} (he : PE X e (TE' X ct W me)) (hg : PG X t (gSet X.K tg)) (hs : swapsWithSole [t] e pos.line X.env = pure false) (hw : swappedStores [t] e X.env = pure none) (h1 : (assignEach [t] X.env).map (·.2) = [assign t X.env]) (hb : ∀ j ∈ tgIx tg, ct.Bears j) :
    PS X (.Assign [t] e pos) (TS' X ct W (mSet tg me)) := PS.mono (ps_asg he hg hs hw h1) fun D σ H h => tAsg_of hb (fun Q h => h) h
theorem name_st {x : Str} {p : Pos} {e : Expr} (env : Env) : swappedStores [.Name x p] e env = pure none := by
  unfold swappedStores
  cases e <;> rfl
theorem simS_setLc {i : Nat} {e : T} {s : Stmt} (G : Good ct L k c X) (tk : Takes X W) (q : ckSetLc i e c s = true) : PS X s (TS' X ct W (mSet (.inl i) (ev L e).e)) := by
  unfold ckSetLc at q
  split at q
  · rename_i x xp elt t it ifs scope cpos spos
    cases e with
    | lc m vs tg ti cd el =>
      simp only [ckLc, Bool.and_eq_true, List.all_eq_true, decide_eq_true_eq, Bool.not_eq_true'] at q
      obtain ⟨⟨⟨⟨⟨⟨⟨⟨⟨⟨⟨⟨⟨hcold, _⟩, h1⟩, h2⟩, h3⟩, h4⟩, h5⟩, h6⟩, h7⟩, h8⟩, h9⟩, h10⟩, h12⟩, h11⟩ := q
      have hc := cold_h hcold
      obtain ⟨g1, g2⟩ := G.lv h8 h9
      have ok : BlkOk X.N X.env.scope scope (ownOf c vs) := by
        rw [G.N, G.sc]
        exact blkOk_by h1
      have kind : X.env.scope.kind = .function := by
        rw [G.sc]
        revert h12
        cases c.sc.kind <;> simp
      refine PS.mono (ps_setLc (own := ownOf c vs) (g := gSet X.K tg) (tt := TT' X ct W0 (ev L cd).t) (te := TE' X ct W0 (ev L el).e) (G.calm hc) G.nd g1 g2 (sw_true kind g2 h10 h11) ((sim ti).i c X W _ _ G tk h3) ok (fun s H C cl fp => sim_tg (G.blk hc scope s H C cl fp) h5) (fun s H C cl fp => (sim cd).c _ _ W0 _ (G.blk hc scope s H C cl fp) takes0 h6)
          (fun s H C cl fp => ((sim el).e _ _ W0 _ (G.blk hc scope s H C cl fp) takes0 h7).2) (fun x => plain_fold h4 _ x)) fun D σ H h => tAsg_of (K := X.K) (ct := ct) (W := W) (tg := .inl i) (me := (ev L (.lc m vs tg ti cd el)).e) (G.bears hc _) (fun Q h => ?_) h
      rw [own_snd]
      exact tLc_of (fun _ h => h) (fun j hj => of_decide_eq_true (h2 j hj)) (G.bears hc _) h
    | lcX m vs tg ti cd el =>
      simp only [ckLc, Bool.and_eq_true, List.all_eq_true, decide_eq_true_eq, Bool.not_eq_true'] at q
      obtain ⟨⟨⟨⟨⟨⟨⟨⟨⟨⟨⟨⟨⟨hcold, htop⟩, h1⟩, h2⟩, h3⟩, h4⟩, h5⟩, h6⟩, h7⟩, h8⟩, h9⟩, h10⟩, h12⟩, h11⟩ := q
      have hc := cold_h hcold
      obtain ⟨hst, hfl⟩ := G.top htop
      obtain ⟨g1, g2⟩ := G.lv h8 h9
      have ok : BlkOk X.N X.env.scope scope (ownOf c vs) := by
        rw [G.N, G.sc]
        exact blkOk_by h1
      have kind : X.env.scope.kind = .function := by
        rw [G.sc]
        revert h12
        cases c.sc.kind <;> simp
      refine PS.mono (ps_setLcX (W := W) (own := ownOf c vs) (g := gSet X.K tg) (tt := fun σ => TT' X ct (fun c d _ H => W c d σ H) (ev L cd).t) (te := fun σ => TE' X ct (fun c d _ H => W c d σ H) (ev L el).e) hst hfl tk (G.calm hc) G.nd g1 g2 (sw_true kind g2 h10 h11) ((sim ti).i c X W _ _ G tk h3) ok (fun σ s H C cl fp => sim_tg (G.blkE hc scope s H C cl fp _) h5) (fun σ s H C cl fp => (sim cd).c _ _ _ _ (G.blkE hc scope s H C cl fp _) takes_blkE h6)
          (fun σ s H C cl fp => ((sim el).e _ _ _ _ (G.blkE hc scope s H C cl fp _) takes_blkE h7).2) (fun x => plain_fold h4 _ x)) fun D σ H h => tAsg_of (K := X.K) (ct := ct) (W := W) (tg := .inl i) (me := (ev L (.lcX m vs tg ti cd el)).e) (G.bears hc _) (fun Q h => ?_) h
      rw [own_snd]
      exact tLcX_of (fun _ h => h) (fun j hj => of_decide_eq_true (h2 j hj)) (G.bears hc _) h
    | _ => simp [ckLc] at q
  · cases q
theorem simS : ∀ (t : S) (ct : Ct) (L : Lm), SimS ct L k (fun L => ex L t) (chkS t)
  | .nil, ct, L => ⟨fun _ _ _ _ _ _ _ q => (by cases q), fun c X W sts G tk hp q => (by
      match sts, q with
      | [], _ => exact simS_nil), fun _ _ _ _ _ q => (by cases q)⟩
  | .seq a b, ct, L => ⟨fun _ _ _ _ _ _ _ q => (by cases q), fun c X W sts G tk hp q => (by
      match sts, q with
      | s :: r, q =>
        simp only [chkS, Bool.and_eq_true] at q
        exact simS_cons ((simS a ct L).s c X W s G tk hp q.1) ((simS b ct L).b c X W r G tk hp q.2)), fun _ _ _ _ _ q => (by cases q)⟩
  | .set (.inl i) e, ct, L => .of fun c X W st G tk hp q => by
      simp only [Bool.or_eq_true] at q
      rcases q with q | q
      · split at q
        · simp only [Bool.and_eq_true, Bool.or_eq_true, decide_eq_true_eq] at q
          exact simS_set ((sim e).e c X W _ G tk q.2).2 (sim_tg G q.1.1) (q.1.2.elim (fun z => sole_sw z _ _) fun z => cell_sw (by rw [G.sc]; exact z) _) (name_st _) (assignEach_one _ q.1.1) (tgOk_bears G q.1.1)
        · cases q
      · exact simS_setLc G tk q
  | .set (.inr is) e, ct, L => .of fun c X W st G tk hp q => by
      split at q
      · simp only [Bool.and_eq_true] at q
        exact simS_set ((sim e).e c X W _ G tk q.2).2 (sim_tg G q.1.1.1) (sole_sw q.1.1.2 _ _) (notup_st q.1.2 _) (assignEach_one _ q.1.1.1) (tgOk_bears G q.1.1.1)
      · cases q
  | .setIx o i e, ct, L => .of fun c X W st G tk hp q => by
      split at q
      · simp only [Bool.and_eq_true] at q
        exact simS_setIx q.1.1.1.1 G.un ((sim o).e c X W _ G tk q.1.1.2).2 ((sim i).e c X W _ G tk q.1.2).2 ((sim e).e c X W _ G tk q.2).2 (sole_sw q.1.1.1.2 _ _)
      · cases q
  | .aug i sub e, ct, L => .of fun c X W st G tk hp q => by
      split at q
      · simp only [Bool.and_eq_true, decide_eq_true_eq] at q
        obtain ⟨g1, g2, g3⟩ := G.one q.1.1.2 q.1.2
        exact simS_aug (G.bears (cold_h q.1.1.1.1) [i] i List.mem_cons_self) q.1.1.1.2 G.nd g1 g2 ((sim e).e c X W _ G tk q.2).2 g3
      · cases q
  | .expr e, ct, L => .of fun c X W st G tk hp q => by
      split at q
      · simp only [Bool.and_eq_true] at q
        exact simS_expr ((sim e).e c X W _ G tk q.2).2 (nocomp_sw q.1 _ _ _)
      · cases q
  | .ret e, ct, L => .of fun c X W st G tk hp q => by
      split at q
      · exact simS_ret ((sim e).e c X W _ G tk q).2
      · cases q
  | .retN, ct, L => .of fun c X W st G tk hp q => by
      split at q
      · exact simS_retN
      · cases q
  | .sif e a b, ct, L => .of fun c X W st G tk hp q => by
      split at q
      · simp only [Bool.and_eq_true] at q
        exact simS_if ((sim e).t c X W _ G tk q.1.1) ((simS a ct L).b c X W _ G tk hp q.1.2) ((simS b ct L).b c X W _ G tk hp q.2)
      · cases q
  | .swh e b, ct, L => .of fun c X W st G tk hp q => by
      split at q
      · simp only [Bool.and_eq_true] at q
        exact simS_while hp ((sim e).t c X W _ G tk q.1) ((simS b ct L).b c X W _ G tk hp q.2) _
      · cases q
  | .sfor tg it b, ct, L => .of fun c X W st G tk hp q => by
      split at q
      · simp only [Bool.and_eq_true] at q
        exact simS_for (tgOk_bears G q.1.1.1.2) hp (G.calm (cold_h q.1.1.1.1)) ((sim it).i c X W _ _ G tk q.1.2) (sim_tg G q.1.1.1.2) ((simS b ct L).b c X W _ G tk hp q.2) (fun x => plain_fold q.1.1.2 _ x)
      · cases q
  | .cont, ct, L => .of fun c X W st G tk hp q => by
      split at q
      · exact PS.mono ps_continue fun D σ H ⟨F, μ, env, st, r, re, p⟩ => p F μ H σ .refl r re
      · cases q
  | .stk, ct, L => .of fun c X W st G tk hp q => ⟨fun pins s σ H D I ⟨F, μ, env, st, r, re, p⟩ => p.elim⟩
  | .pass, ct, L => .of fun c X W st G tk hp q => by
      split at q
      · exact PS.mono ps_pass fun D σ H ⟨F, μ, env, st, r, re, p⟩ => p F μ H σ .refl r re
      · exact PS.mono ps_doc fun D σ H ⟨F, μ, env, st, r, re, p⟩ => p F μ H σ .refl r re
      · cases q
  | .tryE a h, ct, L => .of fun c X W st G tk hp q => by
      split at q
      · simp only [Bool.and_eq_true] at q
        obtain ⟨⟨⟨q1, q2⟩, q3⟩, q4⟩ := q
        have hc := cold_h q1
        obtain ⟨g1, g2⟩ := G.top q2
        obtain ⟨cl, cvs, e, h1, h2, h3, h4⟩ := (simS h ct L).h c X _ G hc q4
        have e2 : (fun x : Exc => ex { L with xh := some x } h) = fun x => selAll { L with xh := some x } cl := funext fun x => e _
        show PS X _ (TS' X ct W (mTry (ex L a) fun x => ex { L with xh := some x } h))
        rw [e2]
        exact simS_try g1 g2 G.nd tk G.xs (G.cool hc) (fun W pn xe tk' hp' => (simS a ct L).b c (X.tr pn xe) W _ (G.tr hc pn xe) tk' hp' q3) h1 h2 h3 h4
      · cases q
  | .hnd kk io a r, ct, L => ⟨fun _ _ _ _ _ _ _ q => (by cases q), fun _ _ _ _ _ _ _ q => (by cases q), fun c X hds G hc q => (by
      simp only [chkS] at q
      split at q
      · rename_i x np on s₀ su pos' rest
        simp only [Bool.and_eq_true, decide_eq_true_eq, Bool.not_eq_true'] at q
        obtain ⟨⟨⟨⟨⟨⟨⟨rfl, q2⟩, q3⟩, q4⟩, q5⟩, q6⟩, q7⟩, q8⟩ := q
        obtain ⟨cl, cvs, e, h1, h2, h3, h4⟩ := (simS r ct L).h c X rest G hc q8
        obtain ⟨cv, hcv⟩ := G.xn x q5
        have hn : x ≠ "__name__" := fun e => by rw [e] at q4; simp at q4
        have hgx : Gl X x := G.gl' (by simpa [isGl] using q2)
        have hon : (io = none ∧ on = none) ∨ ∃ i n, io = some i ∧ on = some n ∧ X.N[i]? = some n ∧ X.env.kindOf n = some .local := by
          unfold onOk at q6
          split at q6
          · exact .inl ⟨rfl, rfl⟩
          · rename_i i n
            simp only [Bool.and_eq_true, decide_eq_true_eq] at q6
            exact .inr ⟨i, n, rfl, rfl, by rw [G.N]; exact q6.1, by show X.env.scope.names.lookup n = _; rw [G.sc]; exact q6.2⟩
          · cases q6
        refine ⟨⟨x, io, fun L => ex L a⟩ :: cl, cv :: cvs, fun L' => ?_, by simp [h1], fun i k' cv' g1 g2 => ?_, fun k' hk i hi => ?_, ?_⟩
        · show mSel L' x (mHnd io (ex L' a)) (ex L' r) = mSel L' x (mHnd io (ex L' a)) (selAll L' cl)
          rw [← e L']
        · cases i with
          | zero => cases g1; cases g2; exact hcv
          | succ i => exact h2 i k' cv' g1 g2
        · rcases List.mem_cons.mp hk with rfl | hk
          · rcases hon with ⟨z, _⟩ | ⟨i', n, z, _, z2, _⟩
            · rw [show io = some i from hi] at z; cases z
            · rw [show io = some i from hi] at z; cases z
              exact (List.getElem?_eq_some_iff.mp z2).1
          · exact h3 k' hk i hi
        · refine HdsG.cons (c := cv) ⟨hgx, (okName_d q3).1, hcv.imp (fun h => h) fun h => ⟨h.1, h.2, hn⟩⟩ hon (fun b oe cls d pn hz hf => ?_) h4
          exact ⟨fun pins s σ H D I ⟨y, z⟩ => ((simS a (hotCt X.K ct io b cls d y) { L with xh := some y }).b { c with hot := some io } (X.suite b ((b, oe) :: pn)) W0 _ (G.hot io hz hf) takes_none5 PassesOwn.never q7).run pins s σ H D I z⟩
      · cases q)⟩
  | .hend, ct, L => ⟨fun _ _ _ _ _ _ _ q => (by cases q), fun _ _ _ _ _ _ _ q => (by cases q), fun c X hds G hc q => (by
      match hds, q with
      | [], _ => exact ⟨[], [], fun _ => rfl, rfl, fun i k cv h => (by simp at h), fun k h => (by cases h), .nil⟩)⟩
  | .rais kk s, ct, L => .of fun c X W st G tk hp q => by
      split at q
      · simp only [Bool.and_eq_true, decide_eq_true_eq] at q
        obtain ⟨⟨⟨q1, rfl⟩, q2⟩, q3⟩ := q
        exact simS_rais (G.calm (cold_h q1)) tk G.xs (G.gl' (by simpa [isGl] using q2)) (okName_d q3).1
      · cases q
  | .raisP kk e, ct, L => .of fun c X W st G tk hp q => by
      split at q
      · rename_i x _ y _ _
        simp only [Bool.and_eq_true, decide_eq_true_eq] at q
        obtain ⟨⟨⟨⟨q1, rfl⟩, q2⟩, q3⟩, q4⟩ := q
        obtain ⟨p1, g1⟩ := (sim e).e c X W y G tk q4
        exact simS_raisP (G.calm (cold_h q1)) tk G.xs (G.gl' (by simpa [isGl] using q2)) g1 (okName_d q3).1 (plain_star p1 _ _)
      · cases q
  | .raisI kk l, ct, L => .of fun c X W st G tk hp q => by
      split at q
      · rename_i x _ y ys _ _
        simp only [Bool.and_eq_true, decide_eq_true_eq] at q
        obtain ⟨⟨⟨⟨q1, rfl⟩, q2⟩, q3⟩, q4⟩ := q
        obtain ⟨p1, g1, _⟩ := (sim l).l c X W _ G tk q4
        exact simS_raisI (G.room (cold_h q1)) (G.calm (cold_h q1)) tk G.xs (G.gl' (by simpa [isGl] using q2)) g1 (okName_d q3).1 (plain_star (p1 y List.mem_cons_self) _ _) (back_any fun z hz => p1 z (List.mem_cons_of_mem _ hz))
      · cases q
  | .setF o f e, ct, L => .of fun c X W st G tk hp q => by
      split at q
      · simp only [Bool.and_eq_true, decide_eq_true_eq] at q
        obtain ⟨⟨rfl, h1⟩, h2⟩ := q
        exact simS_setF G.xs.ofl ((sim o).e c X W _ G tk h1).2 ((sim e).e c X W _ G tk h2).2
      · cases q
  | .augF o f sub e, ct, L => .of fun c X W st G tk hp q => by
      split at q
      · simp only [Bool.and_eq_true, decide_eq_true_eq] at q
        obtain ⟨⟨⟨rfl, h0⟩, h1⟩, h2⟩ := q
        exact simS_augF G.xs.ofl h0 ((sim o).e c X W _ G tk h1).2 ((sim e).e c X W _ G tk h2).2
      · cases q
end

/-! ### a def as a whole -/
/-- what comes back: by value, or fresh -/
def retV (w : Va) (st : Sto) : R Va := match w with
  | .ref p => match takeO p st with
    | some (.lst l) => .ok (.lst l) [none]
    | some (.dic k l) => .ok (.dic k l) [none]
    | _ => .stuck
  | _ => match freezeN 20 w st with
    | some (w', _) => .ok w' []
    | none => .stuck
/-- a body, run at arguments -/
def runB (n : Nat) (m : Ms) (ws : List Va) : R Va := match m (ws.map some ++ List.replicate (n - ws.length) none) [] with
  | .nx _ _ => .ok .non []
  | .rt w st => retV w st
  | .err x _ _ => if x.fs.all fun p => free p.2 then .err x [] else .stuck
  | _ => .stuck
structure Df where
  N : List Str
  np : Nat
  body : S
def runD (L : Lm) (d : Df) (ws : List Va) : R Va := if ws.length = d.np then runB d.N.length (ex L d.body) ws else .stuck
section
variable {P : Program} {w : World} {K : PySem.W.Frag} {mg : Str → Option Value} {base : Heap} {ct : Ct} {L : Lm} {k : Nat}
theorem Ext.drop {F F' : Hp} {μ' : List Addr} {H H' : Hp} (x : Ext F [] H F' μ' H') : Ext F [] H F' [] H' := ⟨x.fr, List.prefix_rfl, x.keep0, x.tab, x.new, fun a m => (nomatch m), x.there⟩
theorem ret_of {F F' : Hp} {μ' : List Addr} {H H' : Hp} {w0 : Va} {st' : Sto} {v : V} {Q : VK} {E : XK} (x : Ext F [] H F' μ' H') (r' : Rel K ct F' μ' st' H') (rv : RV K F' μ' w0 v)
    (h : match retV w0 st' with
      | .ok w s => match freshO w s with
        | some ob => ∀ F' H' a, Ext F [] H F' [] H' → Wk F' H' → H a = none → F' a = none → RO K ct F' [] H' a ob → Q (.ref a) H'
        | none => ∀ F' H' v, Ext F [] H F' [] H' → Wk F' H' → RV K F' [] w v → Q v H'
      | .err x _ => ∀ F' H' cls d, Ext F [] H F' [] H' → Wk F' H' → RX K ct F' [] x cls d → E cls d H'
      | .stuck => False) : Q v H' := by
  have val : (∀ p, w0 ≠ .ref p) → Q v H' := fun hn => by
    have e : retV w0 st' = match freezeN 20 w0 st' with | some (w', _) => .ok w' [] | none => .stuck := by
      cases w0 <;> first | rfl | exact absurd rfl (hn _)
    rw [e] at h
    cases ef : freezeN 20 w0 st' with
    | none => rw [ef] at h; exact h.elim
    | some p =>
      obtain ⟨w', st2⟩ := p
      rw [ef] at h
      obtain ⟨F2, x2, r2, q2, _, _⟩ := freezeN_ok 20 r' rv ef
      exact h F2 H' v (x.trans x2).drop r2.sub0 q2
  cases rv with
  | @ref p a hp =>
    have hH : H a = none := by
      rcases x.mnew a (List.mem_of_getElem? hp) with z | z
      · cases z
      · exact z
    unfold retV at h
    simp only at h
    cases e : takeO p st' with
    | none => rw [e] at h; exact h.elim
    | some ob =>
      rw [e] at h
      obtain ⟨F2, st2, x2, r2, hF2, o⟩ := takeO_ok r' hp e
      cases ob with
      | lst l => exact h F2 H' a (x.trans x2).drop r2.sub0 hH hF2 o
      | dic k l => exact h F2 H' a (x.trans x2).drop r2.sub0 hH hF2 o
      | ins c fs => exact h.elim
  | _ => exact val fun p => by intro z; cases z
/-- a def that changes its last argument: what is behind it comes and goes by value -/
def finM (w : Va) (st : Sto) : R Va := if free w then (match st[0]? with
  | some (some ob) => (match obV ob with
    | some v => .ok (.tup [w, v]) []
    | none => .stuck)
  | _ => .stuck) else .stuck
def runM (L : Lm) (d : Df) (ws : List Va) : R Va := if ws.length + 1000 = d.np then (match ws.getLast? with
  | some v => (match obOf v with
    | some ob => (match ex L d.body ((ws.dropLast ++ [Va.ref 0]).map some ++ List.replicate (d.N.length - ws.length) none) [some ob] with
      | .nx _ st => finM .non st
      | .rt w st => finM w st
      | _ => .stuck)
    | none => .stuck)
  | none => .stuck) else .stuck
/-- what holds of all defs alike -/
structure Env0 (P : Program) (w : World) (K : PySem.W.Frag) (mg : Str → Option Value) (ct : Ct) (L : Lm) (gls bs xns : List Str) (sgn : List (Str × Tx)) : Prop where
  gl : ∀ x ∈ gls, ∃ w v u, L.gl x = some w ∧ mg x = some u ∧ RelV v u ∧ ∀ F μ, RV K F μ w v
  bs : ∀ x ∈ bs, mg x = none
  xs : XsOk P w K mg ct L.xs
  xn : ∀ x ∈ xns, ∃ cv, mg x = some cv ∨ (mg x = none ∧ bootBuiltins x = some cv)
  cold : ∀ σ F, ct.inv σ F
  sg : ∀ p ∈ sgn, SignF K mg p.1 p.2
theorem startEvM (hc : ∀ σ F, ct.inv σ F) {N : List Str} {μ : List Addr} {ws : List Va} {vs : List V} {F : Hp} (r : RVs K F μ ws vs) : REnv K ct F μ (ws.map some ++ List.replicate (N.length - ws.length) none) (L2.start N vs) := by
  refine ⟨by simp [L2.start, r.length], fun i w e => ?_, hc _ _⟩
  have hl := r.length
  by_cases hi : i < ws.length
  · rw [List.getElem?_append_left (by simpa using hi), List.getElem?_map] at e
    cases ew : ws[i]? with
    | none => rw [ew] at e; cases e
    | some w' =>
      rw [ew] at e
      cases e
      obtain ⟨v, hv, rv⟩ := r.get ew
      refine ⟨v, ?_, rv⟩
      unfold L2.start
      rw [List.getElem?_append_left (by rw [List.length_map, ← hl]; exact hi), List.getElem?_map, hv]
      rfl
  · rw [List.getElem?_append_right (by simpa using Nat.le_of_not_lt hi)] at e
    rw [List.getElem?_replicate] at e
    split at e <;> cases e
theorem startEv (hc : ∀ σ F, ct.inv σ F) {N : List Str} {ws : List Va} {vs : List V} {F : Hp} (r : RVs K F [] ws vs) : REnv K ct F [] (ws.map some ++ List.replicate (N.length - ws.length) none) (L2.start N vs) := by
  refine ⟨by simp [L2.start, r.length], fun i w e => ?_, hc _ _⟩
  have hl := r.length
  by_cases hi : i < ws.length
  · rw [List.getElem?_append_left (by simpa using hi), List.getElem?_map] at e
    cases ew : ws[i]? with
    | none => rw [ew] at e; cases e
    | some w' =>
      rw [ew] at e
      cases e
      obtain ⟨v, hv, rv⟩ := r.get ew
      refine ⟨v, ?_, rv⟩
      unfold L2.start
      rw [List.getElem?_append_left (by rw [List.length_map, ← hl]; exact hi), List.getElem?_map, hv]
      rfl
  · rw [List.getElem?_append_right (by simpa using Nat.le_of_not_lt hi)] at e
    rw [List.getElem?_replicate] at e
    split at e <;> cases e
theorem def_ok {x qual : Str} {params : Arguments} {body : List Stmt} {scope : Scope} {dvs : List V} {kws : List (Str × V)} {f : Addr} {fd : FuncData} {ps : List Str} {d : Df} {gls bs xns : List Str} {fns : List (Str × List Str)} {gn : Bool} {sgn : List (Str × Tx)} (F : FunD K x qual params body scope dvs kws f fd) (S : FnScope d.N ps scope) (hnp : d.np = ps.length) (E0 : Env0 P w K mg ct L gls bs xns sgn) (tb : gn = true → ∃ cd Q, fd.code = .ref cd ∧ GxR.TabB base mg cd Q ∧ Q ∈ ct.tps)
    (fn : ∀ g ∈ fns, FnC P w K mg base ct k g.2 g.1 (L.fn g.1) (L.fi g.1)) (hck : (chkS d.body).b ⟨d.N, scope, gls, fns, bs, fun _ => true, xns, none, true, gn, sgn⟩ body = true) : FnOk P w K mg base (L2.CX P w) (k + 3) f fd ps (spP K ct (runD L d)) := by
  obtain ⟨oc, od, dV, kV, doc, pm, an, cdv, ctv, osl, rfl, lk, hcd, _, _⟩ := F.ex
  refine fn_of lk hcd S (fun vs H Q E ⟨F, ws, h1, ht, h2, h3⟩ => ?_) (fun A outer s H vs Q E hr ⟨F, ws, h1, ht, h2, h3⟩ => ?_)
  · rw [← h2.length, ← hnp]
    by_cases e : ws.length = d.np
    · exact e
    · unfold runD at h3
      rw [if_neg e] at h3
      exact h3.elim
  · have G : Good ct L k ⟨d.N, scope, gls, fns, bs, fun _ => true, xns, none, true, gn, sgn⟩ (cxOf (L2.CX P w) P w K mg base d.N qual scope f cdv A outer s H E) := ⟨rfl, rfl, hr.units, fun _ => hr, fun _ => rfl, fun _ => E0.cold, fun j _ σ v F _ => E0.cold _ _, fun io h => (by cases h), E0.xs, S.nd, E0.gl, fun _ => fn, E0.bs, rfl, E0.xn, fun _ => ⟨rfl, rfl⟩, tb, E0.sg⟩
    refine ⟨_, (simS d.body _ _).b _ _ (fun cls dd _ H => E cls dd H) _ G (takes_of rfl rfl rfl rfl) (passes_of rfl) hck, F, [], _, [], ?_, startEv E0.cold (N := d.N) h2, ?_⟩
    · exact ⟨h1, rfl, fun p o a e => (by simp at e), fun p o a e => (by simp at e), fun p q o o' a e => (by simp at e), fun a m => (nomatch m), ht⟩
    · unfold runD at h3
      by_cases he : ws.length = d.np
      · rw [if_pos he] at h3
        unfold runB at h3
        cases e : ex L d.body (ws.map some ++ List.replicate (d.N.length - ws.length) none) [] with
        | nx env' st' =>
          rw [e] at h3
          exact fun F' μ' H' σ' x r' re' => h3 F' H' .non x.drop r'.sub0 .non
        | ct env' st' => rw [e] at h3; exact h3.elim
        | rt w0 st' =>
          rw [e] at h3
          intro F' μ' H' v x r' rv'
          simp only at h3
          exact ret_of x r' rv' h3
        | err y env' st' =>
          rw [e] at h3
          intro F' μ' H' σ' cls dd x r' re' rx
          simp only at h3
          by_cases hfr : (y.fs.all fun p => free p.2) = true
          · rw [if_pos hfr] at h3
            exact h3 F' H' cls dd x.drop r'.sub0 ⟨rx.cls, fun n w hw => let ⟨d', fvs, v, a1, a2, a3, a4⟩ := rx.fs n w hw; ⟨d', fvs, v, a1, a2, a3, a4.free (List.all_eq_true.mp hfr _ (lookup_mem hw))⟩, rx.dd⟩
          · rw [if_neg hfr] at h3
            exact h3.elim
        | stuck => rw [e] at h3; exact h3.elim
      · rw [if_neg he] at h3
        exact h3.elim
/-- a def that sees the caller's store -/
def runI (L : Lm) (d : Df) (ws : List Va) (st : Sto) : R Va := if ws.length = d.np then (match ex L d.body (ws.map some ++ List.replicate (d.N.length - ws.length) none) st with
  | .nx _ st => .ok .non st
  | .rt w st => .ok w st
  | .err x _ st => .err x st
  | _ => .stuck) else .stuck
theorem def_okI {x qual : Str} {params : Arguments} {body : List Stmt} {scope : Scope} {dvs : List V} {kws : List (Str × V)} {f : Addr} {fd : FuncData} {ps : List Str} {d : Df} {gls bs xns : List Str} {fns : List (Str × List Str)} {gn : Bool} {sgn : List (Str × Tx)} (F : FunD K x qual params body scope dvs kws f fd) (S : FnScope d.N ps scope) (hnp : d.np = ps.length) (E0 : Env0 P w K mg ct L gls bs xns sgn) (tb : gn = true → ∃ cd Q, fd.code = .ref cd ∧ GxR.TabB base mg cd Q ∧ Q ∈ ct.tps)
    (fn : ∀ g ∈ fns, FnC P w K mg base ct k g.2 g.1 (L.fn g.1) (L.fi g.1)) (hck : (chkS d.body).b ⟨d.N, scope, gls, fns, bs, fun _ => true, xns, none, true, gn, sgn⟩ body = true) : FnOk P w K mg base (L2.CX P w) (k + 3) f fd ps (spI K ct (runI L d)) := by
  obtain ⟨oc, od, dV, kV, doc, pm, an, cdv, ctv, osl, rfl, lk, hcd, _, _⟩ := F.ex
  refine fn_of lk hcd S (fun vs H Q E ⟨F, μ, ws, st, h1, h2, h3⟩ => ?_) (fun A outer s H vs Q E hr ⟨F, μ, ws, st, h1, h2, h3⟩ => ?_)
  · rw [← h2.length, ← hnp]
    by_cases e : ws.length = d.np
    · exact e
    · unfold runI at h3
      rw [if_neg e] at h3
      exact h3.elim
  · have G : Good ct L k ⟨d.N, scope, gls, fns, bs, fun _ => true, xns, none, true, gn, sgn⟩ (cxOf (L2.CX P w) P w K mg base d.N qual scope f cdv A outer s H E) := ⟨rfl, rfl, hr.units, fun _ => hr, fun _ => rfl, fun _ => E0.cold, fun j _ σ v F _ => E0.cold _ _, fun io h => (by cases h), E0.xs, S.nd, E0.gl, fun _ => fn, E0.bs, rfl, E0.xn, fun _ => ⟨rfl, rfl⟩, tb, E0.sg⟩
    refine ⟨_, (simS d.body _ _).b _ _ (fun cls dd _ H => E cls dd H) _ G (takes_of rfl rfl rfl rfl) (passes_of rfl) hck, F, μ, _, st, h1, startEvM E0.cold (N := d.N) h2, ?_⟩
    unfold runI at h3
    by_cases he : ws.length = d.np
    · rw [if_pos he] at h3
      cases e : ex L d.body (ws.map some ++ List.replicate (d.N.length - ws.length) none) st with
      | nx env' st' =>
        rw [e] at h3
        exact fun F' μ' H' σ' x r' re' => h3 F' μ' H' .non x r' .non
      | ct env' st' => rw [e] at h3; exact h3.elim
      | rt w0 st' =>
        rw [e] at h3
        exact fun F' μ' H' v x r' rv' => h3 F' μ' H' v x r' rv'
      | err y env' st' =>
        rw [e] at h3
        exact fun F' μ' H' σ' cls dd x r' re' rx => h3 F' μ' H' cls dd x r' rx
      | stuck => rw [e] at h3; exact h3.elim
    · rw [if_neg he] at h3
      exact h3.elim
theorem obOf_of {ob : Ob} {v : Va} (h : obV ob = some v) : obOf v = some ob := by
  cases ob with
  | lst l => simp only [obV] at h; split at h <;> cases h; rfl
  | dic k l => simp only [obV] at h; split at h <;> cases h; rfl
  | ins c f => cases h
theorem dropM {F F' : Hp} {μ' : List Addr} {H H' : Hp} {a : Addr} (x : Ext F [a] H F' μ' H') : Ext F [a] H F' [a] H' := ⟨x.fr, List.prefix_rfl, x.keep0, x.tab, x.new, fun a m => .inl m, x.there⟩
theorem def_okM {x qual : Str} {params : Arguments} {body : List Stmt} {scope : Scope} {dvs : List V} {kws : List (Str × V)} {f : Addr} {fd : FuncData} {ps : List Str} {d : Df} {gls bs xns : List Str} {fns : List (Str × List Str)} {gn : Bool} {sgn : List (Str × Tx)} (F : FunD K x qual params body scope dvs kws f fd) (S : FnScope d.N ps scope) (hnp : d.np = 1000 + ps.length) (E0 : Env0 P w K mg ct L gls bs xns sgn) (tb : gn = true → ∃ cd Q, fd.code = .ref cd ∧ GxR.TabB base mg cd Q ∧ Q ∈ ct.tps)
    (fn : ∀ g ∈ fns, FnC P w K mg base ct k g.2 g.1 (L.fn g.1) (L.fi g.1)) (hck : (chkS d.body).b ⟨d.N, scope, gls, fns, bs, fun _ => true, xns, none, true, gn, sgn⟩ body = true) : FnOk P w K mg base (L2.CX P w) (k + 3) f fd ps (spM K ct (runM L d)) := by
  obtain ⟨oc, od, dV, kV, doc, pm, an, cdv, ctv, osl, rfl, lk, hcd, _, _⟩ := F.ex
  have hlen : ∀ {ws : List Va} {v w1 v' : Va} {s : Sto}, runM L d (ws ++ [v]) = .ok (.tup [w1, v']) s → (ws ++ [v]).length + 1000 = d.np := fun {ws v w1 v' s} e => by
    by_cases h : (ws ++ [v]).length + 1000 = d.np
    · exact h
    · unfold runM at e
      rw [if_neg h] at e
      cases e
  refine fn_of lk hcd S (fun vs H Q E ⟨F, ws, a, ob, v, h1, ht, hFa, hfr, h2, hro, hv, wv, v', s, ob', hφ, _⟩ => ?_) (fun A outer s H vs Q E hr ⟨F, ws, a, ob, v, h1, ht, hFa, hfr, h2, hro, hv, wv, v', s0, ob', hφ, hob, hfw, hfo, hQ⟩ => ?_)
  · have := hlen hφ
    rw [← h2.length]
    simp only [List.length_append, List.length_cons, List.length_nil] at this ⊢
    omega
  · have G : Good ct L k ⟨d.N, scope, gls, fns, bs, fun _ => true, xns, none, true, gn, sgn⟩ (cxOf (L2.CX P w) P w K mg base d.N qual scope f cdv A outer s H E) := ⟨rfl, rfl, hr.units, fun _ => hr, fun _ => rfl, fun _ => E0.cold, fun j _ σ v F _ => E0.cold _ _, fun io h => (by cases h), E0.xs, S.nd, E0.gl, fun _ => fn, E0.bs, rfl, E0.xn, fun _ => ⟨rfl, rfl⟩, tb, E0.sg⟩
    have hl := hlen hφ
    obtain ⟨u0, hu0, mu0⟩ := hro.there
    refine ⟨_, (simS d.body _ _).b _ _ (fun cls dd _ H => E cls dd H) _ G (takes_of rfl rfl rfl rfl) (passes_of rfl) hck, F, [a], _, [some ob], ?_, startEvM E0.cold (N := d.N) h2, ?_⟩
    · refine ⟨h1, rfl, fun p o b e1 e2 => ?_, fun p o b e1 e2 => ?_, fun p q o o' b e1 e2 e3 e4 => ?_, fun b m => ?_, ht⟩
      · cases p with
        | zero => cases e1; cases e2; exact hro
        | succ p => simp at e1
      · cases p with
        | zero => cases e2; exact hFa
        | succ p => simp at e1
      · cases p with
        | zero => cases q with
          | zero => rfl
          | succ q => simp at e2
        | succ p => simp at e1
      · rw [List.mem_singleton.mp m, hu0]
        exact fun z => nomatch z
    · have hφ2 := hφ
      unfold runM at hφ2
      rw [if_pos hl] at hφ2
      simp only [List.getLast?_concat, List.dropLast_concat, obOf_of hv] at hφ2
      have henv : (ws ++ [Va.ref 0]).map some ++ List.replicate (d.N.length - (ws ++ [v]).length) none = (ws ++ [Va.ref 0]).map some ++ List.replicate (d.N.length - (ws ++ [Va.ref 0]).length) none := by simp
      rw [henv] at hφ2
      have fin : ∀ {w1 : Va} {st' : Sto}, finM w1 st' = .ok (.tup [wv, v']) s0 → w1 = wv ∧ st'[0]? = some (some ob') := fun {w1 st'} e => by
        unfold finM at e
        split at e
        · split at e
          · rename_i ob1 h0
            split at e
            · rename_i v1 hv1
              cases e
              have := obOf_of hv1
              rw [hob] at this
              cases this
              exact ⟨rfl, h0⟩
            · cases e
          · cases e
        · cases e
      have done : ∀ {st' : Sto} {F' : Hp} {μ' : List Addr} {H' : Hp} {u : V}, st'[0]? = some (some ob') → Ext F [a] H F' μ' H' → Rel K ct F' μ' st' H' → RV K F' [] wv u → Q u H' := fun {st' F' μ' H' u} h0 x r' rv => by
        have hm : μ'[0]? = some a := by
          obtain ⟨t, e⟩ := x.pre
          rw [← e]
          rfl
        exact hQ F' H' u (dropM x) r'.sub0 (r'.dis 0 ob' a h0 hm) (ro_free (r'.obj 0 ob' a h0 hm) hfo) rv
      cases e : ex L d.body ((ws ++ [Va.ref 0]).map some ++ List.replicate (d.N.length - (ws ++ [Va.ref 0]).length) none) [some ob] with
      | nx env' st' =>
        rw [e] at hφ2
        obtain ⟨e1, e2⟩ := fin hφ2
        exact fun F' μ' H' σ' x r' re' => done e2 x r' (by rw [← e1]; exact .non)
      | ct env' st' => rw [e] at hφ2; cases hφ2
      | rt w0 st' =>
        rw [e] at hφ2
        obtain ⟨e1, e2⟩ := fin hφ2
        intro F' μ' H' u x r' rv'
        exact done e2 x r' (by rw [← e1]; exact rv'.free (by rw [e1]; exact hfw))
      | err y env' st' => rw [e] at hφ2; cases hφ2
      | stuck => rw [e] at hφ2; cases hφ2
end
end G

set_option Elab.async false
set_option linter.all false
set_option maxRecDepth 100000
set_option maxHeartbeats 8000000
/-! what the top has left: own exceptions' __init__ -/
namespace G
open PySem PySem.Spec PyProof.Rows L2

/-- an own exception class with an __init__: its name, what it does, its parameters behind self, its qualified name, the statement of the text -/
structure Ie where
  c : Str
  ow : Ow
  ns : List Str
  qual : Str
  st : Stmt
/-- the class's def of that name -/
def clsDef (c : Stmt) (i : Nat) : Stmt := match c with
  | .ClassDef _ _ _ b .. => b.getD i (.Pass ⟨0, 0, 0, 0⟩)
  | s => s
abbrev IniW : Type := Option (Str × Arguments × FuncBody × Scope × Addr × List Str × Addr)
def iniAt (K : PySem.W.Frag) (c : Str) : Addr := He.ma K (He.ga K c) "__init__"
def fnY (K : PySem.W.Frag) (c : Str) : IniW := match K.lookup (iniAt K c) with
  | some ⟨_, _, .func fd, _⟩ => some (fd.qualname, fd.params, fd.body, fd.scope, fd.globals, fd.closure.map (·.1), fd.builtins)
  | _ => none
def Ie.val (e : Ie) : IniW := some (e.qual, defArgs e.st, .stmts (defBody e.st), defScope e.st, mainGlobals, ["__class__"], builtinsNs)
def fileB (K : PySem.W.Frag) (cda : Addr) (file : Str) : Bool := match K.lookup cda with
  | some ⟨_, _, .fields vs, _⟩ => (match vs[2]? with
    | some (Value.str f _) => file == f
    | _ => false)
  | _ => false
def cellB (K : PySem.W.Frag) (C : Addr) : List (Str × Addr) → Bool
  | [(n, cc)] => decide (n = "__class__") && (match K.lookup cc with
    | some ⟨_, _, .cell (some (.ref D)), _⟩ => decide (D = C)
    | _ => false)
  | _ => false
def oexB (K : PySem.W.Frag) (C : Addr) : Bool := (match K.lookup C with
  | some ⟨.type "type", _, .cls cd, sl⟩ => (match cd.mro, sl.toList with
    | .ref C' :: bm, [_, _, _, _, some (.builtin n), _] => C' == C && n == "ValueError.__new__" && !cd.hasDel && cd.hasDict && PySem.HandSPX.refsVE bm
    | _, _ => false)
  | _ => false) && (He.eqO (PySem.W.findIn K (.ref C) "__setattr__") (some (some (.builtin "object.__setattr__"))) && (decide (PySem.W.subIn K (.ref C) (.type "BaseException") = some true) && (decide (PySem.W.typeIn K (.ref C) = some (.type "type")) && PySem.W.keepIn K (.ref C))))
theorem oexB_ok {K : PySem.W.Frag} {C : Addr} (h : oexB K C = true) : OexC K C := by
  obtain ⟨h0, h⟩ := He.ba h
  obtain ⟨h1, h⟩ := He.ba h
  obtain ⟨h2, h⟩ := He.ba h
  obtain ⟨h3, h4⟩ := He.ba h
  refine ⟨?_, He.eqO_ok h1, of_decide_eq_true h2, of_decide_eq_true h3, h4⟩
  split at h0
  · rename_i dd cd sl ho
    split at h0
    · rename_i C' bm k0 k1 k2 k3 n k5 hm hs
      simp only [Bool.and_eq_true, beq_iff_eq, Bool.not_eq_true'] at h0
      obtain ⟨⟨⟨⟨rfl, rfl⟩, hdel⟩, hdi⟩, ht⟩ := h0
      obtain ⟨nm, bs, mro, ns, qn, hd, sn, sub, ab, col, del⟩ := cd
      dsimp only at hm hdel hdi
      subst hm hdel hdi
      have hsl : sl = #[k0, k1, k2, k3, some (.builtin "ValueError.__new__"), k5] := by
        obtain ⟨l⟩ := sl
        simp only at hs
        rw [hs]
      subst hsl
      exact ⟨nm, qn, ns, bs, bm, sn, sub, ab, col, dd, k0, k1, k2, k3, k5, ho, ht⟩
    · cases h0
  · cases h0
def codB (K : PySem.W.Frag) (qual file : Str) : Value → Bool
  | .ref cda => PySem.W.codeIn K (.ref cda) qual && fileB K cda file
  | _ => false
def nonB : Value → Bool
  | .none => true
  | _ => false
def funB (K : PySem.W.Frag) (C : Addr) (qual file : Str) : Option Obj → Bool
  | some ⟨_, _, .func fd, _⟩ => codB K qual file fd.code && (cellB K C fd.closure && nonB fd.defaults)
  | _ => false
theorem codB_ok {K : PySem.W.Frag} {qual file : Str} {v : Value} (h : codB K qual file v = true) : ∃ cda, v = .ref cda ∧ PySem.W.codeIn K (.ref cda) qual = true ∧ fileB K cda file = true := by
  cases v with
  | ref a => obtain ⟨h1, h2⟩ := He.ba h; exact ⟨a, rfl, h1, h2⟩
  | _ => cases h
theorem nonB_ok {v : Value} (h : nonB v = true) : v = .none := by
  cases v with
  | none => rfl
  | _ => cases h
def iniB (file : Str) (K : PySem.W.Frag) (e : Ie) : Bool := He.eqO (PySem.W.findIn K (.ref (He.ga K e.c)) "__init__") (some (some (.ref (iniAt K e.c)))) && (decide (PySem.W.typeIn K (.ref (iniAt K e.c)) = some (.type "function")) && (funB K (He.ga K e.c) e.qual file (K.lookup (iniAt K e.c)) && ((PySem.W.clsIn K (He.ga K e.c)).isSome && (decide (PySem.W.mroIn K (He.ga K e.c) (.ref (He.ga K e.c)) = some true) && (decide (PySem.W.subIn K (.ref (He.ga K e.c)) (.type "ValueError") = some true) &&
    (He.eqO (PySem.W.ks_superIn K (He.ga K e.c) (He.ga K e.c) "__init__") (some (some (.builtin "ValueError.__init__"))) && (He.eqO (PySem.W.nsIn K cStatics "thirdparty.any") (some none) && (oexB K (He.ga K e.c) && ((e.ow.fs.all fun f => He.eqO (PySem.W.findIn K (.ref (He.ga K e.c)) f.1) (some none)) && ((He.Fa.free "super").ok K && (He.Fa.glo e.c).ok K))))))))))
/-- what is checked of the text alone -/
structure IeOk (P : Program) (e : Ie) : Prop where
  sc : ScS ("self" :: e.ns) ("self" :: e.ns) (defScope e.st)
  bd : bodyB e.ns e.ow (defBody e.st) = true
  bi : ∀ (kV doc pm : Value) (an : Option Addr) (cdv ct : Value) (nm : Str) (cc : Addr) (us : List Value), us.length = (("self" : Str) :: e.ns).length → bindArgs (PySem.W.ksFn nm e.qual (defArgs e.st) (defBody e.st) (defScope e.st) .none kV doc pm an cdv ct cc) ⟨us, []⟩ = pure ((("self" : Str) :: e.ns).zip us)
  self : ∃ ar, ((defArgs e.st).posonlyargs ++ (defArgs e.st).args).head? = some ar ∧ ar.arg = ("self" : Str)
  st : e.ns.length = e.ow.n ∧ e.ow.fs ≠ [] ∧ e.ow.fs.length ≤ 900 ∧ (e.ns.all okN) = true ∧ e.ow.z = e.c.cps.toList
  top : (P.main.scope.names.lookup ("super" : Str)).isSome = false
def scsB (N : List Str) (sc : Scope) : Bool := (N.all fun x => decide (sc.names.lookup x = some .local)) && ((sc.names.all fun y => (!decide (y.2 = .free) || decide (y.1 = "__class__")) && !decide (y.2 = .cell)) && (decide (sc.names.lookup ("super" : Str) = some .globalImplicit) && decide (sc.names.lookup ("__class__" : Str) = some .free)))
theorem scs_by {N : List Str} {sc : Scope} (kind : sc.kind = .function) (co : sc.isCoroutine = false) (gen : sc.isGenerator = false) (nd : N.Nodup) (h : scsB N sc = true) : ScS N N sc := by
  obtain ⟨h1, h⟩ := He.ba h
  obtain ⟨h2, h⟩ := He.ba h
  obtain ⟨h3, h4⟩ := He.ba h
  have h2 := List.all_eq_true.mp h2
  have k : ∀ y ∈ sc.names, y.2 ≠ .cell := fun y hy e => by
    have := (He.ba (h2 y hy)).2
    rw [e] at this
    simp at this
  refine ⟨kind, co, gen, nd, by simp, fun x hx => of_decide_eq_true (List.all_eq_true.mp h1 x hx), fun x e => ?_, fun x e => k _ (PySem.mem_of_lookup e) rfl, k, of_decide_eq_true h3, of_decide_eq_true h4⟩
  have := (He.ba (h2 _ (PySem.mem_of_lookup e))).1
  simpa using this
section
variable {P : Program} {K : PySem.W.Frag} {h : Heap} {mg : Str → Option Value} {e : Ie}
theorem ini_ok (X : K.In h) (N : h.Ns mainGlobals mg) (S : IeOk P e) (hy : fnY K e.c = e.val) (hb : iniB P.main.file K e = true) : ∃ fd, IniOk P K mg (He.ga K e.c) e.ow (iniAt K e.c) fd e.ns := by
  obtain ⟨b1, hb⟩ := He.ba hb
  obtain ⟨b2, hb⟩ := He.ba hb
  obtain ⟨b3, hb⟩ := He.ba hb
  obtain ⟨b4, hb⟩ := He.ba hb
  obtain ⟨b5, hb⟩ := He.ba hb
  obtain ⟨b6, hb⟩ := He.ba hb
  obtain ⟨b7, hb⟩ := He.ba hb
  obtain ⟨b8, hb⟩ := He.ba hb
  obtain ⟨b9, hb⟩ := He.ba hb
  obtain ⟨b10, hb⟩ := He.ba hb
  obtain ⟨b11, _⟩ := He.ba hb
  obtain ⟨s1, s2, s3, s4, _⟩ := S.st
  unfold fnY Ie.val at hy
  cases q : K.lookup (iniAt K e.c) with
  | none => rw [q] at b3; cases b3
  | some o =>
    rw [q] at b3 hy
    obtain ⟨oc, od, dt, osl⟩ := o
    cases dt with
    | func fd =>
      obtain ⟨n1, n2, n3, n4, n5, n6, n7, n8, n9, n10, n11, n12, n13, n14, n15⟩ := fd
      have e2 : (some (n2, n3, n4, n5, n6, n7.map (·.1), n15) : IniW) = (some (e.qual, defArgs e.st, FuncBody.stmts (defBody e.st), defScope e.st, mainGlobals, ["__class__"], builtinsNs) : IniW) := hy
      simp only [Option.some.injEq, Prod.mk.injEq] at e2
      obtain ⟨h2, h3, h4, h5, h6, h7, h8⟩ := e2
      subst h2 h3 h4 h5 h6 h8
      obtain ⟨c1, c2⟩ := He.ba (show (codB K e.qual P.main.file n13 && (cellB K (He.ga K e.c) n7 && nonB n8)) = true from b3)
      obtain ⟨c3, c4⟩ := He.ba c2
      obtain ⟨cda, rfl, c5, c6⟩ := codB_ok c1
      obtain rfl := nonB_ok c4
      obtain ⟨cc, rfl, hcell⟩ : ∃ cc, n7 = [(("__class__" : Str), cc)] ∧ ∃ cl cld csl, K.lookup cc = some ⟨cl, cld, .cell (some (.ref (He.ga K e.c))), csl⟩ := by
        unfold cellB at c3
        split at c3
        · rename_i n cc
          obtain ⟨d1, d2⟩ := He.ba c3
          have d1 := of_decide_eq_true d1
          subst d1
          split at d2
          · rename_i cl cld D csl hl
            have d2 := of_decide_eq_true d2
            subst d2
            exact ⟨cc, rfl, _, _, _, hl⟩
          · cases d2
        · cases c3
      have hf : ∃ ccl cdd vs ccs file tf, K.lookup cda = some ⟨ccl, cdd, .fields vs, ccs⟩ ∧ vs[2]? = some (.str file tf) ∧ ((P.main.file : Str) == file) = true := by
        unfold fileB at c6
        split at c6
        · rename_i vs _ hl
          split at c6
          · rename_i f tf hv
            exact ⟨_, _, _, _, _, _, hl, hv, c6⟩
          · cases c6
        · cases c6
      refine ⟨_, ⟨cda, cc, e.qual, defArgs e.st, defBody e.st, defScope e.st, ⟨⟨oc, od, osl, q⟩, ⟨_, _, _, _, _, _, _, rfl⟩, c5, hf, hcell, Option.isSome_iff_exists.mp b4, of_decide_eq_true b5, of_decide_eq_true b6, He.eqO_ok b7, He.eqO_ok b8, S.top, oexB_ok b9, S.self⟩, S.sc, S.bd⟩, He.eqO_ok b1, of_decide_eq_true b2, .all fun us hl => S.bi _ _ _ _ _ _ _ _ us hl, He.free_ok X N b11, s1, s2, ⟨s3, fun f hf => He.eqO_ok (List.all_eq_true.mp b10 f hf)⟩, List.all_eq_true.mp s4⟩
    | _ => cases b3
end
/-! ### the Hook -/
def asY (g : Addr → Option Obj) (n : Nat) : List Addr := cStatics :: He.asD g n
def kY (g : Addr → Option Obj) (n : Nat) : PySem.W.Frag := He.frT g (asY g n)
abbrev AlY : Type := He.AlX × List IniW
structure SaysY (fa : List He.Fa) (fn : List He.DefD) (ts : List He.Tab) (tf : List He.Defn) (ex : PySem.W.Frag → Bool) (ies : List Ie) (w : World) (h : Heap) (K : PySem.W.Frag) : Prop where
  x : He.SaysX fa fn ts tf ex w h K
  y : ies.map (fun e => fnY K e.c) = ies.map Ie.val
def obsY (n : Nat) (fa : List He.Fa) (fn : List He.DefD) (ts : List He.Tab) (tf : List He.Defn) (ex : PySem.W.Frag → Bool) (ies : List Ie) (g : Addr → Option Obj) : AlY := ((He.obsT fa fn ts (kY g n), ex (kY g n) && He.tabsB g tf (kY g n)), ies.map fun e => fnY (kY g n) e.c)
def valY (fn : List He.DefD) (ts : List He.Tab) (ies : List Ie) (w : World) : AlY := ((He.valT fn ts w, true), ies.map Ie.val)
theorem saysY_of {n : Nat} {fa : List He.Fa} {fn : List He.DefD} {ts : List He.Tab} {tf : List He.Defn} {ex : PySem.W.Frag → Bool} {ies : List Ie} {w : World} {h : Heap} (e : obsY n fa fn ts tf ex ies h.get? = valY fn ts ies w) : SaysY fa fn ts tf ex ies w h (kY h.get? n) := by
  have e0 : (He.obsT fa fn ts (kY h.get? n), ex (kY h.get? n) && He.tabsB h.get? tf (kY h.get? n)) = (He.valT fn ts w, true) := congrArg (fun z : AlY => z.1) e
  have e1 : He.obsT fa fn ts (kY h.get? n) = He.valT fn ts w := congrArg (fun z : He.AlX => z.1) e0
  have e2 : (ex (kY h.get? n) && He.tabsB h.get? tf (kY h.get? n)) = true := congrArg (fun z : He.AlX => z.2) e0
  obtain ⟨h1, h2⟩ := He.ba e2
  have key : ∀ p ∈ tf, PySem.W.codeHdIn (kY h.get? n) (He.cT (kY h.get? n) p).1 (He.cT (kY h.get? n) p).2 = true ∧ ∃ o, h.get? (He.cT (kY h.get? n) p).2 = some o ∧ He.emptyTab o = true := fun p hp => by
    obtain ⟨h3, h4⟩ := He.ba (List.all_eq_true.mp h2 p hp)
    refine ⟨h3, ?_⟩
    cases q : h.get? (He.cT (kY h.get? n) p).2 with
    | none => rw [q] at h4; cases h4
    | some o => rw [q] at h4; exact ⟨o, rfl, h4⟩
  refine ⟨⟨e1, h1, fun p hp => (key p hp).1, fun p hp => ?_, fun p hp => ?_⟩, congrArg (fun z : AlY => z.2) e⟩
  · obtain ⟨_, o, q, z⟩ := key p hp
    exact He.frT_none q z
  · obtain ⟨_, o, q, z⟩ := key p hp
    rw [q, He.emptyTab_eq z]
def hookY (n : Nat) (fa : List He.Fa) (fn : List He.DefD) (ts : List He.Tab) (tf : List He.Defn) (ex : PySem.W.Frag → Bool) (ies : List Ie) : PySem.W.Hook where
  α := AlY
  obs := fun s => obsY n fa fn ts tf ex ies s.heap.get?
  val := fun w => valY fn ts ies w
  says := fun w h => ∃ K : PySem.W.Frag, K.In h ∧ SaysY fa fn ts tf ex ies w h K
  of := fun _ _ e => ⟨_, He.frT_in, saysY_of e⟩
  keeps := fun _ _ _ ⟨K, hK, c⟩ k => ⟨K, PySem.W.Frag.In.keeps hK k, ⟨⟨c.x.t, c.x.more, c.x.hd, c.x.out, fun p hp => k _ _ (c.x.empty p hp)⟩, c.y⟩⟩
theorem obsY_eq {n : Nat} {fa : List He.Fa} {fn : List He.DefD} {ts : List He.Tab} {tf : List He.Defn} {ex : PySem.W.Frag → Bool} {ies : List Ie} {g : Addr → Option Obj} {s : Shared} (h : ∀ a, g a = s.heap.get? a) : obsY n fa fn ts tf ex ies g = (hookY n fa fn ts tf ex ies).obs s := by
  have e : g = s.heap.get? := funext h
  rw [e] <;> rfl
end G

set_option Elab.async false
set_option linter.all false
set_option maxRecDepth 100000
set_option maxHeartbeats 8000000
namespace G
open PySem PySem.Spec PyProof.Rows L2

/-! ### a text of defs -/
abbrev Tab := List (Str × Df)
/-- the meaning of the defs, to a depth of calls -/
def den2 (gl : Str → Option Va) (xs : Xs) (tab : Tab) : Nat → (Str → Fn) × (Str → Fi)
  | 0 => (fun _ _ => .stuck, fun _ _ _ => .stuck)
  | n + 1 => (fun f => match tab.lookup f with
    | some d => if 1000 ≤ d.np then runM ⟨gl, (den2 gl xs tab n).1, xs, none, (den2 gl xs tab n).2⟩ d else runD ⟨gl, (den2 gl xs tab n).1, xs, none, (den2 gl xs tab n).2⟩ d
    | none => fun _ => .stuck, fun f => match tab.lookup f with
    | some d => runI ⟨gl, (den2 gl xs tab n).1, xs, none, (den2 gl xs tab n).2⟩ d
    | none => fun _ _ => .stuck)
def den (gl : Str → Option Va) (xs : Xs) (tab : Tab) (n : Nat) : Str → Fn := (den2 gl xs tab n).1
def denI (gl : Str → Option Va) (xs : Xs) (tab : Tab) (n : Nat) : Str → Fi := (den2 gl xs tab n).2
theorem den_succ {gl : Str → Option Va} {xs : Xs} {tab : Tab} {n : Nat} {f : Str} {d : Df} (h : tab.lookup f = some d) (hm : Nat.ble 1000 d.np = false) : den gl xs tab (n + 1) f = runD ⟨gl, den gl xs tab n, xs, none, denI gl xs tab n⟩ d := by
  show (match tab.lookup f with | some d => if 1000 ≤ d.np then runM ⟨gl, den gl xs tab n, xs, none, denI gl xs tab n⟩ d else runD ⟨gl, den gl xs tab n, xs, none, denI gl xs tab n⟩ d | none => fun _ => .stuck) = _
  rw [h]
  exact if_neg fun z => by rw [Nat.ble_eq_true_of_le z] at hm; cases hm
theorem den_succM {gl : Str → Option Va} {xs : Xs} {tab : Tab} {n : Nat} {f : Str} {d : Df} (h : tab.lookup f = some d) (hm : Nat.ble 1000 d.np = true) : den gl xs tab (n + 1) f = runM ⟨gl, den gl xs tab n, xs, none, denI gl xs tab n⟩ d := by
  show (match tab.lookup f with | some d => if 1000 ≤ d.np then runM ⟨gl, den gl xs tab n, xs, none, denI gl xs tab n⟩ d else runD ⟨gl, den gl xs tab n, xs, none, denI gl xs tab n⟩ d | none => fun _ => .stuck) = _
  rw [h]
  exact if_pos (Nat.le_of_ble_eq_true hm)
theorem denI_succ {gl : Str → Option Va} {xs : Xs} {tab : Tab} {n : Nat} {f : Str} {d : Df} (h : tab.lookup f = some d) : denI gl xs tab (n + 1) f = runI ⟨gl, den gl xs tab n, xs, none, denI gl xs tab n⟩ d := by
  show (match tab.lookup f with | some d => runI ⟨gl, den gl xs tab n, xs, none, denI gl xs tab n⟩ d | none => fun _ _ => .stuck) = _
  rw [h]
/-- how many parameters, marked -/
def npB (d : Df) (ps ks : List Str) : Bool := Nat.beq d.np (if isM ks = true then 1000 + ps.length else ps.length) && Nat.ble (ps.length + 1) 1000
section
variable {P : Program} {w : World} {K : PySem.W.Frag} {mg : Str → Option Value} {base : Heap} {ct : Ct} {gl : Str → Option Va} {xs : Xs} {tab : Tab}
structure DefOk (K : PySem.W.Frag) (mg : Str → Option Value) (ct : Ct) (tab : Tab) (gls : List Str) (fns : List (Str × List Str)) (bs xns : List Str) (sgn : List (Str × Tx)) (tbs : List (Addr × Addr)) (f : Str) (ks : List Str) : Prop where
  ex : ∃ (d : Df) (a : Addr) (fd : FuncData) (ps : List Str) (x qual : Str) (params : Arguments) (body : List Stmt) (scope : Scope) (dvs : List V) (kws : List (Str × V)) (gn : Bool), tab.lookup f = some d ∧ AtF K mg ct ks f a ∧ FunD K x qual params body scope dvs kws a fd ∧ FnScope d.N ps scope ∧ KB fd ps (ksOf ks) ∧ npB d ps ks = true ∧ (chkS d.body).b ⟨d.N, scope, gls, fns, bs, fun _ => true, xns, none, true, gn, sgn⟩ body = true ∧ (gn = true → ∃ p ∈ tbs, fd.code = .ref p.1)
theorem all_ok {gls bs xns : List Str} {fns : List (Str × List Str)} {sgn : List (Str × Tx)} {tbs : List (Addr × Addr)} (hsg : ∀ p ∈ sgn, SignF K mg p.1 p.2) (htb : ∀ p ∈ tbs, GxR.TabB base mg p.1 p.2) (htp : ∀ p ∈ tbs, p.2 ∈ ct.tps) (hxs : XsOk P w K mg ct xs) (hxn : ∀ x ∈ xns, ∃ cv, mg x = some cv ∨ (mg x = none ∧ bootBuiltins x = some cv)) (hcold : ∀ σ F, ct.inv σ F) (hgl : ∀ x ∈ gls, ∃ w v u, gl x = some w ∧ mg x = some u ∧ RelV v u ∧ ∀ F μ, RV K F μ w v) (hbs : ∀ x ∈ bs, mg x = none) (h : ∀ f ∈ fns, DefOk K mg ct tab gls fns bs xns sgn tbs f.1 f.2) : ∀ n, ∀ f ∈ fns, FnC P w K mg base ct (3 * n) f.2 f.1 (den gl xs tab n f.1) (denI gl xs tab n f.1)
  | 0, f, hf => by
    obtain ⟨d, a, fd, ps, _, _, _, _, _, _, _, gn, h1, h2, h3, h4, h5, h6, h7, h8⟩ := (h f hf).ex
    refine ⟨a, fd, ps, h2, h3.kp, h5, ?_⟩
    unfold spF
    by_cases hM : isM f.2 = true
    · rw [if_pos hM]
      exact ⟨fun vs H Q E ⟨_, _, _, _, _, _, _, _, _, _, _, _, _, _, _, _, z, _⟩ => (by cases z), fun A outer s H args us vs Q E hr e0 hb r ⟨_, _, _, _, _, _, _, _, _, _, _, _, _, _, _, _, z, _⟩ => (by cases z)⟩
    · rw [if_neg hM]
      by_cases hI : isI f.2 = true
      · rw [if_pos hI]
        exact ⟨fun vs H Q E ⟨_, _, _, _, _, _, z⟩ => z.elim, fun A outer s H args us vs Q E hr e0 hb r ⟨_, _, _, _, _, _, z⟩ => z.elim⟩
      rw [if_neg hI]
      exact ⟨fun vs H Q E ⟨_, _, _, _, _, z⟩ => z.elim, fun A outer s H args us vs Q E hr e0 hb r ⟨_, _, _, _, _, z⟩ => z.elim⟩
  | n + 1, f, hf => by
    obtain ⟨d, a, fd, ps, _, _, _, _, _, _, _, gn, h1, h2, h3, h4, h5, h6, h7, h8⟩ := (h f hf).ex
    refine ⟨a, fd, ps, h2, h3.kp, h5, ?_⟩
    unfold npB at h6
    rw [Bool.and_eq_true] at h6
    have hps := Nat.le_of_ble_eq_true h6.2
    have hnp := Nat.eq_of_beq_eq_true h6.1
    unfold spF
    by_cases hM : isM f.2 = true
    · rw [if_pos hM] at hnp ⊢
      rw [den_succM h1 (Nat.ble_eq_true_of_le (by omega))]
      exact def_okM h3 h4 hnp ⟨hgl, hbs, hxs, hxn, hcold, hsg⟩ (fun e => let ⟨p, hp, q⟩ := h8 e; ⟨p.1, p.2, q, htb p hp, htp p hp⟩) (all_ok hsg htb htp hxs hxn hcold hgl hbs h n) h7
    · rw [if_neg hM] at hnp ⊢
      have hb : Nat.ble 1000 d.np = false := by
        cases e : Nat.ble 1000 d.np with
        | false => rfl
        | true => have := Nat.le_of_ble_eq_true e; omega
      by_cases hI : isI f.2 = true
      · rw [if_pos hI, denI_succ h1]
        exact def_okI h3 h4 hnp ⟨hgl, hbs, hxs, hxn, hcold, hsg⟩ (fun e => let ⟨p, hp, q⟩ := h8 e; ⟨p.1, p.2, q, htb p hp, htp p hp⟩) (all_ok hsg htb htp hxs hxn hcold hgl hbs h n) h7
      rw [if_neg hI, den_succ h1 hb]
      exact def_ok h3 h4 hnp ⟨hgl, hbs, hxs, hxn, hcold, hsg⟩ (fun e => let ⟨p, hp, q⟩ := h8 e; ⟨p.1, p.2, q, htb p hp, htp p hp⟩) (all_ok hsg htb htp hxs hxn hcold hgl hbs h n) h7
theorem law_sp {φ : Fn} {H : Hp} {a : Addr} {ns : List Int} (h : φ [.scr (ns.map Va.int)] = .ok (.bl true) []) (hT : ∀ P ∈ ct.tps, H P = some (.tbl #[])) (hS : SqL K H a (ns.map V.int)) : spP K ct φ [.ref a] H (fun v _ => v = .bl true) fun _ _ _ => False := by
  have allInt : ∀ (F : Hp) (l : List Int), RVs K F [] (l.map Va.int) (l.map V.int) := fun F l => by
    induction l with
    | nil => exact .nil
    | cons x r ih => exact .cons (.int x) ih
  have off : ∀ b u, H b = some u → (∀ ps, u ≠ .tbl ps) → (if b ∈ ct.tps then none else H b) = some u := fun b u e nt => by
    rw [if_neg fun m => by
      rw [hT b m] at e
      exact nt _ (Option.some.inj e).symm]
    exact e
  refine ⟨fun b => if b ∈ ct.tps then none else H b, [.scr (ns.map Va.int)], fun b u e => ?_, fun P m => ⟨⟨#[], hT P m, trivial⟩, if_pos m⟩, .cons (.scr ?_ (allInt _ ns)) .nil, ?_⟩
  · have e : (if b ∈ ct.tps then none else H b) = some u := e
    split at e
    · cases e
    · exact .inl e
  · rcases hS with (e | ⟨o, e⟩) | e
    · exact .inl (.inl (off _ _ e fun _ => nofun))
    · exact .inl (.inr ⟨o, off _ _ e fun _ => nofun⟩)
    · exact .inr e
  · rw [h]
    intro F' H' v _ _ rv
    cases rv
    rfl
/-! ### what the top has left -/
/-- a def of the text: its name, its slots, its parameters, its body's words; the statement of the text -/
structure De where
  f : Str
  ps : List Str
  d : Df
  st : Stmt
  ks : List Str := []
def De.fk (e : De) : Str × List Str := (e.f, e.ks)
def De.nm (e : De) : Str := if isMt e.ks then mnm e.ks else e.f
def De.wh (e : De) : Str × Option Str := if isMt e.ks then (mcl e.ks, some (mnm e.ks)) else (e.f, none)
def De.dd (e : De) : He.DefD := ⟨e.wh, e.nm, e.f, defArgs e.st, defBody e.st, defScope e.st, [], []⟩
/-- what is asked of the top for a def -/
def De.fas (e : De) : List He.Fa := if isMt e.ks then [.glo (mcl e.ks), .cls (mcl e.ks), .meth (mcl e.ks) (mnm e.ks)] ++ (if mnm e.ks = "__init__" then [.mkr (mcl e.ks)] else []) else [.glo e.f]
def tabOf (es : List De) : Tab := es.map fun e => (e.f, e.d)
/-- constants of the module: whole numbers, texts, tuples of texts and numbers -/
inductive Gc where
  | int (i : Int) | str (x : Str) | tup (l : List He.Dv)
def dvV : He.Dv → Option Va
  | .non => some .non | .bl b => some (.bl b) | .int i => some (.int i) | .str x => some (.str x.cps.toList) | _ => none
def Gc.va : Gc → Option Va
  | .int i => some (.int i)
  | .str x => some (.str x.cps.toList)
  | .tup l => (l.mapM dvV).map Va.tup
def Gc.ok (K : PySem.W.Frag) (x : Str) : Gc → Bool
  | .int i => (He.Fa.int x i).ok K
  | .str z => (He.Fa.str x z).ok K
  | .tup l => (He.Fa.glo x).ok K && He.tupB K x l
def gcs (cs : List (Str × Gc)) (K : PySem.W.Frag) : Bool := cs.all fun c => c.2.ok K c.1 && c.2.va.isSome
def glOf (cs : List (Str × Gc)) (x : Str) : Option Va := (cs.lookup x).bind Gc.va
theorem lookup_of {α : Type} {x : Str} : ∀ {l : List (Str × α)}, x ∈ l.map (·.1) → ∃ g, l.lookup x = some g ∧ (x, g) ∈ l
  | [], h => by simp at h
  | (y, v) :: r, h => by
    by_cases e : x = y
    · subst e
      exact ⟨v, by simp [List.lookup_cons], List.mem_cons_self⟩
    · have h2 : x ∈ r.map (·.1) := by simpa [e] using h
      obtain ⟨g, h3, h4⟩ := lookup_of h2
      have e2 : (x == y) = false := by simpa using e
      exact ⟨g, by rw [List.lookup_cons, e2]; exact h3, List.mem_cons_of_mem _ h4⟩
theorem dvV_ok {v : He.Dv} {x : Va} (h : dvV v = some x) (F : Hp) (μ : List Addr) : RV K F μ x (v.v K) := by
  cases v with
  | str z =>
    cases h
    have e : (He.Dv.str z).v K = .str (mkS z.cps.toList) := by rw [mkS_tl]; rfl
    rw [e]
    exact .str _
  | non => cases h; exact .non
  | bl b => cases h; exact .bl b
  | int i => cases h; exact .int i
  | _ => cases h
theorem dvVs_ok {F : Hp} {μ : List Addr} : ∀ {l : List He.Dv} {ws : List Va}, l.mapM dvV = some ws → RVs K F μ ws (l.map (He.Dv.v K))
  | [], ws, h => by
    have : ws = [] := by simpa using h.symm
    subst this
    exact .nil
  | v :: l, ws, h => by
    rw [List.mapM_cons] at h
    cases e1 : dvV v with
    | none => rw [e1] at h; simp at h
    | some x =>
      cases e2 : l.mapM dvV with
      | none => rw [e1, e2] at h; simp at h
      | some xs =>
        rw [e1, e2] at h
        simp at h
        subst h
        exact .cons (dvV_ok e1 F μ) (dvVs_ok e2)
theorem gcs_ok {h : Heap} {cs : List (Str × Gc)} (X : K.In h) (N : h.Ns mainGlobals mg) (c : gcs cs K = true) : ∀ x ∈ cs.map (·.1), ∃ w v u, glOf cs x = some w ∧ mg x = some u ∧ RelV v u ∧ ∀ F μ, RV K F μ w v := fun x hx => by
  obtain ⟨g, h1, h2⟩ := lookup_of hx
  obtain ⟨c1, c2⟩ := He.ba (List.all_eq_true.mp c _ h2)
  obtain ⟨w, ew⟩ := Option.isSome_iff_exists.mp c2
  have e0 : glOf cs x = some w := by unfold glOf; rw [h1]; exact ew
  cases g with
  | int i =>
    obtain ⟨t, e⟩ := He.int_ok X N c1
    cases ew
    exact ⟨_, .int i, _, e0, e, ⟨t, rfl⟩, fun F μ => .int i⟩
  | str z =>
    obtain ⟨t, e⟩ := He.str_ok X N c1
    cases ew
    refine ⟨_, .str (mkS z.cps.toList), _, e0, e, ?_, fun F μ => .str _⟩
    rw [mkS_tl]
    exact ⟨t, rfl⟩
  | tup l =>
    obtain ⟨c3, c4⟩ := He.ba c1
    have e := He.glo_ok X N c3
    cases em : l.mapM dvV with
    | none => simp [Gc.va, em] at ew
    | some ws =>
      simp [Gc.va, em] at ew
      subst ew
      exact ⟨_, .ref (He.ga K x), _, e0, e, rfl, fun F μ => .tup (He.tupB_ok c4 F) (dvVs_ok em)⟩
/-- the exception classes of a text: own ones; who is one of whom; names that a class has not; those that are made with a text alone -/
structure Xt where
  cs : List Str := []
  subs : List (Str × Str × Bool) := []
  flds : List (Str × Str) := []
  pls : List Str := []
  inis : List Ie := []
  ocs : List Str := []
  ofls : List (Str × Str) := []
  kds : List (Str × List (Str × He.Dv)) := []
def Xt.tabC (t : Xt) (K : PySem.W.Frag) (z : Tx) : Option Addr := (t.cs.find? fun x => x.cps.toList == z).map (He.ga K)
def Xt.ownC (t : Xt) (K : PySem.W.Frag) (z : Tx) : Option Addr := (t.ocs.find? fun x => x.cps.toList == z).map (He.ga K)
def Xt.ctC (t : Xt) (K : PySem.W.Frag) (tps : List Addr) : Ct := ⟨t.tabC K, tps, t.ownC K, fun _ _ => True, fun _ _ _ _ h => h⟩
def kdV (l : List (Str × He.Dv)) : Option (List (Tx × Va)) := l.mapM fun q => (dvV q.2).map fun v => (q.1.cps.toList, v)
def Xt.xsC (t : Xt) : Xs := ⟨fun z c => (t.subs.find? fun p => p.1.cps.toList == z && p.2.1 == c).map fun p => p.2.2, fun c => if c ∈ t.pls then some c.cps.toList else none, fun z f => t.flds.any fun p => p.1.cps.toList == z && p.2 == f, fun c => (t.inis.find? fun e => e.c == c).map (·.ow), fun z f => t.ofls.any fun p => p.1.cps.toList == z && p.2 == f, fun k => (t.kds.find? fun p => p.1 == k).bind fun p => kdV p.2⟩
def Xt.xn (t : Xt) : List Str := t.subs.map fun p => p.2.1
def excB (K : PySem.W.Frag) (C : Addr) : Bool := He.eqO (PySem.W.findIn K (.ref C) "__getattribute__") (some (some (.builtin "BaseException.__getattribute__"))) && (He.eqO (PySem.W.findIn K (.ref C) "__getattr__") (some none) && (decide (PySem.W.subIn K (.ref C) (.type "BaseException") = some true) && (PySem.W.hasDictIn K C &&
  (He.eqO (PySem.W.findIn K (.ref C) "__class__") (some (some (.builtin "object.__class__"))) && (He.eqO (PySem.W.specialIn K (.builtin "object.__class__") "__get__") (some (some (.builtin "getset_descriptor.__get__"))) && (decide (PySem.W.takesIn K (.builtin "object.__class__") = some true) && decide (PySem.W.mroIn K C (.type "object") = some true)))))))
theorem excB_ok {K : PySem.W.Frag} {C : Addr} (h : excB K C = true) : ExcC K C := by
  obtain ⟨h1, h⟩ := He.ba h
  obtain ⟨h2, h⟩ := He.ba h
  obtain ⟨h3, h⟩ := He.ba h
  obtain ⟨h4, h⟩ := He.ba h
  obtain ⟨h5, h⟩ := He.ba h
  obtain ⟨h6, h⟩ := He.ba h
  obtain ⟨h7, h8⟩ := He.ba h
  exact ⟨He.eqO_ok h1, He.eqO_ok h2, of_decide_eq_true h3, h4, He.eqO_ok h5, He.eqO_ok h6, of_decide_eq_true h7, of_decide_eq_true h8⟩
def subB (K : PySem.W.Frag) (p : Str × Str × Bool) : Bool := ((He.Fa.glo p.2.1).ok K && (decide (PySem.W.exmOne K (.ref (He.ga K p.1)) (.ref (He.ga K p.2.1)) = some p.2.2) && decide (PySem.W.kitOne K (.ref (He.ga K p.1)) (.ref (He.ga K p.2.1)) = some p.2.2))) ||
  (match bootBuiltins p.2.1 with
  | some (.type n) => (He.Fa.free p.2.1).ok K && (decide (PySem.W.exmOne K (.ref (He.ga K p.1)) (.type n) = some p.2.2) && decide (PySem.W.kitOne K (.ref (He.ga K p.1)) (.type n) = some p.2.2))
  | _ => false)
def Xt.ok (t : Xt) (file : Str) (K : PySem.W.Frag) : Bool := (t.inis.all fun e => decide (e.c ∈ t.cs) && iniB file K e) && ((t.cs.all fun x => (He.Fa.glo x).ok K && excB K (He.ga K x)) && ((t.subs.all fun p => decide (p.1 ∈ t.cs) && subB K p) && ((t.flds.all fun p => decide (p.1 ∈ t.cs) && He.eqO (PySem.W.findIn K (.ref (He.ga K p.1)) p.2) (some none)) && t.pls.all fun x => decide (x ∈ t.cs) && (He.Fa.exc x).ok K)))
/-- own classes, written dicts -/
def Xt.okO (t : Xt) (K : PySem.W.Frag) : Bool := (t.ofls.all fun p => decide (p.1 ∈ t.ocs) && ((He.Fa.cls p.1).ok K && (He.Fa.noat p.1 p.2).ok K)) && t.kds.all fun p => (He.Fa.glo p.1).ok K && He.valsB K (He.ga K p.1) p.2
theorem cps_inj {x y : Str} (h : x.cps.toList = y.cps.toList) : x = y := by rw [← mkS_tl x, ← mkS_tl y, h]
theorem Xt.tabC_of {t : Xt} {K : PySem.W.Frag} {x : Str} (h : x ∈ t.cs) : t.tabC K x.cps.toList = some (He.ga K x) := by
  unfold Xt.tabC
  cases e : t.cs.find? fun y => y.cps.toList == x.cps.toList with
  | none =>
    have := List.find?_eq_none.mp e x h
    simp at this
  | some y =>
    have := List.find?_some e
    rw [cps_inj (eq_of_beq this)]
    rfl
theorem Xt.subs_ok {t : Xt} {K : PySem.W.Frag} {h : Heap} {mg : Str → Option Value} (X : K.In h) (N : h.Ns mainGlobals mg) {p : Str × Str × Bool} (c : subB K p = true) : (∃ D, mg p.2.1 = some (.ref D) ∧ PySem.W.exmOne K (.ref (He.ga K p.1)) (.ref D) = some p.2.2 ∧ PySem.W.kitOne K (.ref (He.ga K p.1)) (.ref D) = some p.2.2) ∨
    ∃ n, mg p.2.1 = none ∧ bootBuiltins p.2.1 = some (.type n) ∧ PySem.W.exmOne K (.ref (He.ga K p.1)) (.type n) = some p.2.2 ∧ PySem.W.kitOne K (.ref (He.ga K p.1)) (.type n) = some p.2.2 := by
  unfold subB at c
  rcases Bool.or_eq_true_iff.mp c with c | c
  · obtain ⟨c1, c⟩ := He.ba c
    obtain ⟨c2, c3⟩ := He.ba c
    exact .inl ⟨_, He.glo_ok X N c1, of_decide_eq_true c2, of_decide_eq_true c3⟩
  · split at c
    · rename_i n e
      obtain ⟨c1, c⟩ := He.ba c
      obtain ⟨c2, c3⟩ := He.ba c
      exact .inr ⟨n, He.free_ok X N c1, e, of_decide_eq_true c2, of_decide_eq_true c3⟩
    · cases c
theorem Xt.ownC_of {t : Xt} {K : PySem.W.Frag} {x : Str} (h : x ∈ t.ocs) : t.ownC K x.cps.toList = some (He.ga K x) := by
  unfold Xt.ownC
  cases e : t.ocs.find? fun y => y.cps.toList == x.cps.toList with
  | none =>
    have := List.find?_eq_none.mp e x h
    simp at this
  | some y =>
    have := List.find?_some e
    rw [cps_inj (eq_of_beq this)]
    rfl
theorem kdV_cons {q : Str × He.Dv} {r : List (Str × He.Dv)} {l : List (Tx × Va)} (h : kdV (q :: r) = some l) : ∃ v l', dvV q.2 = some v ∧ kdV r = some l' ∧ l = (q.1.cps.toList, v) :: l' := by
  unfold kdV at h ⊢
  rw [List.mapM_cons] at h
  cases e1 : dvV q.2 with
  | none => rw [e1] at h; simp at h
  | some x =>
    cases e2 : List.mapM (fun q : Str × He.Dv => (dvV q.2).map fun v => (q.1.cps.toList, v)) r with
    | none => rw [e1, e2] at h; simp at h
    | some xs =>
      rw [e1, e2] at h
      simp at h
      exact ⟨x, xs, rfl, rfl, h.symm⟩
theorem kdV_some {z : Tx} {wv : Va} : ∀ {r : List (Str × He.Dv)} {l : List (Tx × Va)}, kdV r = some l → l.lookup z = some wv → ∃ q ∈ r, q.1.cps.toList = z ∧ dvV q.2 = some wv
  | [], l, h, e => by
    have : l = [] := by simpa [kdV] using h.symm
    subst this
    cases e
  | q :: r, l, h, e => by
    obtain ⟨v, l', h1, h2, rfl⟩ := kdV_cons h
    rw [List.lookup_cons] at e
    by_cases c : z = q.1.cps.toList
    · have c2 : (z == q.1.cps.toList) = true := by simpa using c
      rw [c2] at e
      cases e
      exact ⟨q, List.mem_cons_self, c.symm, h1⟩
    · have c2 : (z == q.1.cps.toList) = false := by simpa using c
      rw [c2] at e
      obtain ⟨q', hq, g⟩ := kdV_some h2 e
      exact ⟨q', List.mem_cons_of_mem _ hq, g⟩
theorem kdV_in {q : Str × He.Dv} : ∀ {r : List (Str × He.Dv)} {l : List (Tx × Va)}, kdV r = some l → q ∈ r → ∃ wv, l.lookup q.1.cps.toList = some wv
  | [], l, h, e => by cases e
  | p :: r, l, h, e => by
    obtain ⟨v, l', h1, h2, rfl⟩ := kdV_cons h
    rw [List.lookup_cons]
    by_cases c : q.1.cps.toList = p.1.cps.toList
    · have c2 : (q.1.cps.toList == p.1.cps.toList) = true := by simpa using c
      rw [c2]
      exact ⟨v, rfl⟩
    · have c2 : (q.1.cps.toList == p.1.cps.toList) = false := by simpa using c
      rw [c2]
      rcases List.mem_cons.mp e with rfl | e
      · exact absurd rfl c
      · exact kdV_in h2 e
theorem keys_no {Pm : Params} {z : Str} : ∀ {l : List DictEntry} {ks : List Str}, l.map He.keyOf = He.keysIn Pm ks → z ∉ ks → l.find? (·.key.isStr z) = none ∧ l.any (·.refKey) = false
  | [], _, _, _ => ⟨rfl, rfl⟩
  | e :: r, [], h, _ => by cases h
  | e :: r, k :: ks, h, hz => by
    have h1 : He.keyOf e :: r.map He.keyOf = some (k, PyData.keyHash Pm k) :: He.keysIn Pm ks := h
    injection h1 with h2 h3
    obtain ⟨g1, g2⟩ := keys_no h3 fun m => hz (List.mem_cons_of_mem _ m)
    unfold He.keyOf at h2
    split at h2
    · rename_i x t q
      obtain ⟨h5, _⟩ := Prod.mk.inj (Option.some.inj h2)
      have hne : x ≠ z := fun c => hz (by rw [← c, h5]; exact List.mem_cons_self)
      have hs : e.key.isStr z = false := by
        rw [q]
        show (x == z) = false
        simpa using hne
      have hr : e.refKey = false := by unfold DictEntry.refKey; rw [q]
      rw [List.find?_cons_of_neg (by rw [hs]; exact Bool.false_ne_true), List.any_cons, hr, g2]
      exact ⟨g1, rfl⟩
    · cases h2
theorem dicW_no {K : PySem.W.Frag} {Pm : Params} {a : Addr} {ks : List Str} {z : Str} (h : He.dicW K a = some (He.keysIn Pm ks)) (hz : z ∉ ks) : PySem.W.nsIn K a z = some none := by
  unfold He.dicW at h
  unfold PySem.W.nsIn
  split at h
  · rename_i c es n sl q
    rw [q]
    split at h
    · obtain ⟨g1, g2⟩ := keys_no (Option.some.inj h) hz
      simp only [g1, g2]
      rfl
    · cases h
  · cases h
theorem Xt.fine {P : Program} {w : World} {tps : List Addr} {t : Xt} {K : PySem.W.Frag} {h : Heap} {mg : Str → Option Value} (X : K.In h) (N : h.Ns mainGlobals mg) (c : t.ok P.main.file K = true) (hI : ∀ e ∈ t.inis, IeOk P e) (hy : ∀ e ∈ t.inis, fnY K e.c = e.val) (cO : t.okO K = true) (hk : ∀ p ∈ t.kds, He.dicW K (He.ga K p.1) = some (He.keysIn w.params (p.2.map (·.1)))) : XsOk P w K mg (t.ctC K tps) t.xsC := by
  obtain ⟨c0, c⟩ := He.ba c
  have c0 := List.all_eq_true.mp c0
  obtain ⟨c1, c⟩ := He.ba c
  obtain ⟨c2, c⟩ := He.ba c
  obtain ⟨c3, c4⟩ := He.ba c
  have c1 := List.all_eq_true.mp c1
  have c2 := List.all_eq_true.mp c2
  have c3 := List.all_eq_true.mp c3
  have c4 := List.all_eq_true.mp c4
  obtain ⟨cO1, cO2⟩ := He.ba cO
  have cO1 := List.all_eq_true.mp cO1
  have cO2 := List.all_eq_true.mp cO2
  refine ⟨fun z C e => ?_, fun z k b e => ?_, fun z f e => ?_, fun k o e => ?_, fun z f e => ?_, fun k l e => ?_, fun k z e => ?_⟩
  · have e : (t.cs.find? fun x => x.cps.toList == z).map (He.ga K) = some C := e
    obtain ⟨x, e1, rfl⟩ := Option.map_eq_some_iff.mp e
    exact excB_ok (He.ba (c1 x (List.mem_of_find?_eq_some e1))).2
  · have e : (t.subs.find? fun p => p.1.cps.toList == z && p.2.1 == k).map (fun p => p.2.2) = some b := e
    obtain ⟨p, e1, rfl⟩ := Option.map_eq_some_iff.mp e
    obtain ⟨q1, q2⟩ := He.ba (c2 p (List.mem_of_find?_eq_some e1))
    have e4 := List.find?_some e1
    simp only [Bool.and_eq_true] at e4
    obtain ⟨e2, e3⟩ := e4
    have e2 := eq_of_beq e2
    have e3 := eq_of_beq e3
    subst e2 e3
    exact ⟨_, Xt.tabC_of (of_decide_eq_true q1), Xt.subs_ok (t := t) X N q2⟩
  · have e : (t.flds.any fun p => p.1.cps.toList == z && p.2 == f) = true := e
    obtain ⟨p, e1, e2⟩ := List.any_eq_true.mp e
    obtain ⟨q1, q2⟩ := He.ba (c3 p e1)
    obtain ⟨e2, e3⟩ := He.ba e2
    have e2 := eq_of_beq e2
    have e3 := eq_of_beq e3
    subst e2 e3
    exact ⟨_, Xt.tabC_of (of_decide_eq_true q1), He.eqO_ok q2⟩
  · have e : (t.inis.find? fun e => e.c == k).map (·.ow) = some o := e
    obtain ⟨ie, e1, rfl⟩ := Option.map_eq_some_iff.mp e
    have hm := List.mem_of_find?_eq_some e1
    have e2 := List.find?_some e1
    have e2 : ie.c = k := eq_of_beq e2
    subst e2
    obtain ⟨q1, q2⟩ := He.ba (c0 ie hm)
    have q1 := of_decide_eq_true q1
    obtain ⟨fd, ok⟩ := ini_ok X N (hI ie hm) (hy ie hm) q2
    refine ⟨_, _, fd, ie.ns, ?_, He.glo_ok X N (He.ba (c1 ie.c q1)).1, ok⟩
    rw [(hI ie hm).st.2.2.2.2]
    exact Xt.tabC_of q1
  · have e : (t.ofls.any fun p => p.1.cps.toList == z && p.2 == f) = true := e
    obtain ⟨p, e1, e2⟩ := List.any_eq_true.mp e
    obtain ⟨q1, q2⟩ := He.ba (cO1 p e1)
    obtain ⟨q2, q3⟩ := He.ba q2
    obtain ⟨e2, e3⟩ := He.ba e2
    have e2 := eq_of_beq e2
    have e3 := eq_of_beq e3
    subst e2 e3
    exact ⟨_, Xt.ownC_of (of_decide_eq_true q1), He.cls_ok q2, He.noat_ok q3⟩
  · have e : ((t.kds.find? fun p => p.1 == k).bind fun p => kdV p.2) = some l := e
    cases e1 : t.kds.find? fun p => p.1 == k with
    | none => rw [e1] at e; cases e
    | some p =>
      rw [e1] at e
      have e9 : kdV p.2 = some l := e
      have hp := List.mem_of_find?_eq_some e1
      have e2 : (p.1 == k) = true := by have := List.find?_some e1; exact this
      have e2 : p.1 = k := eq_of_beq e2
      subst e2
      obtain ⟨q1, q2⟩ := He.ba (cO2 p hp)
      obtain ⟨es, n, D⟩ := He.dicW_ok (hk p hp)
      refine ⟨_, es, n, He.glo_ok X N q1, D, fun z wv ez => ?_, fun z ez => ?_⟩
      · obtain ⟨q, hq, g1, g2⟩ := kdV_some e9 ez
        obtain ⟨u, g3, g4⟩ := He.valsB_ok q2 hq
        refine ⟨u, q.2.v K, ?_, g4, fun F μ => dvV_ok g2 F μ⟩
        rw [← g1, mkS_tl]
        exact g3
      · exact dicW_no (hk p hp) fun hz => by
          obtain ⟨q, hq, g1⟩ := List.mem_map.mp hz
          obtain ⟨wv, g2⟩ := kdV_in e9 hq
          have g3 : q.1.cps.toList = z := by rw [g1]; exact tl_mkS z
          rw [g3, ez] at g2
          cases g2
  · have e : (if k ∈ t.pls then some k.cps.toList else none) = some z := e
    split at e
    · rename_i hk
      cases e
      obtain ⟨q1, q2⟩ := He.ba (c4 k hk)
      have q1 : k ∈ t.cs := of_decide_eq_true q1
      obtain ⟨g1, g2, g3, g4⟩ := He.exc_ok q2
      exact ⟨_, Xt.tabC_of q1, He.glo_ok X N (He.ba (c1 k q1)).1, g1, g2, g3, g4⟩
    · cases e
theorem Xt.names {t : Xt} {K : PySem.W.Frag} {h : Heap} {mg : Str → Option Value} (X : K.In h) (N : h.Ns mainGlobals mg) {file : Str} (c : t.ok file K = true) : ∀ x ∈ t.xn, ∃ cv, mg x = some cv ∨ (mg x = none ∧ bootBuiltins x = some cv) := fun x hx => by
  obtain ⟨p, hp, rfl⟩ := List.mem_map.mp hx
  have q := (He.ba (List.all_eq_true.mp (He.ba (He.ba (He.ba c).2).2).1 p hp)).2
  rcases Xt.subs_ok (t := t) X N q with ⟨D, e, _⟩ | ⟨n, e1, e2, _⟩
  · exact ⟨_, .inl e⟩
  · exact ⟨_, .inr ⟨e1, e2⟩⟩
/-- what is checked over the heap -/
def xgs (file : Str) (t : Xt) (cs : List (Str × Gc)) (K : PySem.W.Frag) : Bool := gcs cs K && (t.ok file K && t.okO K)
/-- what is checked of each def -/
structure DeOk (tab : Tab) (gls : List Str) (fns : List (Str × List Str)) (bs xns : List Str) (gns : List Str) (sgn : List (Str × Tx)) (e : De) : Prop where
  lk : tab.lookup e.f = some e.d
  sc : FnScope e.d.N e.ps (defScope e.st)
  np : npB e.d e.ps e.ks = true
  bi : ∀ (kV doc pm : Value) (an : Option Addr) (cdv ct : Value) (us ws : List Value), us.length + (ksOf e.ks).length = e.ps.length → ws.length = (ksOf e.ks).length → bindArgs (PySem.W.fnOf e.nm e.f (defArgs e.st) (defBody e.st) (defScope e.st) .none kV doc pm an cdv ct) ⟨us, (ksOf e.ks).zip ws⟩ = pure (e.ps.zip (us ++ ws))
  ck : (chkS e.d.body).b ⟨e.d.N, defScope e.st, gls, fns, bs, fun _ => true, xns, none, true, decide (e.f ∈ gns), sgn⟩ (defBody e.st) = true
theorem bi0 {e : De} (hk : ksOf e.ks = []) (h : ∀ (kV doc pm : Value) (an : Option Addr) (cdv ct : Value) (us : List Value), us.length = e.ps.length → bindArgs (PySem.W.fnOf e.nm e.f (defArgs e.st) (defBody e.st) (defScope e.st) .none kV doc pm an cdv ct) ⟨us, []⟩ = pure (e.ps.zip us)) :
    ∀ (kV doc pm : Value) (an : Option Addr) (cdv ct : Value) (us ws : List Value), us.length + (ksOf e.ks).length = e.ps.length → ws.length = (ksOf e.ks).length → bindArgs (PySem.W.fnOf e.nm e.f (defArgs e.st) (defBody e.st) (defScope e.st) .none kV doc pm an cdv ct) ⟨us, (ksOf e.ks).zip ws⟩ = pure (e.ps.zip (us ++ ws)) := by
  intro kV doc pm an cdv ct us ws h1 h2
  rw [hk] at h1 h2 ⊢
  have : ws = [] := by simpa using h2
  subst this
  rw [List.append_nil]
  exact h _ _ _ _ _ _ us (by simpa using h1)
theorem kb_of {K : PySem.W.Frag} {x qual : Str} {params : Arguments} {body : List Stmt} {scope : Scope} {kws : List (Str × V)} {f : Addr} {fd : FuncData} {ps ks : List Str} (F : FunD K x qual params body scope [] kws f fd)
    (h : ∀ (kV doc pm : Value) (an : Option Addr) (cdv ct : Value) (us ws : List Value), us.length + ks.length = ps.length → ws.length = ks.length → bindArgs (PySem.W.fnOf x qual params body scope .none kV doc pm an cdv ct) ⟨us, ks.zip ws⟩ = pure (ps.zip (us ++ ws))) : KB fd ps ks := by
  obtain ⟨oc, od, dV, kV, doc, pm, an, cdv, ct, osl, rfl, lk, hcd, hD, hK⟩ := F.ex
  rcases hD with ⟨_, rfl⟩ | ⟨e, _⟩
  · exact h kV doc pm an cdv ct
  · exact absurd rfl e
def fasOf (es : List De) (law : De) (bs : List Str) : List He.Fa := .glo law.f :: es.flatMap De.fas ++ bs.map .free
def tsOf (xt : Xt) : List He.Tab := xt.kds.map fun p => (fun K => He.ga K p.1, p.2.map (·.1))
def ocB (xt : Xt) (es : List De) : Bool := es.all fun e => !isMt e.ks || decide (mcl e.ks ∈ xt.ocs)
def fnsOf (es : List De) (law : De) : List He.DefD := law.dd :: es.map De.dd
def tfOf (es : List De) (gns : List Str) : List He.Defn := (es.filter fun e => decide (e.f ∈ gns)).map De.wh
theorem law_end {es : List De} {law : De} {cs : List (Str × Gc)} {xt : Xt} {bs : List Str} {gns : List Str} {sgn : List (Str × Tx)} {n : Nat} {h : Heap} {f : Addr} {x : Str} (hc : SaysY (fasOf es law bs) (fnsOf es law) (tsOf xt) (tfOf es gns) (xgs P.main.file xt cs) xt.inis w h K) (hI : ∀ e ∈ xt.inis, IeOk P e) (KX : K.In h) (N : h.Ns mainGlobals mg) (hmg : mg law.f = some (.ref f)) (hx : law.ps = [x])
    (H : ∀ e ∈ es, DeOk (tabOf es) (cs.map (·.1)) (es.map De.fk) bs xt.xn gns sgn e) (hsc : FnScope law.d.N law.ps (defScope law.st)) (hnp : law.d.np = 1)
    (hbi : ∀ (kV doc pm : Value) (an : Option Addr) (cdv ct : Value) (us : List Value), us.length = law.ps.length → bindArgs (PySem.W.fnOf law.f law.f (defArgs law.st) (defBody law.st) (defScope law.st) .none kV doc pm an cdv ct) ⟨us, []⟩ = pure (law.ps.zip us))
    (hck : (chkS law.d.body).b ⟨law.d.N, defScope law.st, cs.map (·.1), es.map De.fk, bs, fun _ => true, xt.xn, none, true, false, sgn⟩ (defBody law.st) = true)
    (hsg : ∀ p ∈ sgn, ∃ e ∈ es, e.f = p.1 ∧ e.ks = [] ∧ ∃ y, e.ps = [y] ∧ ((∃ g, signB y g (defScope e.st) (defBody e.st) = true ∧ g ∈ cs.map (·.1) ∧ glOf cs g = some (.str p.2)) ∨ signB2 y p.2 (defScope e.st) (defBody e.st) = true))
    (hoc : ocB xt es = true) (hlk : law.ks = [])
    (hlaw : ∀ ns : List Int, ns.length ≤ 63 → runD ⟨glOf cs, den (glOf cs) xt.xsC (tabOf es) n, xt.xsC, none, denI (glOf cs) xt.xsC (tabOf es) n⟩ law.d [.scr (ns.map Va.int)] = .ok (.bl true) []) :
    ∃ (K : PySem.W.Frag) (fd : FuncData) (sp : Sp) (tbs : List (Addr × Addr)), K.In h ∧ (∀ (s : Shared) (u : Value), BindsTo s fd ⟨[u], []⟩ [(x, u)]) ∧
        (∀ p ∈ tbs, h.get? p.2 = some { cls := .none, data := .fields #[] } ∧ K.lookup p.2 = none ∧ PySem.W.CodeHd h p.1 p.2) ∧
        (∀ (H : Hp) (a : Addr) (ns : List Int), ns.length ≤ 63 → (∀ p ∈ tbs, H p.2 = some (.tbl #[])) → SqL K H a (ns.map V.int) → sp [.ref a] H (fun v _ => v = .bl true) fun _ _ _ => False) ∧
        ∀ base : Heap, K.In base → base.Ns mainGlobals mg → (∀ p ∈ tbs, LamX.TabB base mg p.1 p.2) → FnOk P w K mg base (L2.CX P w) (3 * n + 3) f fd [x] sp := by
  have cd := hc.x.t.d
  have hy : ∀ e ∈ xt.inis, fnY K e.c = e.val := fun e he => by
    obtain ⟨i, hi, e1⟩ := List.mem_iff_getElem.mp he
    have e2 : (xt.inis.map fun e => fnY K e.c)[i]? = (xt.inis.map Ie.val)[i]? := by rw [hc.y]
    rw [List.getElem?_map, List.getElem?_map, List.getElem?_eq_getElem hi, e1] at e2
    exact Option.some.inj e2
  obtain ⟨fd, F⟩ := He.SaysD.defs cd (d := law.dd) List.mem_cons_self
  have hlm : isMt law.ks = false := by rw [hlk]; rfl
  have F : FunD K law.nm law.f (defArgs law.st) (defBody law.st) (defScope law.st) [] [] (He.fAd K law.wh) fd := F
  rw [show law.wh = (law.f, none) by unfold De.wh; rw [hlm]; rfl] at F
  have e := hmg.symm.trans (He.glo_ok KX N (He.SaysD.facts cd (f := .glo law.f) List.mem_cons_self))
  cases e
  have b := FunD.bindsA (ps := law.ps) F hbi
  let tbs : List (Addr × Addr) := (tfOf es gns).map (He.cT K)
  let tps : List Addr := tbs.map (·.2)
  refine ⟨K, fd, spP K (xt.ctC K tps) (runD ⟨glOf cs, den (glOf cs) xt.xsC (tabOf es) n, xt.xsC, none, denI (glOf cs) xt.xsC (tabOf es) n⟩ law.d), tbs, KX, fun s v => ?_, fun p hp => ?_, fun H a ns hl hT hS => law_sp (hlaw ns hl) (fun P hP => ?_) hS, fun base _ _ hTB => ?_⟩
  · have z := b s [v] (by rw [hx]; rfl)
    rw [hx] at z
    exact z
  · obtain ⟨q, hq, rfl⟩ := List.mem_map.mp hp
    exact ⟨hc.x.empty q hq, hc.x.out q hq, PySem.W.codeHd_of_K KX (hc.x.hd q hq)⟩
  · obtain ⟨p, hp, rfl⟩ := List.mem_map.mp hP
    exact hT p hp
  · rw [← hx]
    have hbs : ∀ y ∈ bs, mg y = none := fun y hy => He.free_ok KX N (He.SaysD.facts cd (f := .free y) (by
      unfold fasOf
      exact List.mem_append_right _ (List.mem_map_of_mem hy)))
    obtain ⟨hm1, hm2⟩ := He.ba hc.x.more
    obtain ⟨hm2, hmO⟩ := He.ba hm2
    have hkd : ∀ p ∈ xt.kds, He.dicW K (He.ga K p.1) = some (He.keysIn w.params (p.2.map (·.1))) := fun p hp => by
      have e1 : (tsOf xt).map (fun t => He.dicW K (t.1 K)) = (tsOf xt).map (fun t => some (He.keysIn w.params t.2)) := congrArg (fun z : He.AlT => z.2) hc.x.t
      unfold tsOf at e1
      rw [List.map_map, List.map_map] at e1
      exact List.map_inj_left.mp e1 p hp
    have gets : ∀ d ∈ es, ∃ fd', FunD K d.dd.name d.dd.qual d.dd.params d.dd.body d.dd.scope (d.dd.dvs K) (d.dd.kws K) (He.fAd K d.wh) fd' := fun d hd => He.SaysD.defs cd (d := d.dd) (List.mem_cons_of_mem _ (List.mem_map_of_mem hd))
    have fac : ∀ d ∈ es, ∀ f ∈ d.fas, f.ok K = true := fun d hd f hf => He.SaysD.facts cd (by
      unfold fasOf
      exact List.mem_append_left _ (List.mem_cons_of_mem _ (List.mem_flatMap.mpr ⟨d, hd, hf⟩)))
    have whN : ∀ d : De, isMt d.ks = false → d.wh = (d.f, none) := fun d h => by unfold De.wh; rw [h]; rfl
    have glo : ∀ d ∈ es, isMt d.ks = false → mg d.f = some (.ref (He.ga K d.f)) := fun d hd hn => He.glo_ok KX N (fac d hd (.glo d.f) (by unfold De.fas; rw [hn]; exact List.mem_singleton.mpr rfl))
    have atf : ∀ d ∈ es, AtF K mg (xt.ctC K tps) d.ks d.f (He.fAd K d.wh) := fun d hd => by
      unfold AtF
      by_cases hm : isMt d.ks = true
      · rw [if_pos hm]
        have ew : d.wh = (mcl d.ks, some (mnm d.ks)) := by unfold De.wh; rw [hm]; rfl
        have hf := fac d hd
        unfold De.fas at hf
        rw [hm] at hf
        have hin : mcl d.ks ∈ xt.ocs := by
          have := List.all_eq_true.mp hoc d hd
          rw [hm] at this
          simpa using this
        rw [ew]
        refine ⟨He.ga K (mcl d.ks), Xt.ownC_of hin, He.cls_ok (hf (.cls (mcl d.ks)) (by simp)), He.meth_ok (hf (.meth (mcl d.ks) (mnm d.ks)) (by simp)), fun hi => ?_⟩
        rw [hi] at hf ⊢
        exact ⟨He.mkr_ok (hf (.mkr (mcl d.ks)) (by simp)), He.glo_ok KX N (hf (.glo (mcl d.ks)) (by simp))⟩
      · rw [if_neg hm]
        have hm : isMt d.ks = false := by simpa using hm
        rw [whN d hm]
        exact glo d hd hm
    have sg : ∀ p ∈ sgn, SignF K mg p.1 p.2 := fun p hp => by
      obtain ⟨d, hd, e1, e2, y, e3, e4⟩ := hsg p hp
      obtain ⟨fd', F'⟩ := gets d hd
      have D := H d hd
      have kb := kb_of F' D.bi
      have sc := D.sc
      rw [e3] at sc kb
      rw [e2] at kb
      have hn : isMt d.ks = false := by rw [e2]; rfl
      rw [whN d hn] at F'
      refine ⟨_, _, _, _, _, _, _, fd', _, y, by rw [← e1]; exact glo d hd hn, F', sc, kb, ?_⟩
      rcases e4 with ⟨g, e4, e5, e6⟩ | e4
      · obtain ⟨wg, vg, ug, g1, g2, g3, g4⟩ := gcs_ok KX N hm1 g e5
        rw [g1] at e6
        cases e6
        have g4 := g4 (fun _ => none) []
        cases g4
        obtain ⟨t, rfl⟩ := g3
        exact .inl ⟨g, t, e4, g2⟩
      · exact .inr e4
    refine def_ok (gn := false) F hsc (by rw [hnp, hx]; rfl) ⟨gcs_ok KX N hm1, hbs, Xt.fine KX N hm2 hI hy hmO hkd, Xt.names KX N hm2, fun _ _ => trivial, sg⟩ (fun e => (by cases e)) (all_ok (tab := tabOf es) (bs := bs) (tbs := tbs) sg (fun p hp => ⟨(hTB p hp).code, (hTB p hp).bm, (hTB p hp).gP⟩) (fun p hp => List.mem_map_of_mem hp) (Xt.fine KX N hm2 hI hy hmO hkd) (Xt.names KX N hm2) (fun _ _ => trivial) (gcs_ok KX N hm1) hbs (fun g hg => ?_) n) hck
    obtain ⟨d, hd, rfl⟩ := List.mem_map.mp hg
    obtain ⟨fd', F'⟩ := gets d hd
    have D := H d hd
    refine ⟨d.d, _, fd', d.ps, _, _, _, _, _, _, _, decide (d.f ∈ gns), D.lk, atf d hd, F', D.sc, kb_of F' D.bi, D.np, D.ck, fun hgn => ?_⟩
    have hgn := of_decide_eq_true hgn
    refine ⟨He.cT K d.wh, List.mem_map_of_mem (List.mem_map_of_mem (List.mem_filter.mpr ⟨hd, decide_eq_true hgn⟩)), ?_⟩
    obtain ⟨oc, od, dV, kV, doc, pm, an, cdv, ctv, osl, rfl, lk, hcd, _, _⟩ := F'.ex
    obtain ⟨c, rfl⟩ := He.codeIn_ref hcd
    exact congrArg Value.ref (He.codeOf_eq (p := d.wh) lk rfl).symm
end
theorem walk_g {l : PySem.W.OpenLaw} {n k : Nat} {q : Program} {loose : List Str} {XP : (Str → Option Value) → Heap → Prop} {YP : World → Heap → Prop} {d : DefRec} {CX : World → CXT} {x : Str}
    (hn : l.most = some n) (hn2 : n ≤ sizeLine) (hdf : d.params.defaults = []) (hr : Room k callerA)
    (F : ∀ (w : World) (mg : Str → Option Value) (fa : Addr) (h : Heap), YP w h → h.Ns mainGlobals mg → mg d.name = some (.ref fa) →
      ∃ (K : PySem.W.Frag) (fd : FuncData) (sp : Sp) (tbs : List (Addr × Addr)), K.In h ∧ (∀ (s : Shared) (u : Value), BindsTo s fd ⟨[u], []⟩ [(x, u)]) ∧
        (∀ p ∈ tbs, h.get? p.2 = some { cls := .none, data := .fields #[] } ∧ K.lookup p.2 = none ∧ PySem.W.CodeHd h p.1 p.2) ∧
        (∀ (H : Hp) (a : Addr) (ns : List Int), ns.length ≤ n → (∀ p ∈ tbs, H p.2 = some (.tbl #[])) → SqL K H a (ns.map V.int) → sp [.ref a] H (fun v _ => v = .bl true) fun _ _ _ => False) ∧
        ∀ base : Heap, K.In base → base.Ns mainGlobals mg → (∀ p ∈ tbs, LamX.TabB base mg p.1 p.2) → FnOk l.prog w K mg base (CX w) k fa fd [x] sp)
    (hCX : ∀ (w : World) (H : Hp) (s : Shared) (e : Value) (s' : Shared), CX w [] H s (fun _ _ _ => False) e s' → False) :
    PySem.W.WalkO q loose XP YP l.row.toRowW d [] (fun f vs => PySem.call f vs) := by
  refine Att.attach_call hn hdf fun w s₀ s₁ mg mb fa o pm cd doc a vs ns G Y ho hd hcd hmg hobj hints hlen hg => ?_
  obtain ⟨K, fd, sp, tbs, KX, hb, hT, hsp, hF⟩ := F w mg fa _ Y G.T.g hmg
  exact LamX.law_callTs KX G.T.g G.T.b G.T.builtins G.T.nolimit hg (fun p hp => (hT p hp).1) (fun p hp => (hT p hp).2.1) (fun p hp => (hT p hp).2.2) G.T.bmain hobj hints (Nat.le_trans hlen hn2) hr hF hb (fun H hH hS => hsp H a ns hlen hH hS) fun H e s' => hCX w H s₁ e s'
theorem noCX {P : Program} : ∀ (w : World) (H : Hp) (s : Shared) (e : Value) (s' : Shared), L2.CX P w [] H s (fun _ _ _ => False) e s' → False := fun _ _ _ _ _ h => by
  obtain ⟨_, _, _, _, _, _, _, _, _, _, _, _, z⟩ := h
  exact z.elim
end G

set_option Elab.async false
set_option linter.all false
set_option maxRecDepth 100000
set_option maxHeartbeats 4000000
namespace G
open PySem PySem.Spec PyProof.Rows L2

/-! ### reckoning with the machine: what a run ends with -/
structure Po where
  nx : Ev → Sto → Prop := fun _ _ => False
  ct : Ev → Sto → Prop := fun _ _ => False
  rt : Va → Sto → Prop := fun _ _ => False
  err : Exc → Ev → Sto → Prop := fun _ _ _ => False
def wp0 (Q : Po) : RS → Prop
  | .nx env st => Q.nx env st
  | .ct env st => Q.ct env st
  | .rt w st => Q.rt w st
  | .err x env st => Q.err x env st
  | .stuck => False
def Po.then0 (Q : Po) (b : Ms) : Po := { Q with nx := fun env st => wp0 Q (b env st) }
theorem wp0_seq {Q : Po} {a b : Ms} {env : Ev} {st : Sto} : wp0 Q (mSeq a b env st) = wp0 (Q.then0 b) (a env st) := by
  unfold mSeq
  cases a env st <;> rfl
theorem wp0_mono {Q Q' : Po} {r : RS} (h : wp0 Q r) (h1 : ∀ e s, Q.nx e s → Q'.nx e s) (h2 : ∀ e s, Q.ct e s → Q'.ct e s) (h3 : ∀ e s, Q.rt e s → Q'.rt e s) (h4 : ∀ x e s, Q.err x e s → Q'.err x e s) : wp0 Q' r := by
  cases r with
  | nx e s => exact h1 e s h
  | ct e s => exact h2 e s h
  | rt e s => exact h3 e s h
  | err x e s => exact h4 x e s h
  | stuck => exact h
/-- the loop over values -/
theorem wp0_for {tg : Tg} {gd : Gd} {b : Ms} {Q : Po} (I : Nat → Ev → Sto → Prop) {ws : List Va} {env : Ev} {st : Sto} (h0 : I 0 env st)
    (hs : ∀ i w env st (Qb : Po), ws[i]? = some w → I i env st → (∀ e s, I (i + 1) e s → Qb.nx e s) → (∀ e s, I (i + 1) e s → Qb.ct e s) → (∀ v s, Q.rt v s → Qb.rt v s) → (∀ x e s, Q.err x e s → Qb.err x e s) → gdB gd st = true ∧ ∃ env', tgV tg w env st = some env' ∧ wp0 Qb (b env' st))
    (he : ∀ env st, I ws.length env st → gdB gd st = true ∧ Q.nx env st) : wp0 Q (forRun tg gd b ws env st) := by
  have key : ∀ (n : Nat) (rest : List Va) (env : Ev) (st : Sto), (∀ j, rest[j]? = ws[n + j]?) → n + rest.length = ws.length → I n env st → wp0 Q (forRun tg gd b rest env st) := by
    intro n rest
    induction rest generalizing n with
    | nil =>
      intro env st _ hl hI
      have e : n = ws.length := by simpa using hl
      subst e
      obtain ⟨g, q⟩ := he env st hI
      unfold forRun
      rw [if_pos g]
      exact q
    | cons w rest ih =>
      intro env st hj hl hI
      obtain ⟨g, env', e1, q⟩ := hs n w env st { nx := I (n + 1), ct := I (n + 1), rt := Q.rt, err := Q.err } (by have := hj 0; simpa using this.symm) hI (fun _ _ h => h) (fun _ _ h => h) (fun _ _ h => h) (fun _ _ _ h => h)
      unfold forRun
      rw [if_pos g, e1]
      simp only
      have next : ∀ env2 st2, I (n + 1) env2 st2 → wp0 Q (forRun tg gd b rest env2 st2) := fun env2 st2 hI2 =>
        ih (n + 1) env2 st2 (fun j => by have := hj (j + 1); rw [show n + 1 + j = n + (j + 1) by omega, ← this]; rfl) (by simp at hl; omega) hI2
      cases eb : b env' st with
      | nx env2 st2 => rw [eb] at q; exact next _ _ q
      | ct env2 st2 => rw [eb] at q; exact next _ _ q
      | rt w st2 => rw [eb] at q; exact q
      | err x env2 st2 => rw [eb] at q; exact q
      | stuck => rw [eb] at q; exact q
  exact key 0 ws env st (fun j => by simp) (by simp) h0
@[irreducible] def wp (Q : Po) (r : RS) : Prop := wp0 Q r
theorem wp_eq : wp = wp0 := by
  funext Q r
  unfold wp
  rfl
section
variable {Q : Po} {env : Ev} {st : Sto}
theorem wp_nx : wp Q (.nx env st) = Q.nx env st := by rw [wp_eq]; rfl
theorem wp_ct : wp Q (.ct env st) = Q.ct env st := by rw [wp_eq]; rfl
theorem wp_rt {w : Va} : wp Q (.rt w st) = Q.rt w st := by rw [wp_eq]; rfl
theorem wp_err {x : Exc} : wp Q (.err x env st) = Q.err x env st := by rw [wp_eq]; rfl
theorem wp_stuck : wp Q .stuck = False := by rw [wp_eq]; rfl
def Po.then (Q : Po) (b : Ms) : Po := { Q with nx := fun env st => wp Q (b env st) }
theorem wp_seq {a b : Ms} : wp Q (mSeq a b env st) = wp (Q.then b) (a env st) := by
  have h := @wp0_seq Q a b env st
  rw [wp_eq, h]
  show wp0 (Q.then0 b) _ = wp0 (Q.then b) _
  have e : Q.then b = Q.then0 b := by unfold Po.then Po.then0; rw [wp_eq]
  rw [e]
theorem wp_mono {Q' : Po} {r : RS} (h : wp Q r) (h1 : ∀ e s, Q.nx e s → Q'.nx e s) (h2 : ∀ e s, Q.ct e s → Q'.ct e s) (h3 : ∀ e s, Q.rt e s → Q'.rt e s) (h4 : ∀ x e s, Q.err x e s → Q'.err x e s) : wp Q' r := by
  rw [wp_eq] at h ⊢
  exact wp0_mono h h1 h2 h3 h4
theorem wp_cut {b : Ms} {m : RS} (P : Ev → Sto → Prop) (h : ∀ R : Po, (∀ e s, P e s → R.nx e s) → (∀ e s, Q.ct e s → R.ct e s) → (∀ v s, Q.rt v s → R.rt v s) → (∀ x e s, Q.err x e s → R.err x e s) → wp R m) (h2 : ∀ e s, P e s → wp Q (b e s)) : wp (Q.then b) m :=
  wp_mono (h { Q with nx := P } (fun _ _ h => h) (fun _ _ h => h) (fun _ _ h => h) (fun _ _ _ h => h)) h2 (fun _ _ h => h) (fun _ _ h => h) (fun _ _ _ h => h)
theorem snoc_map {α β : Type} (f : α → β) (l : List α) (x : α) : (l ++ [x]).map f = l.map f ++ [f x] := by simp
theorem wp_for {tg : Tg} {gd : Gd} {b : Ms} (I : Nat → Ev → Sto → Prop) {ws : List Va} (h0 : I 0 env st)
    (hs : ∀ i w env st (Qb : Po), ws[i]? = some w → I i env st → (∀ e s, I (i + 1) e s → Qb.nx e s) → (∀ e s, I (i + 1) e s → Qb.ct e s) → (∀ v s, Q.rt v s → Qb.rt v s) → (∀ x e s, Q.err x e s → Qb.err x e s) → gdB gd st = true ∧ ∃ env', tgV tg w env st = some env' ∧ wp Qb (b env' st))
    (he : ∀ env st, I ws.length env st → gdB gd st = true ∧ Q.nx env st) : wp Q (forRun tg gd b ws env st) := by
  rw [wp_eq] at hs ⊢
  exact wp0_for I h0 hs he
end
/-- a list made by a block that keeps the store -/
theorem lc_map {tg : Tg} {mc : Mx Bool} {me : Mx Va} {gd : Gd} {env : Ev} {st : Sto} (p : Va → Bool) (f : Va → Va) (hg : gdB gd st = true) : ∀ {ws acc : List Va}, (∀ w ∈ ws, ∃ env1, tgV tg w env st = some env1 ∧ mc env1 st = .ok (p w) st ∧ (p w = true → me env1 st = .ok (f w) st)) →
    lcRun tg mc me gd env ws acc st = .ok (acc ++ (ws.filter p).map f) st
  | [], acc, h => by
    unfold lcRun
    rw [if_pos hg]
    simp
  | w :: ws, acc, h => by
    obtain ⟨env1, e1, e2, e3⟩ := h w List.mem_cons_self
    unfold lcRun
    rw [if_pos hg, e1]
    simp only [e2]
    cases hp : p w with
    | false =>
      simp only [Bool.false_eq_true, if_false]
      rw [lc_map p f hg fun x hx => h x (List.mem_cons_of_mem _ hx)]
      simp [hp]
    | true =>
      simp only [if_true, e3 hp]
      rw [lc_map p f hg fun x hx => h x (List.mem_cons_of_mem _ hx)]
      simp [hp]
theorem lc_all {tg : Tg} {mc : Mx Bool} {me : Mx Va} {gd : Gd} {env : Ev} {st : Sto} (f : Va → Va) (hg : gdB gd st = true) {ws acc : List Va} (h : ∀ w ∈ ws, ∃ env1, tgV tg w env st = some env1 ∧ mc env1 st = .ok true st ∧ me env1 st = .ok (f w) st) :
    lcRun tg mc me gd env ws acc st = .ok (acc ++ ws.map f) st := by
  have := lc_map (tg := tg) (mc := mc) (me := me) (gd := gd) (env := env) (st := st) (fun _ => true) f hg (ws := ws) (acc := acc) fun w hw => let ⟨e, h1, h2, h3⟩ := h w hw; ⟨e, h1, h2, fun _ => h3⟩
  rw [this, List.filter_eq_self.mpr fun _ _ => rfl]

/-! ### a def's run -/
theorem runD_ok {L : Lm} {d : Df} {ws : List Va} {w : Va} {s : Sto} (hn : ws.length = d.np) (h : wp { rt := fun v st => retV v st = .ok w s, nx := fun _ _ => w = .non ∧ s = [] } (ex L d.body (ws.map some ++ List.replicate (d.N.length - ws.length) none) [])) : runD L d ws = .ok w s := by
  rw [wp_eq] at h
  unfold runD runB
  rw [if_pos hn]
  cases e : ex L d.body (ws.map some ++ List.replicate (d.N.length - ws.length) none) [] with
  | nx env st => rw [e] at h; obtain ⟨rfl, rfl⟩ := h; rfl
  | ct env st => rw [e] at h; exact h.elim
  | rt v st => rw [e] at h; exact h
  | err x env st => rw [e] at h; exact h.elim
  | stuck => rw [e] at h; exact h.elim
theorem freeze_free {w : Va} {st : Sto} {n : Nat} (h : free w = true) : freezeN (n + 1) w st = some (w, st) := by
  unfold freezeN
  rw [if_pos h]
theorem mapS_free {n : Nat} {st : Sto} : ∀ {l : List Va}, frees l = true → mapS (freezeN (n + 1)) l st = some (l, st)
  | [], _ => rfl
  | x :: r, h => by
    simp only [frees, Bool.and_eq_true] at h
    unfold mapS
    rw [freeze_free h.1]
    simp only [mapS_free h.2]
theorem freeze_lst {p : Nat} {st : Sto} {l : List Va} {n : Nat} (e : st[p]? = some (some (.lst l))) (h : frees l = true) : freezeN (n + 2) (.ref p) st = some (.lst l, st.set p none) := by
  unfold freezeN
  rw [if_neg (by simp [free])]
  simp only [e, mapS_free h, Option.map_some]
/-- the mark of a fresh thing -/
abbrev fresh : Sto := [none]
theorem ret_free {w : Va} {st : Sto} (h : free w = true) : retV w st = .ok w [] := by
  cases w <;> first | (simp [free] at h; done) | (unfold retV; simp only [freeze_free (n := 19) h])
theorem ret_lst {p : Nat} {st : Sto} {l : List Va} (e : st[p]? = some (some (.lst l))) (h : frees l = true) : retV (.ref p) st = .ok (.lst l) fresh := by
  unfold retV takeO
  simp only [e, mapS_free (n := 19) h, Option.map_some]
theorem callP_free {φ : Fn} {ws : List Va} {w : Va} {s st : Sto} (hf : frees ws = true) (h : φ ws = .ok w s) : callP false φ ws st = .ok w st := by
  unfold callP
  rw [if_pos hf, h]
  rfl
theorem callP_err {m : Bool} {φ : Fn} {ws : List Va} {x : Exc} {s st : Sto} (hf : frees ws = true) (h : φ ws = .err x s) : callP m φ ws st = .err x st := by
  unfold callP
  rw [if_pos hf, h]
@[simp] theorem frees_nil : frees [] = true := rfl
@[simp] theorem frees_cons (x : Va) (r : List Va) : frees (x :: r) = (free x && frees r) := rfl
theorem frees_all : ∀ l : List Va, frees l = l.all free
  | [] => rfl
  | x :: r => by rw [frees_cons, frees_all r]; rfl
@[simp] theorem frees_append (a b : List Va) : frees (a ++ b) = (frees a && frees b) := by simp [frees_all]
@[simp] theorem free_int (i : Int) : free (.int i) = true := rfl
@[simp] theorem free_str (i : Tx) : free (.str i) = true := rfl
@[simp] theorem free_bl (i : Bool) : free (.bl i) = true := rfl
@[simp] theorem free_non : free .non = true := rfl
@[simp] theorem free_tup (l : List Va) : free (.tup l) = frees l := by simp [free]
@[simp] theorem free_lst (l : List Va) : free (.lst l) = frees l := by simp [free]
@[simp] theorem free_scr (l : List Va) : free (.scr l) = frees l := by simp [free]
@[simp] theorem free_ref (p : Nat) : free (.ref p) = false := rfl
theorem frees_of {l : List Va} (h : ∀ x ∈ l, free x = true) : frees l = true := by rw [frees_all]; exact List.all_eq_true.mpr h

/-! ### plain data -/
mutual
def dat : Nat → Va → Bool
  | _, .non => true
  | _, .bl _ => true
  | _, .int _ => true
  | _, .str _ => true
  | n + 1, .tup l => dats n l
  | n + 1, .lst l => dats n l
  | n + 1, .scr l => dats n l
  | _, _ => false
def dats : Nat → List Va → Bool
  | _, [] => true
  | n, x :: r => dat n x && dats n r
end
mutual
def toPd : Va → PyData
  | .bl b => .bool b
  | .int i => .int i
  | .str x => .str (mkS x)
  | .tup l => .tuple (toPds l)
  | .lst l => .list (toPds l)
  | .scr l => .list (toPds l)
  | _ => .none
def toPds : List Va → List PyData
  | [] => []
  | x :: r => toPd x :: toPds r
end
def eqd (x y : Va) : Bool := PyData.eqv (toPd x) (toPd y)
def eqds (x y : List Va) : Bool := PyData.eqvAll (toPds x) (toPds y)
mutual
theorem pd_dat : ∀ {n : Nat} {x : Va}, dat n x = true → ∀ st, pd n st x = some (toPd x)
  | n, .non, _, st => by cases n <;> simp [pd, toPd]
  | n, .bl _, _, st => by cases n <;> simp [pd, toPd]
  | n, .int _, _, st => by cases n <;> simp [pd, toPd]
  | n, .str _, _, st => by cases n <;> simp [pd, toPd]
  | n + 1, .tup l, h, st => by
    have h2 : dats n l = true := by simpa [dat] using h
    simp [pd, toPd, pd_dats h2 st]
  | n + 1, .lst l, h, st => by
    have h2 : dats n l = true := by simpa [dat] using h
    simp [pd, toPd, pd_dats h2 st]
  | n + 1, .scr l, h, st => by
    have h2 : dats n l = true := by simpa [dat] using h
    simp [pd, toPd, pd_dats h2 st]
  | 0, .tup l, h, st => by simp [dat] at h
  | 0, .lst l, h, st => by simp [dat] at h
  | 0, .scr l, h, st => by simp [dat] at h
  | n, .dic _ _, h, st => by simp [dat] at h
  | n, .ref _, h, st => by simp [dat] at h
theorem pd_dats : ∀ {n : Nat} {l : List Va}, dats n l = true → ∀ st, mapO (pd n st) l = some (toPds l)
  | n, [], _, st => rfl
  | n, x :: r, h, st => by
    simp only [dats, Bool.and_eq_true] at h
    unfold mapO
    rw [pd_dat h.1 st, pd_dats h.2 st]
    rfl
end
theorem eqV_dat {x y : Va} {neg : Bool} {st : Sto} (hx : dat 40 x = true) (hy : dat 40 y = true) : eqV neg x y st = .ok (.bl (if neg then !eqd x y else eqd x y)) st := by
  unfold eqV
  rw [pd_dat hx st, pd_dat hy st]
  rfl
mutual
theorem eqv_self : ∀ {n : Nat} {x : Va}, dat n x = true → PyData.eqv (toPd x) (toPd x) = true
  | n, .non, _ => by simp [toPd, PyData.eqv]
  | n, .bl _, _ => by simp [toPd, PyData.eqv]
  | n, .int _, _ => by simp [toPd, PyData.eqv]
  | n, .str _, _ => by simp [toPd, PyData.eqv]
  | n + 1, .tup l, h => by
    have h2 : dats n l = true := by simpa [dat] using h
    simp [toPd, PyData.eqv, eqvAll_self h2]
  | n + 1, .lst l, h => by
    have h2 : dats n l = true := by simpa [dat] using h
    simp [toPd, PyData.eqv, eqvAll_self h2]
  | n + 1, .scr l, h => by
    have h2 : dats n l = true := by simpa [dat] using h
    simp [toPd, PyData.eqv, eqvAll_self h2]
  | 0, .tup l, h => by simp [dat] at h
  | 0, .lst l, h => by simp [dat] at h
  | 0, .scr l, h => by simp [dat] at h
  | n, .dic _ _, h => by simp [dat] at h
  | n, .ref _, h => by simp [dat] at h
theorem eqvAll_self : ∀ {n : Nat} {l : List Va}, dats n l = true → PyData.eqvAll (toPds l) (toPds l) = true
  | n, [], _ => by simp [toPds, PyData.eqvAll]
  | n, x :: r, h => by
    simp only [dats, Bool.and_eq_true] at h
    simp [toPds, PyData.eqvAll, eqv_self h.1, eqvAll_self h.2]
end
theorem eqd_self {n : Nat} {x : Va} (h : dat n x = true) : eqd x x = true := eqv_self h
theorem eqV_self {x : Va} {neg : Bool} {st : Sto} (hx : dat 40 x = true) : eqV neg x x st = .ok (.bl (!neg)) st := by
  rw [eqV_dat hx hx, eqd_self hx]
  cases neg <;> rfl
@[simp] theorem eqd_int (i j : Int) : eqd (.int i) (.int j) = decide (i = j) := by
  show (i == j) = decide (i = j)
  by_cases h : i = j <;> simp [h]
@[simp] theorem eqd_str (i j : Tx) : eqd (.str i) (.str j) = decide (i = j) := by
  show (mkS i == mkS j) = decide (i = j)
  by_cases h : i = j
  · simp [h]
  · simp only [h, decide_false, beq_eq_false_iff_ne, ne_eq]
    exact fun e => h (mkS_inj e)
@[simp] theorem eqd_bl (i j : Bool) : eqd (.bl i) (.bl j) = (i == j) := rfl
@[simp] theorem eqd_tup (i j : List Va) : eqd (.tup i) (.tup j) = eqds i j := by simp [eqd, toPd, PyData.eqv, eqds]
@[simp] theorem eqd_lst (i j : List Va) : eqd (.lst i) (.lst j) = eqds i j := by simp [eqd, toPd, PyData.eqv, eqds]
@[simp] theorem eqds_nil : eqds [] [] = true := by simp [eqds, toPds, PyData.eqvAll]
@[simp] theorem eqds_cons (x y : Va) (r s : List Va) : eqds (x :: r) (y :: s) = (eqd x y && eqds r s) := by simp [eqds, toPds, PyData.eqvAll, eqd]
@[simp] theorem eqds_cons_nil (x : Va) (r : List Va) : eqds (x :: r) [] = false := by simp [eqds, toPds, PyData.eqvAll]
@[simp] theorem eqds_nil_cons (x : Va) (r : List Va) : eqds [] (x :: r) = false := by simp [eqds, toPds, PyData.eqvAll]
@[simp] theorem dat_int (n : Nat) (i : Int) : dat n (.int i) = true := by cases n <;> rfl
@[simp] theorem dat_str (n : Nat) (i : Tx) : dat n (.str i) = true := by cases n <;> rfl
@[simp] theorem dat_bl (n : Nat) (i : Bool) : dat n (.bl i) = true := by cases n <;> rfl
@[simp] theorem dat_non (n : Nat) : dat n .non = true := by cases n <;> rfl
@[simp] theorem dat_tup (n : Nat) (l : List Va) : dat (n + 1) (.tup l) = dats n l := by simp [dat]
@[simp] theorem dat_lst (n : Nat) (l : List Va) : dat (n + 1) (.lst l) = dats n l := by simp [dat]
@[simp] theorem dat_scr (n : Nat) (l : List Va) : dat (n + 1) (.scr l) = dats n l := by simp [dat]
@[simp] theorem dats_nil (n : Nat) : dats n [] = true := by cases n <;> rfl
@[simp] theorem dats_cons (n : Nat) (x : Va) (r : List Va) : dats n (x :: r) = (dat n x && dats n r) := by cases n <;> simp [dats]
theorem dats_all (n : Nat) : ∀ l : List Va, dats n l = l.all (dat n)
  | [] => by simp
  | x :: r => by rw [dats_cons, dats_all n r]; rfl
@[simp] theorem dats_append (n : Nat) (a b : List Va) : dats n (a ++ b) = (dats n a && dats n b) := by simp [dats_all]
theorem dats_of {n : Nat} {l : List Va} (h : ∀ x ∈ l, dat n x = true) : dats n l = true := by rw [dats_all]; exact List.all_eq_true.mpr h
end G

set_option Elab.async false
set_option linter.all false
set_option maxRecDepth 100000
set_option maxHeartbeats 4000000
namespace G
open PySem PySem.Spec PyProof.Rows L2

/-! ### reckoning: what each word does -/
@[simp] theorem ev_var (L : Lm) (i : Nat) : ev L (.var i) = mke (mVar i) := (rfl)
@[simp] theorem ev_int (L : Lm) (i : Int) : ev L (.int i) = mke (mC (.int i)) := (rfl)
@[simp] theorem ev_str (L : Lm) (s : Tx) : ev L (.str s) = mke (mC (.str s)) := (rfl)
@[simp] theorem ev_bl (L : Lm) (b : Bool) : ev L (.bl b) = mke (mC (.bl b)) := (rfl)
@[simp] theorem ev_non (L : Lm)  : ev L .non = mke (mC .non) := (rfl)
@[simp] theorem ev_glob (L : Lm) (x : Str) : ev L (.glob x) = mke (match L.gl x with | some w => mC w | none => fun _ _ => .stuck) := (rfl)
@[simp] theorem ev_bin (L : Lm) (op : BOp) (m : Bool) (a b : T) : ev L (.bin op m a b) = mke (mBin (bopV op m) (ev L a).e (ev L b).e) := (rfl)
@[simp] theorem ev_neg (L : Lm) (a : T) : ev L (.neg a) = mke (mNeg (ev L a).e) := (rfl)
@[simp] theorem ev_not (L : Lm) (a : T) : ev L (.not a) = G.mk (mNot (ev L a).e) (mTNot (ev L a).t) := (rfl)
@[simp] theorem ev_cmp (L : Lm) (op : COp) (a b : T) : ev L (.cmp op a b) = G.mk (mBin (copV op) (ev L a).e (ev L b).e) (mTst (mBin (copV op) (ev L a).e (ev L b).e)) := (rfl)
@[simp] theorem ev_cmp2 (L : Lm) (op op' : COp) (a b c : T) : ev L (.cmp2 op op' a b c) = G.mk (mChain (copV op) (copV op') (ev L a).e (ev L b).e (ev L c).e) (mTst (mChain (copV op) (copV op') (ev L a).e (ev L b).e (ev L c).e)) := (rfl)
@[simp] theorem ev_and (L : Lm) (l : T) : ev L (.and l) = G.mk (ev L l).an (ev L l).ta := (rfl)
@[simp] theorem ev_or (L : Lm) (l : T) : ev L (.or l) = G.mk (ev L l).or (ev L l).to := (rfl)
@[simp] theorem ev_ife (L : Lm) (c a b : T) : ev L (.ife c a b) = G.mk (mIf (ev L c).t (ev L a).e (ev L b).e) fun _ _ => .stuck := (rfl)
@[simp] theorem ev_tup (L : Lm) (l : T) : ev L (.tup l) = mke (mTup (ev L l).l) := (rfl)
@[simp] theorem ev_lst (L : Lm) (m : Bool) (l : T) : ev L (.lst m l) = mke (mLst m (ev L l).l) := (rfl)
@[simp] theorem ev_ix (L : Lm) (a i : T) : ev L (.ix a i) = mke (mBin ixV (ev L a).e (ev L i).e) := (rfl)
@[simp] theorem ev_sl (L : Lm) (m : Bool) (a lo hi : T) : ev L (.sl m a lo hi) = mke (mSlice m (ev L a).e (ev L lo).p (ev L hi).p) := (rfl)
@[simp] theorem ev_call (L : Lm) (f : Str) (m : Bool) (l : T) : ev L (.call f m l) = mke (mFn (callP m (L.fn f)) (ev L l).l) := (rfl)
@[simp] theorem ev_bif (L : Lm) (b : Bif) (m : Bool) (l : T) : ev L (.bif b m l) = mke (mFn (bifV b m) (ev L l).l) := (rfl)
@[simp] theorem ev_isi (L : Lm) (c : String) (a : T) : ev L (.isi c a) = mke (mIsi c (ev L a).e) := (rfl)
@[simp] theorem ev_mth (L : Lm) (k : Mth) (o l : T) : ev L (.mth k o l) = mke (mMth (mthT k) (mthV k) (ev L o).e (ev L l).l) := (rfl)
@[simp] theorem ev_lc (L : Lm) (m : Bool) (vs : List Nat) (tg : Tg) (it c e : T) : ev L (.lc m vs tg it c e) = mke (mLc m vs tg (ev L it).i (ev L c).t (ev L e).e) := (rfl)
@[simp] theorem ev_lc2 (L : Lm) (m : Bool) (vs vs1 : List Nat) (tg : Tg) (it c : T) (tg1 : Tg) (it1 c1 e : T) : ev L (.lc2 m vs vs1 tg it c tg1 it1 c1 e) = mke (mLc2 m vs vs1 tg (ev L it).i (ev L c).t tg1 (ev L it1).i (ev L c1).t (ev L e).e) := (rfl)
@[simp] theorem ev_lrng (L : Lm) (m : Bool) (a b : T) : ev L (.lrng m a b) = mke (mLrg m (ev L a).e (ev L b).e) := (rfl)
@[simp] theorem ev_irng (L : Lm) (l : T) : ev L (.irng l) = mkI (mRng (ev L l).l) := (rfl)
@[simp] theorem ev_ienum (L : Lm) (l : T) : ev L (.ienum l) = mkI (mEnum (ev L l).l) := (rfl)
@[simp] theorem ev_xf (L : Lm) (i : Nat) (f : Str) : ev L (.xf i f) = mke (xfV L f) := (rfl)
@[simp] theorem ev_xi (L : Lm) (i : Nat) (c : Str) : ev L (.xi i c) = mke (xiV L c) := (rfl)
@[simp] theorem ev_mm (L : Lm) (mx : Bool) (l : T) : ev L (.mm mx l) = mke (mFn (mmV mx) (ev L l).l) := (rfl)
@[simp] theorem ev_irev (L : Lm) (a : T) : ev L (.irev a) = mkI (mRev (ev L a).e) := (rfl)
@[simp] theorem ex_stk (L : Lm) : ex L .stk = fun _ _ => .stuck := (rfl)
@[simp] theorem mRev_eq (me : Mx Va) (env : Ev) (st : Sto) : mRev me env st = (me env st).bind fun x st => match x with | .lst l => .ok (l.reverse, none) st | _ => .stuck := (rfl)
@[simp] theorem ev_lcX (L : Lm) (m : Bool) (vs : List Nat) (tg : Tg) (it c e : T) : ev L (.lcX m vs tg it c e) = mke (mLcX m vs tg (ev L it).i (ev L c).t (ev L e).e) := (rfl)
@[simp] theorem ev_idic (L : Lm) (a : T) : ev L (.idic a) = mkI (mDicI (ev L a).e) := (rfl)
@[simp] theorem mDicI_eq {env : Ev} {st : Sto} (m : Mx Va) : mDicI m env st = (m env st).bind dicI := (rfl)
@[simp] theorem dicI_dic {st : Sto} (k : List Ky) (l : List Va) : dicI (.dic k l) st = .ok (k.map kyV, none) st := (rfl)
@[simp] theorem ev_izip (L : Lm) (l : T) : ev L (.izip l) = mkI (mZip (ev L l).l) := (rfl)
@[simp] theorem mZip_eq {env : Ev} {st : Sto} (m : Mx (List Va)) : mZip m env st = (m env st).bind zipV := (rfl)
@[simp] theorem zipV_lt {st : Sto} (a b : List Va) : zipV [.lst a, .tup b] st = .ok (pairsV a b, none) st := (rfl)
@[simp] theorem ev_js (L : Lm) (l : T) : ev L (.js l) = mke (mJs (ev L l).j []) := (rfl)
@[simp] theorem ev_fmt (L : Lm) (a : T) : ev L (.fmt a) = mke (mFmt (ev L a).e) := (rfl)
@[simp] theorem nil_j (L : Lm) : (ev L .nil).j = [] := (rfl)
@[simp] theorem cons_j (L : Lm) (a b : T) : (ev L (.cons a b)).j = (ev L a).e :: (ev L b).j := (rfl)
@[simp] theorem ev_allS (L : Lm) (f : Str) (gs : Tx) (a : T) : ev L (.allS f gs a) = mke (mAllS gs (ev L a).e) := (rfl)
@[simp] theorem ev_anyL (L : Lm) (all : Bool) (i : Nat) (vs : List Nat) (a : T) (t : QT) : ev L (.anyL all i vs a t) = mke (mAnyL all i vs (ev L a).e t) := (rfl)
@[simp] theorem nil_l (L : Lm) : (ev L .nil).l = mNil := (rfl)
@[simp] theorem nil_z (L : Lm) : (ev L .nil).z = true := (rfl)
@[simp] theorem nil_t (L : Lm) : (ev L .nil).t = mTyes := (rfl)
@[simp] theorem nil_p (L : Lm) : (ev L .nil).p = mNo := (rfl)
@[simp] theorem cons_l (L : Lm) (a b : T) : (ev L (.cons a b)).l = mCons (ev L a).e (ev L b).l := (rfl)
@[simp] theorem cons_z (L : Lm) (a b : T) : (ev L (.cons a b)).z = false := (rfl)
@[simp] theorem cons_an (L : Lm) (a b : T) : (ev L (.cons a b)).an = if (ev L b).z then (ev L a).e else mAnd (ev L a).e (ev L b).an := (rfl)
@[simp] theorem cons_or (L : Lm) (a b : T) : (ev L (.cons a b)).or = if (ev L b).z then (ev L a).e else mOr (ev L a).e (ev L b).or := (rfl)
@[simp] theorem cons_ta (L : Lm) (a b : T) : (ev L (.cons a b)).ta = if (ev L b).z then (ev L a).t else mTAnd (ev L a).t (ev L b).ta := (rfl)
@[simp] theorem cons_to (L : Lm) (a b : T) : (ev L (.cons a b)).to = if (ev L b).z then (ev L a).t else mTOr (ev L a).t (ev L b).to := (rfl)
@[simp] theorem mke_e (m : Mx Va) : (mke m).e = m := (rfl)
@[simp] theorem mke_t (m : Mx Va) : (mke m).t = mTru m := (rfl)
@[simp] theorem mke_p (m : Mx Va) : (mke m).p = mPart m := (rfl)
@[simp] theorem mke_i (m : Mx Va) : (mke m).i = mIt m := (rfl)
@[simp] theorem mk_e (m : Mx Va) (k : Mx Bool) : (G.mk m k).e = m := (rfl)
@[simp] theorem mk_t (m : Mx Va) (k : Mx Bool) : (G.mk m k).t = k := (rfl)
@[simp] theorem mk_p (m : Mx Va) (k : Mx Bool) : (G.mk m k).p = mPart m := (rfl)
@[simp] theorem mk_i (m : Mx Va) (k : Mx Bool) : (G.mk m k).i = mIt m := (rfl)
@[simp] theorem mkI_i (m : Mx (List Va × Gd)) : (mkI m).i = m := (rfl)
@[simp] theorem bop_add (m : Bool) : bopV .add m = addV m := (rfl)
@[simp] theorem bop_sub (m : Bool) : bopV .sub m = subV := (rfl)
@[simp] theorem bop_mul (m : Bool) : bopV .mul m = mulV m := (rfl)
@[simp] theorem bop_fdiv (m : Bool) : bopV .fdiv m = fdivV := (rfl)
@[simp] theorem bop_mod (m : Bool) : bopV .mod m = modV := (rfl)
@[irreducible] def powD : Va → Va → Sto → R Va := powV
@[simp] theorem bop_pow (m : Bool) : bopV .pow m = powD := by unfold powD; rfl
@[simp] theorem cop_eq : copV .eq = eqV false := (rfl)
@[simp] theorem cop_ne : copV .ne = eqV true := (rfl)
@[simp] theorem cop_lt : copV .lt = cmpV fun i j => decide (i < j) := (rfl)
@[simp] theorem cop_le : copV .le = cmpV fun i j => decide (i ≤ j) := (rfl)
@[simp] theorem cop_gt : copV .gt = cmpV fun i j => decide (j < i) := (rfl)
@[simp] theorem cop_ge : copV .ge = cmpV fun i j => decide (j ≤ i) := (rfl)
@[simp] theorem cop_in_ : copV .in_ = inV' false := (rfl)
@[simp] theorem cop_notIn : copV .notIn = inV' true := (rfl)
@[simp] theorem cop_is_ : copV .is_ = isNV false := (rfl)
@[simp] theorem cop_isNot : copV .isNot = isNV true := (rfl)
@[simp] theorem bif_len (m : Bool) : bifV .len m = lenV := (rfl)
@[simp] theorem bif_list (m : Bool) : bifV .list m = listV m := (rfl)
@[simp] theorem bif_tuple (m : Bool) : bifV .tuple m = tupleV := (rfl)
@[simp] theorem bif_str (m : Bool) : bifV .str m = strV := (rfl)
@[simp] theorem bif_int (m : Bool) : bifV .int m = toIntV := (rfl)
@[simp] theorem mth_append : mthV .append = appendV := (rfl)
@[simp] theorem mthT_append : mthT .append = "list" := (rfl)
@[simp] theorem mth_extend : mthV .extend = extendV := (rfl)
@[simp] theorem mthT_extend : mthT .extend = "list" := (rfl)
@[simp] theorem mth_pop : mthV .pop = popV := (rfl)
@[simp] theorem mthT_pop : mthT .pop = "list" := (rfl)
@[simp] theorem mth_insert : mthV .insert = insertV := (rfl)
@[simp] theorem mthT_insert : mthT .insert = "list" := (rfl)
@[simp] theorem mth_join : mthV .join = joinV := (rfl)
@[simp] theorem mthT_join : mthT .join = "str" := (rfl)
@[simp] theorem mth_find : mthV .find = findV := (rfl)
@[simp] theorem mthT_find : mthT .find = "str" := (rfl)
@[simp] theorem mth_lstrip : mthV .lstrip = lstripV := (rfl)
@[simp] theorem mthT_lstrip : mthT .lstrip = "str" := (rfl)
@[simp] theorem mth_isalnum : mthV .isalnum = isalnumV := (rfl)
@[simp] theorem mthT_isalnum : mthT .isalnum = "str" := (rfl)
@[simp] theorem mth_isdigit : mthV .isdigit = isdigitV := (rfl)
@[simp] theorem mthT_isdigit : mthT .isdigit = "str" := (rfl)
@[simp] theorem ex_nil (L : Lm)  : ex L .nil = fun env st => .nx env st := (rfl)
@[simp] theorem ex_seq (L : Lm) (a b : S) : ex L (.seq a b) = mSeq (ex L a) (ex L b) := (rfl)
@[simp] theorem ex_set (L : Lm) (tg : Tg) (e : T) : ex L (.set tg e) = mSet tg (ev L e).e := (rfl)
@[simp] theorem ex_setIx (L : Lm) (o i e : T) : ex L (.setIx o i e) = mSetIx (ev L o).e (ev L i).e (ev L e).e := (rfl)
@[simp] theorem ex_aug (L : Lm) (i : Nat) (s : Bool) (e : T) : ex L (.aug i s e) = mAug i s (ev L e).e := (rfl)
@[simp] theorem ex_expr (L : Lm) (e : T) : ex L (.expr e) = mExpr (ev L e).e := (rfl)
@[simp] theorem ex_ret (L : Lm) (e : T) : ex L (.ret e) = mRet (ev L e).e := (rfl)
@[simp] theorem ex_retN (L : Lm)  : ex L .retN = fun _ st => .rt .non st := (rfl)
@[simp] theorem ex_sif (L : Lm) (c : T) (a b : S) : ex L (.sif c a b) = mIfS (ev L c).t (ex L a) (ex L b) := (rfl)
@[simp] theorem ex_sfor (L : Lm) (tg : Tg) (it : T) (b : S) : ex L (.sfor tg it b) = mFor tg (ev L it).i (ex L b) := (rfl)
@[simp] theorem ex_cont (L : Lm)  : ex L .cont = fun env st => .ct env st := (rfl)
@[simp] theorem ex_pass (L : Lm)  : ex L .pass = fun env st => .nx env st := (rfl)
@[simp] theorem ex_swh (L : Lm) (c : T) (b : S) : ex L (.swh c b) = whileN (ev L c).t (ex L b) fuel := (rfl)
@[simp] theorem ex_tryE (L : Lm) (a h : S) : ex L (.tryE a h) = mTry (ex L a) fun x => ex ⟨L.gl, L.fn, L.xs, some x, L.fi⟩ h := (rfl)
@[simp] theorem ex_hnd (L : Lm) (c : Str) (io : Option Nat) (a r : S) : ex L (.hnd c io a r) = mSel L c (mHnd io (ex L a)) (ex L r) := (rfl)
@[simp] theorem ex_hend (L : Lm) : ex L .hend = mHend L := (rfl)
@[simp] theorem ev_cbf (L : Lm) (b : Cb) (m : Bool) (l : T) : ev L (.cbf b m l) = mke (mFn (cbV b m) (ev L l).l) := (rfl)
@[simp] theorem ev_dnew (L : Lm) (m : Bool) : ev L (.dnew m) = mke (mDnew m) := (rfl)
@[simp] theorem mDnew_eq {env : Ev} {st : Sto} (m : Bool) : mDnew m env st = mkD m [] [] st := (rfl)
@[simp] theorem cbV_sorted (m : Bool) : cbV .sorted m = sortedV m := (rfl)
@[simp] theorem cbV_sum (m : Bool) : cbV .sum m = sumV := (rfl)
@[simp] theorem cbV_dict (m : Bool) : cbV .dict m = dictV m := (rfl)
@[simp] theorem cbV_mn (m : Bool) : cbV .mn m = bestV ltPI min := (rfl)
@[simp] theorem cbV_mx (m : Bool) : cbV .mx m = bestV (fun a b => ltPI b a) max := (rfl)
@[simp] theorem mth_get : mthV .get = getV := (rfl)
@[simp] theorem mth_setd : mthV .setdefault = setdV := (rfl)
@[simp] theorem mthT_setd : mthT .setdefault = "dict" := (rfl)
@[simp] theorem mth_index : mthV .index = indexV := (rfl)
@[simp] theorem mthT_index : mthT .index = "list" := (rfl)
@[simp] theorem mth_split : mthV .split = splitV := (rfl)
@[simp] theorem mthT_split : mthT .split = "str" := (rfl)
@[simp] theorem mAllS_eq (gs : Tx) (ma : Mx Va) (env : Ev) (st : Sto) : mAllS gs ma env st = (ma env st).bind fun v st => match v with | .str a => .ok (.bl (a.all (sgV gs))) st | _ => .stuck := (rfl)
@[simp] theorem mthT_get : mthT .get = "dict" := (rfl)
@[simp] theorem mkD_t {st : Sto} (k : List Ky) (l : List Va) : mkD true k l st = .ok (.ref st.length) (st ++ [some (.dic k l)]) := (rfl)
@[simp] theorem mkD_f {st : Sto} (k : List Ky) (l : List Va) : mkD false k l st = .ok (.dic k l) st := (rfl)
@[simp] theorem ev_callK (L : Lm) (f : Str) (m : Bool) (l : T) (k : Str) (e : T) : ev L (.callK f m l k e) = mke (mFn (callP m (L.fn f)) (mSnoc (ev L l).l (ev L e).e)) := (rfl)
@[simp] theorem ev_callM (L : Lm) (f : Str) (l : T) : ev L (.callM f l) = mke (mFn (callM (L.fn f)) (ev L l).l) := (rfl)
@[simp] theorem mSnoc_eq {env : Ev} {st : Sto} {ml : Mx (List Va)} {me : Mx Va} : mSnoc ml me env st = (ml env st).bind fun l st => (me env st).bind fun x st => .ok (l ++ [x]) st := (rfl)
@[simp] theorem ex_raisI (L : Lm) (c : Str) (l : T) : ex L (.raisI c l) = mRaisI L c (ev L l).l := (rfl)
@[simp] theorem ex_raisP (L : Lm) (c : Str) (e : T) : ex L (.raisP c e) = mRaisP L c (ev L e).e := (rfl)
@[simp] theorem ex_rais (L : Lm) (c : Str) (s : Tx) : ex L (.rais c s) = mRais L c := (rfl)
/-- the wish of a try's body -/
def Po.tryP (Q : Po) (mh : Exc → Ms) : Po := { Q with err := fun x e s => wp Q (if (x.fs.all fun p => free p.2) = true then mh x e s else .stuck) }
def Po.hndP (Q : Po) (io : Option Nat) : Po := { nx := fun e s => Q.nx (clr io e) s, ct := fun e s => Q.ct (clr io e) s, rt := Q.rt, err := fun _ _ _ => False }
section
variable {env : Ev} {st : Sto} {Q : Po} {L : Lm}
@[simp] theorem wp_try {mb : Ms} {mh : Exc → Ms} : wp Q (mTry mb mh env st) = wp (Q.tryP mh) (mb env st) := by
  unfold mTry
  rw [wp_eq]
  cases mb env st with
  | err x e s =>
    show wp0 Q (if _ then _ else _) = wp Q (if _ then _ else _)
    rw [wp_eq]
  | _ => rfl
@[simp] theorem tryP_nx {mh : Exc → Ms} : (Q.tryP mh).nx = Q.nx := (rfl)
@[simp] theorem tryP_ct {mh : Exc → Ms} : (Q.tryP mh).ct = Q.ct := (rfl)
@[simp] theorem tryP_rt {mh : Exc → Ms} : (Q.tryP mh).rt = Q.rt := (rfl)
@[simp] theorem tryP_err {mh : Exc → Ms} {x : Exc} {e : Ev} {s : Sto} : (Q.tryP mh).err x e s = wp Q (if (x.fs.all fun p => free p.2) = true then mh x e s else .stuck) := (rfl)
@[simp] theorem wp_hnd {io : Option Nat} {m : Ms} : wp Q (mHnd io m env st) = wp (Q.hndP io) (m (clr io env) st) := by
  unfold mHnd
  rw [wp_eq]
  cases m (clr io env) st <;> rfl
@[simp] theorem hndP_nx {io : Option Nat} {e : Ev} {s : Sto} : (Q.hndP io).nx e s = Q.nx (clr io e) s := (rfl)
@[simp] theorem hndP_ct {io : Option Nat} {e : Ev} {s : Sto} : (Q.hndP io).ct e s = Q.ct (clr io e) s := (rfl)
@[simp] theorem hndP_rt {io : Option Nat} : (Q.hndP io).rt = Q.rt := (rfl)
@[simp] theorem clr_none : clr none env = env := (rfl)
@[simp] theorem clr_some (i : Nat) : clr (some i) env = env.set i none := (rfl)
@[simp] theorem mSel_eq {g : Str → Option Va} {f : Str → Fn} {xs : Xs} {x : Exc} {fi : Str → Fi} {c : Str} {ms mr : Ms} : mSel ⟨g, f, xs, some x, fi⟩ c ms mr env st = match xs.sub x.cls c with | some true => ms env st | some false => mr env st | none => .stuck := (rfl)
@[simp] theorem mHend_eq {g : Str → Option Va} {f : Str → Fn} {xs : Xs} {x : Exc} {fi : Str → Fi} : mHend ⟨g, f, xs, some x, fi⟩ env st = .err x env st := (rfl)
@[simp] theorem mRais_eq {c : Str} : mRais L c env st = match L.xs.pl c with | some z => .err ⟨z, []⟩ env st | none => .stuck := (rfl)
def raisW (o : Ow) (env : Ev) (ws : List Va) (st : Sto) : RS := if ws.length = o.n ∧ o.n ≤ 100 ∧ o.tx.length ≤ 8 ∧ o.tx.all (pcW ws) = true then (match runFs ws o.fs [] with
      | some fs => .err ⟨o.z, fs.map fun p => (p.1.cps.toList, p.2)⟩ env st
      | none => .stuck) else .stuck
def raisO : Option Ow → R (List Va) → Ev → RS
  | some o, r, env => bindE r env (raisW o env)
  | none, _, _ => .stuck
def raisPO : Option Tx → R Va → Ev → RS
  | some z, r, env => bindE r env fun _ st => .err ⟨z, []⟩ env st
  | none, _, _ => .stuck
@[simp] theorem raisPO_some {z : Tx} {r : R Va} : raisPO (some z) r env = bindE r env fun _ st => .err ⟨z, []⟩ env st := (rfl)
@[simp] theorem mRaisP_eq {c : Str} {me : Mx Va} : mRaisP L c me env st = raisPO (L.xs.pl c) (me env st) env := by
  unfold mRaisP
  cases L.xs.pl c with
  | none => rfl
  | some z => rfl
@[simp] theorem raisO_some {o : Ow} {r : R (List Va)} : raisO (some o) r env = bindE r env (raisW o env) := (rfl)
@[simp] theorem mRaisI_eq {c : Str} {ml : Mx (List Va)} : mRaisI L c ml env st = raisO (L.xs.ow c) (ml env st) env := by
  unfold mRaisI
  cases L.xs.ow c with
  | none => rfl
  | some o => rfl
@[simp] theorem xfV_eq {g : Str → Option Va} {f : Str → Fn} {xs : Xs} {x : Exc} {fi : Str → Fi} {n : Str} : xfV ⟨g, f, xs, some x, fi⟩ n = if xs.fld x.cls n then match x.fs.lookup n.cps.toList with | some w => mC w | none => fun _ _ => .stuck else fun _ _ => .stuck := (rfl)
@[simp] theorem xiV_eq {g : Str → Option Va} {f : Str → Fn} {xs : Xs} {x : Exc} {fi : Str → Fi} {c : Str} : xiV ⟨g, f, xs, some x, fi⟩ c = match xs.sub x.cls c with | some b => mC (.bl b) | none => fun _ _ => .stuck := (rfl)
/-- a def that may raise -/
theorem runD_any {d : Df} {ws : List Va} (r : R Va) (e0 : Ev) (he : ws.map some ++ List.replicate (d.N.length - ws.length) none = e0) (hn : ws.length = d.np)
    (h : ∀ Q : Po, (∀ v s, retV v s = r → Q.rt v s) → (∀ x e s, (x.fs.all fun p => free p.2) = true → r = .err x [] → Q.err x e s) → wp Q (ex L d.body e0 [])) : runD L d ws = r := by
  subst he
  have h := h { rt := fun v s => retV v s = r, err := fun x _ _ => (x.fs.all fun p => free p.2) = true ∧ r = .err x [] } (fun v s h => h) fun x e s h1 h2 => ⟨h1, h2⟩
  rw [wp_eq] at h
  unfold runD runB
  rw [if_pos hn]
  cases e : ex L d.body (ws.map some ++ List.replicate (d.N.length - ws.length) none) [] with
  | nx env st => rw [e] at h; exact h.elim
  | ct env st => rw [e] at h; exact h.elim
  | rt v st => rw [e] at h; exact h
  | err x env st =>
    rw [e] at h
    obtain ⟨h1, h2⟩ := h
    show (if _ then _ else _) = r
    rw [if_pos h1, h2]
  | stuck => rw [e] at h; exact h.elim
@[simp] theorem wp_seqs {a b : Ms} : wp Q (mSeq a b env st) = wp (Q.then b) (a env st) := wp_seq
@[simp] theorem wp_nxs : wp Q (.nx env st) = Q.nx env st := wp_nx
@[simp] theorem wp_cts : wp Q (.ct env st) = Q.ct env st := wp_ct
@[simp] theorem wp_rts {w : Va} : wp Q (.rt w st) = Q.rt w st := wp_rt
@[simp] theorem wp_errs {x : Exc} : wp Q (.err x env st) = Q.err x env st := wp_err
@[simp] theorem wp_stucks : wp Q .stuck = False := wp_stuck
@[simp] theorem then_nx {b : Ms} : (Q.then b).nx env st = wp Q (b env st) := (rfl)
@[simp] theorem then_ct {b : Ms} : (Q.then b).ct = Q.ct := (rfl)
@[simp] theorem then_rt {b : Ms} : (Q.then b).rt = Q.rt := (rfl)
@[simp] theorem then_err {b : Ms} : (Q.then b).err = Q.err := (rfl)
@[simp] theorem mTyes_eq : mTyes env st = .ok true st := (rfl)
@[simp] theorem wp_set {tg : Tg} {me : Mx Va} : wp Q (mSet tg me env st) = wp Q (bindE (me env st) env fun w st => match tgV tg w env st with | some env' => .nx env' st | none => .stuck) := (rfl)
@[simp] theorem wp_ret {me : Mx Va} : wp Q (mRet me env st) = wp Q (bindE (me env st) env fun w st => .rt w st) := (rfl)
@[simp] theorem wp_expr {me : Mx Va} : wp Q (mExpr me env st) = wp Q (bindE (me env st) env fun _ st => .nx env st) := (rfl)
@[simp] theorem wp_ifS {mt : Mx Bool} {a b : Ms} : wp Q (mIfS mt a b env st) = wp Q (bindE (mt env st) env fun c st => if c = true then a env st else b env st) := (rfl)
@[simp] theorem wp_forS {tg : Tg} {mi : Mx (List Va × Gd)} {b : Ms} : wp Q (mFor tg mi b env st) = wp Q (bindE (mi env st) env fun wg st => forRun tg wg.2 b wg.1 env st) := (rfl)
@[simp] theorem bindE_err {α : Type} (x : Exc) (k : α → Sto → RS) : bindE (.err x st) env k = .err x env st := (rfl)
@[simp] theorem tgV_one (i : Nat) (w : Va) : tgV (.inl i) w env st = some (env.set i (some w)) := (rfl)
@[simp] theorem tgV_two (is : List Nat) (l : List Va) : tgV (.inr is) (.tup l) env st = if l.length = is.length then some (setAll is l env) else none := (rfl)
@[simp] theorem setAll_nil (σ : Ev) : setAll (α := Va) [] [] σ = σ := (rfl)
@[simp] theorem setAll_cons (i : Nat) (is : List Nat) (x : Va) (xs : List Va) (σ : Ev) : setAll (i :: is) (x :: xs) σ = setAll is xs (σ.set i (some x)) := (rfl)
theorem mVar_ok {i : Nat} {w : Va} (h : env[i]? = some (some w)) : mVar i env st = .ok w st := by unfold mVar; rw [h]
@[simp] theorem mC_eq (w : Va) : mC w env st = .ok w st := (rfl)
@[simp] theorem mBin_eq (g : Va → Va → Sto → R Va) (ma mb : Mx Va) : mBin g ma mb env st = (ma env st).bind fun x st => (mb env st).bind fun y st => g x y st := (rfl)
@[simp] theorem mNil_eq : mNil env st = .ok [] st := (rfl)
@[simp] theorem mCons_eq (ma : Mx Va) (ml : Mx (List Va)) : mCons ma ml env st = (ma env st).bind fun x st => (ml env st).bind fun xs st => .ok (x :: xs) st := (rfl)
@[simp] theorem mTup_eq (ml : Mx (List Va)) : mTup ml env st = (ml env st).bind fun l st => mkT l st := (rfl)
@[simp] theorem mLst_eq (m : Bool) (ml : Mx (List Va)) : mLst m ml env st = (ml env st).bind fun l st => mkL m l st := (rfl)
@[simp] theorem mFn_eq (g : List Va → Sto → R Va) (ml : Mx (List Va)) : mFn g ml env st = (ml env st).bind fun l st => g l st := (rfl)
@[simp] theorem mTst_eq (m : Mx Va) : mTst m env st = (m env st).bind fun w st => match blOf w with | some b => .ok b st | none => .stuck := (rfl)
@[simp] theorem mTru_eq (m : Mx Va) : mTru m env st = (m env st).bind fun w st => match truV w st with | some b => .ok b st | none => .stuck := (rfl)
@[simp] theorem mIf_eq (mt : Mx Bool) (ma mb : Mx Va) : mIf mt ma mb env st = (mt env st).bind fun b st => if b = true then ma env st else mb env st := (rfl)
@[simp] theorem mAnd_eq (ma mb : Mx Va) : mAnd ma mb env st = (ma env st).bind fun x st => match truV x st with | some true => mb env st | some false => .ok x st | none => .stuck := (rfl)
@[simp] theorem mOr_eq (ma mb : Mx Va) : mOr ma mb env st = (ma env st).bind fun x st => match truV x st with | some true => .ok x st | some false => mb env st | none => .stuck := (rfl)
@[simp] theorem mNot_eq (ma : Mx Va) : mNot ma env st = (ma env st).bind fun x st => match truV x st with | some b => .ok (.bl (!b)) st | none => .stuck := (rfl)
@[simp] theorem mNeg_eq (ma : Mx Va) : mNeg ma env st = (ma env st).bind fun x st => match intOf x with | some i => .ok (.int (-i)) st | none => .stuck := (rfl)
@[simp] theorem mTAnd_eq (ma mb : Mx Bool) : mTAnd ma mb env st = (ma env st).bind fun b st => if b = true then mb env st else .ok false st := (rfl)
@[simp] theorem mTOr_eq (ma mb : Mx Bool) : mTOr ma mb env st = (ma env st).bind fun b st => if b = true then .ok true st else mb env st := (rfl)
@[simp] theorem mTNot_eq (ma : Mx Bool) : mTNot ma env st = (ma env st).bind fun b st => .ok (!b) st := (rfl)
@[simp] theorem mIsi_eq (c : String) (ma : Mx Va) : mIsi c ma env st = (ma env st).bind fun x st => isiV c [x] st := (rfl)
@[simp] theorem mIt_eq (m : Mx Va) : mIt m env st = (m env st).bind itV := (rfl)
@[simp] theorem mRng_eq (m : Mx (List Va)) : mRng m env st = (m env st).bind rngV := (rfl)
@[simp] theorem mEnum_eq (m : Mx (List Va)) : mEnum m env st = (m env st).bind enumV := (rfl)
@[simp] theorem mNo_eq : mNo env st = .ok none st := (rfl)
@[simp] theorem mPart_eq (m : Mx Va) : mPart m env st = (m env st).bind fun w st => match intOf w with | some i => .ok (some i) st | none => .stuck := (rfl)
@[simp] theorem mSlice_eq (m : Bool) (ma : Mx Va) (ml mh : Mx (Option Int)) : mSlice m ma ml mh env st = (ma env st).bind fun x st => (ml env st).bind fun lo st => (mh env st).bind fun hi st => sliceV m x lo hi st := (rfl)
@[simp] theorem mMth_eq (T : String) (g : Va → List Va → Sto → R Va) (mo : Mx Va) (ml : Mx (List Va)) : mMth T g mo ml env st = (mo env st).bind fun x st => if tyB T x st then (ml env st).bind fun l st => g x l st else .stuck := (rfl)
@[simp] theorem mChain_eq (g g' : Va → Va → Sto → R Va) (ma mb mc : Mx Va) : mChain g g' ma mb mc env st = (ma env st).bind fun x st => (mb env st).bind fun y st => (g x y st).bind fun z st => match blOf z with | none => .stuck | some false => .ok (.bl false) st | some true => (mc env st).bind fun w st => g' y w st := (rfl)
theorem mLc_eq (m : Bool) (vs : List Nat) (tg : Tg) (mi : Mx (List Va × Gd)) (mc : Mx Bool) (me : Mx Va) : mLc m vs tg mi mc me env st = (mi env st).bind fun wg st => (lcRun tg mc me wg.2 (wipeE env vs) wg.1 [] st).bind fun l st => mkL m l st := rfl

@[simp] theorem intOf_int (i : Int) : intOf (.int i) = some i := (rfl)
@[simp] theorem intOf_str (i : Tx) : intOf (.str i) = none := (rfl)
@[simp] theorem intOf_bl (i : Bool) : intOf (.bl i) = none := (rfl)
@[simp] theorem intOf_non : intOf .non = none := (rfl)
@[simp] theorem intOf_tup (i : List Va) : intOf (.tup i) = none := (rfl)
@[simp] theorem intOf_lst (i : List Va) : intOf (.lst i) = none := (rfl)
@[simp] theorem intOf_scr (i : List Va) : intOf (.scr i) = none := (rfl)
@[simp] theorem intOf_ref (i : Nat) : intOf (.ref i) = none := (rfl)
@[simp] theorem strOf_int (i : Int) : strOf (.int i) = none := (rfl)
@[simp] theorem strOf_str (i : Tx) : strOf (.str i) = some i := (rfl)
@[simp] theorem strOf_bl (i : Bool) : strOf (.bl i) = none := (rfl)
@[simp] theorem strOf_non : strOf .non = none := (rfl)
@[simp] theorem strOf_tup (i : List Va) : strOf (.tup i) = none := (rfl)
@[simp] theorem strOf_lst (i : List Va) : strOf (.lst i) = none := (rfl)
@[simp] theorem strOf_scr (i : List Va) : strOf (.scr i) = none := (rfl)
@[simp] theorem strOf_ref (i : Nat) : strOf (.ref i) = none := (rfl)
@[simp] theorem tupOf_int (i : Int) : tupOf (.int i) = none := (rfl)
@[simp] theorem tupOf_str (i : Tx) : tupOf (.str i) = none := (rfl)
@[simp] theorem tupOf_tup (i : List Va) : tupOf (.tup i) = some i := (rfl)
@[simp] theorem tupOf_lst (i : List Va) : tupOf (.lst i) = none := (rfl)
@[simp] theorem tupOf_scr (i : List Va) : tupOf (.scr i) = none := (rfl)
@[simp] theorem tupOf_ref (i : Nat) : tupOf (.ref i) = none := (rfl)
@[simp] theorem blOf_bl (i : Bool) : blOf (.bl i) = some i := (rfl)
@[simp] theorem lstOf_lst (i : List Va) : lstOf (.lst i) st = some i := (rfl)
@[simp] theorem lstOf_tup (i : List Va) : lstOf (.tup i) st = none := (rfl)
@[simp] theorem lstOf_str (i : Tx) : lstOf (.str i) st = none := (rfl)
@[simp] theorem lstOf_scr (i : List Va) : lstOf (.scr i) st = none := (rfl)
theorem lstOf_ref {p : Nat} {l : List Va} (h : st[p]? = some (some (.lst l))) : lstOf (.ref p) st = some l := by simp [lstOf, h]
@[simp] theorem dicOf_lst (i : List Va) : dicOf (.lst i) st = none := (rfl)
@[simp] theorem dicOf_tup (i : List Va) : dicOf (.tup i) st = none := (rfl)
@[simp] theorem dicOf_str (i : Tx) : dicOf (.str i) st = none := (rfl)
@[simp] theorem dicOf_int (i : Int) : dicOf (.int i) st = none := (rfl)
@[simp] theorem dicOf_scr (i : List Va) : dicOf (.scr i) st = none := (rfl)
@[simp] theorem dicOf_dic (k : List Ky) (i : List Va) : dicOf (.dic k i) st = some (k, i) := (rfl)
@[simp] theorem seqOf_lst (i : List Va) : seqOf (.lst i) st = some i := (rfl)
@[simp] theorem seqOf_tup (i : List Va) : seqOf (.tup i) st = some i := (rfl)
@[simp] theorem seqOf_scr (i : List Va) : seqOf (.scr i) st = some i := (rfl)
theorem seqOf_ref {p : Nat} {l : List Va} (h : st[p]? = some (some (.lst l))) : seqOf (.ref p) st = some l := lstOf_ref h
@[simp] theorem addV_int (m : Bool) (i j : Int) : addV m (.int i) (.int j) st = .ok (.int (i + j)) st := (rfl)
theorem addV_str {m : Bool} {i j : Tx} (h : i.length + j.length ≤ sizeLine) : addV m (.str i) (.str j) st = .ok (.str (i ++ j)) st := by simp [addV, h]
theorem mkT_val {l : List Va} (h : l.length ≤ sizeLine) : mkT l st = .ok (.tup l) st := by unfold mkT; rw [if_pos h]
theorem mkL_val {l : List Va} (h : l.length ≤ sizeLine) : mkL false l st = .ok (.lst l) st := by unfold mkL; rw [if_pos h]; rfl
theorem mkL_ref {l : List Va} (h : l.length ≤ sizeLine) : mkL true l st = .ok (.ref st.length) (st ++ [some (.lst l)]) := by unfold mkL; rw [if_pos h]; rfl
theorem addV_lst {m : Bool} {x y : Va} {a b : List Va} (hx : lstOf x st = some a) (hy : lstOf y st = some b) : addV m x y st = mkL m (a ++ b) st := by
  have q : ∀ {z : Va} {l : List Va}, lstOf z st = some l → intOf z = none ∧ strOf z = none ∧ tupOf z = none := fun {z l} h => by
    cases z <;> simp [lstOf, intOf, strOf, tupOf] at h ⊢
  obtain ⟨q1, q2, q3⟩ := q hx
  unfold addV
  rw [q1, q2, q3, hx, hy]
theorem addV_tup {m : Bool} {a b : List Va} : addV m (.tup a) (.tup b) st = mkT (a ++ b) st := rfl
@[simp] theorem subV_int (i j : Int) : subV (.int i) (.int j) st = .ok (.int (i - j)) st := (rfl)
theorem fdivV_int {i j : Int} (h : j ≠ 0) (h2 : j.natAbs < 1073741824) : fdivV (.int i) (.int j) st = .ok (.int (i.fdiv j)) st := by simp [fdivV, intV, divOk, h, h2]
theorem modV_int {i j : Int} (h : j ≠ 0) : modV (.int i) (.int j) st = .ok (.int (i.fmod j)) st := by simp [modV, intV, h]
theorem mulV_int {m : Bool} {i j : Int} (h : (small64 i || small64 j) = true) : mulV m (.int i) (.int j) st = .ok (.int (i * j)) st := by simp only [mulV, intOf_int, h, if_true]
@[simp] theorem cmpV_int (g : Int → Int → Bool) (i j : Int) : cmpV g (.int i) (.int j) st = .ok (.bl (g i j)) st := (rfl)
theorem ixV_int {x : Va} {l : List Va} {w : Va} {i : Nat} (hs : seqOf x st = some l) (hw : l[i]? = some w) : ixV x (.int (i : Nat)) st = .ok w st := by
  have h1 : dicOf x st = none ∧ strOf x = none := by
    cases x <;> simp [seqOf, lstOf, dicOf, strOf] at hs ⊢
    split at hs <;> simp_all
  unfold ixV
  rw [h1.1]
  simp only [intOf_int, h1.2, hs, atI_nat hw]
theorem ixV_lit {x : Va} {l : List Va} {w : Va} {i : Nat} (hs : seqOf x st = some l) (hw : l[i]? = some w) {k : Int} (hk : k = (i : Nat)) : ixV x (.int k) st = .ok w st := by subst hk; exact ixV_int hs hw
theorem ixV_str {x : Tx} {c : Nat} {i : Nat} (hs : x.length ≤ sizeLine) (hw : x[i]? = some c) {k : Int} (hk : k = (i : Nat)) : ixV (.str x) (.int k) st = .ok (.str [c]) st := by
  subst hk
  unfold ixV
  simp only [dicOf_str, intOf_int, strOf_str, atI_nat hw, hs, if_true]
@[simp] theorem truV_non : truV .non st = some false := (rfl)
@[simp] theorem truV_bl (b : Bool) : truV (.bl b) st = some b := (rfl)
@[simp] theorem truV_int (i : Int) : truV (.int i) st = some (i != 0) := (rfl)
@[simp] theorem truV_tup (l : List Va) : truV (.tup l) st = some (!l.isEmpty) := (rfl)
@[simp] theorem truV_lst (l : List Va) : truV (.lst l) st = some (!l.isEmpty) := (rfl)
@[simp] theorem isNV_non (neg : Bool) (x : Va) : isNV neg x .non st = .ok (.bl (if neg then !isNon x else isNon x)) st := (rfl)
theorem lenV_str {z : Tx} (h : z.length ≤ sizeLine) : lenV [.str z] st = .ok (.int z.length) st := by simp [lenV, h]
theorem lenV_seq {x : Va} {l : List Va} (h : seqOf x st = some l) : lenV [x] st = .ok (.int l.length) st := by
  have h1 : strOf x = none := by cases x <;> simp [seqOf, lstOf, strOf] at h ⊢
  simp [lenV, h1, h]
@[simp] theorem lenV_lst (l : List Va) : lenV [.lst l] st = .ok (.int l.length) st := lenV_seq rfl
@[simp] theorem lenV_tup (l : List Va) : lenV [.tup l] st = .ok (.int l.length) st := lenV_seq rfl
@[simp] theorem lenV_scr (l : List Va) : lenV [.scr l] st = .ok (.int l.length) st := lenV_seq rfl
theorem tupleV_lst {x : Va} {l : List Va} (h : lstOf x st = some l) : tupleV [x] st = mkT l st := by
  have h1 : tupOf x = none := by cases x <;> simp [lstOf, tupOf] at h ⊢
  simp [tupleV, h1, h]
@[simp] theorem tupleV_tup (l : List Va) : tupleV [.tup l] st = .ok (.tup l) st := (rfl)
theorem isi_of {c t : String} {x : Va} {b : Bool} (h : tyNm x st = some t) (hb : kitB t c = some b) : isiV c [x] st = .ok (.bl b) st := by simp [isiV, h, hb]
theorem append_ok {p : Nat} {l : List Va} {y : Va} (h : st[p]? = some (some (.lst l))) (hl : l.length < sizeLine) : appendV (.ref p) [y] st = .ok .non (st.set p (some (.lst (l ++ [y])))) := by simp [appendV, h, hl]
theorem tyB_ref {p : Nat} {l : List Va} (h : st[p]? = some (some (.lst l))) : tyB "list" (.ref p) st = true := by simp [tyB, lstOf_ref h]
@[simp] theorem tyB_str (z : Tx) : tyB "str" (.str z) st = true := by simp [tyB]
@[simp] theorem itV_lst (l : List Va) : itV (.lst l) st = .ok (l, none) st := (rfl)
@[simp] theorem itV_tup (l : List Va) : itV (.tup l) st = .ok (l, none) st := (rfl)
@[simp] theorem itV_scr (l : List Va) : itV (.scr l) st = .ok (l, none) st := (rfl)
@[simp] theorem itV_str (l : Tx) : itV (.str l) st = .ok (signs l, none) st := (rfl)
@[simp] theorem gdB_none : gdB none st = true := (rfl)
theorem rng1 {j : Int} (h : i62 j = true) : rngV [.int j] st = .ok (rints 0 j.toNat, none) st := by simp [rngV, h]
@[simp] theorem mmV_two (mx : Bool) (i j : Int) : mmV mx [.int i, .int j] st = .ok (.int (if mx then (if j > i then j else i) else (if j < i then j else i))) st := (rfl)
@[simp] theorem mmV_three (mx : Bool) (i j k : Int) : mmV mx [.int i, .int j, .int k] st = .ok (.int (if mx then (if k > (if j > i then j else i) then k else (if j > i then j else i)) else (if k < (if j < i then j else i) then k else (if j < i then j else i)))) st := (rfl)
theorem rng2 {i j : Int} (h : i62 i = true) (h2 : i62 j = true) : rngV [.int i, .int j] st = .ok (rints i (j - i).toNat, none) st := by simp [rngV, h, h2]
@[simp] theorem enumV_tup (l : List Va) : enumV [.tup l] st = .ok (numbered l, none) st := (rfl)
@[simp] theorem enumV_str (l : Tx) : enumV [.str l] st = .ok (numbered (signs l), none) st := (rfl)
@[simp] theorem enumV_lst (l : List Va) : enumV [.lst l] st = .ok (numbered l, none) st := (rfl)
theorem rints_get {lo : Int} {n i : Nat} {w : Va} (h : (rints lo n)[i]? = some w) : i < n ∧ w = .int (lo + i) := by
  unfold rints at h
  rw [List.getElem?_map] at h
  by_cases hi : i < n
  · rw [List.getElem?_range hi] at h
    cases h
    exact ⟨hi, rfl⟩
  · rw [List.getElem?_eq_none (by simpa using hi)] at h
    cases h
theorem rints_mem {lo : Int} {n : Nat} {w : Va} (h : w ∈ rints lo n) : ∃ i, i < n ∧ w = .int (lo + (i : Nat)) := by
  obtain ⟨i, e⟩ := List.mem_iff_getElem?.mp h
  exact ⟨i, rints_get e⟩
@[simp] theorem rints_length (lo : Int) (n : Nat) : (rints lo n).length = n := by simp [rints]
@[simp] theorem numbered_length (l : List Va) : (numbered l).length = l.length := by simp [numbered]
theorem fmod_at (i : Int) {n : Nat} (hn : 0 < n) : ∃ k : Nat, k < n ∧ i.fmod (n : Nat) = (k : Nat) := by
  have h1 := Int.emod_nonneg i (b := (n : Int)) (by omega)
  have h2 := Int.emod_lt_of_pos i (b := (n : Int)) (by omega)
  refine ⟨(i % (n : Int)).toNat, by omega, ?_⟩
  rw [Int.fmod_eq_emod_of_nonneg _ (by omega)]
  omega
/-- one of a list, by a rest -/
theorem ixV_pick {x : Va} {l : List Va} {i j : Int} {n : Nat} (hs : seqOf x st = some l) (hl : l.length = n) (hn : 0 < n) (hj : j = (n : Nat)) : ∃ w, w ∈ l ∧ ixV x (.int (i.fmod j)) st = .ok w st := by
  subst hj
  obtain ⟨k, hk, e⟩ := fmod_at i hn
  obtain ⟨w, hw⟩ : ∃ w, l[k]? = some w := ⟨_, List.getElem?_eq_getElem (by omega)⟩
  refine ⟨w, List.mem_of_getElem? hw, ?_⟩
  rw [e]
  exact ixV_int hs hw
@[simp] theorem ret_str (z : Tx) (s : Sto) : retV (.str z) s = .ok (.str z) [] := ret_free rfl
@[simp] theorem ret_int (z : Int) (s : Sto) : retV (.int z) s = .ok (.int z) [] := ret_free rfl
@[simp] theorem ret_bl (z : Bool) (s : Sto) : retV (.bl z) s = .ok (.bl z) [] := ret_free rfl
@[simp] theorem ret_non (s : Sto) : retV .non s = .ok .non [] := ret_free rfl
theorem powV_int {i j : Int} (h : powOk i j = true) : powV (.int i) (.int j) st = .ok (.int (i ^ j.toNat)) st := by simp only [powV, intV, intOf_int, h, if_true]
theorem runD_of {d : Df} {ws : List Va} {w : Va} {s : Sto} (P : Va → Sto → Prop) (e0 : Ev) (he : ws.map some ++ List.replicate (d.N.length - ws.length) none = e0) (hn : ws.length = d.np) (hp : ∀ v s', P v s' → retV v s' = .ok w s) (h : ∀ Q : Po, (∀ v s, P v s → Q.rt v s) → wp Q (ex L d.body e0 [])) : runD L d ws = .ok w s := by
  subst he
  have h := h { rt := P } fun _ _ h => h
  exact runD_ok hn (wp_mono h (fun _ _ h => h.elim) (fun _ _ h => h.elim) hp (fun _ _ _ h => h.elim))
theorem runD_ex {d : Df} {ws : List Va} {s : Sto} {R : Va → Prop} (e0 : Ev) (he : ws.map some ++ List.replicate (d.N.length - ws.length) none = e0) (hn : ws.length = d.np) (h : ∀ Q : Po, (∀ v s' w, R w → retV v s' = .ok w s → Q.rt v s') → wp Q (ex L d.body e0 [])) : ∃ w, R w ∧ runD L d ws = .ok w s := by
  subst he
  have h := h { rt := fun v s' => ∃ w, R w ∧ retV v s' = .ok w s } fun v s' w r e => ⟨w, r, e⟩
  rw [wp_eq] at h
  unfold runD runB
  rw [if_pos hn]
  cases e : ex L d.body (ws.map some ++ List.replicate (d.N.length - ws.length) none) [] with
  | nx env st => rw [e] at h; exact h.elim
  | ct env st => rw [e] at h; exact h.elim
  | rt v st => rw [e] at h; exact h
  | err x env st => rw [e] at h; exact h.elim
  | stuck => rw [e] at h; exact h.elim
theorem frees_map {α : Type} {f : α → Va} {l : List α} (h : ∀ x, free (f x) = true) : frees (l.map f) = true := frees_of fun x hx => by
  obtain ⟨y, _, rfl⟩ := List.mem_map.mp hx
  exact h y
theorem dats_map {α : Type} {f : α → Va} {n : Nat} {l : List α} (h : ∀ x, dat n (f x) = true) : dats n (l.map f) = true := dats_of fun x hx => by
  obtain ⟨y, _, rfl⟩ := List.mem_map.mp hx
  exact h y
theorem mLc_all {m : Bool} {vs : List Nat} {tg : Tg} {mi : Mx (List Va × Gd)} {mc : Mx Bool} {me : Mx Va} {env1 : Ev} {gd : Gd} (ws : List Va) (f : Va → Va) (hi : mi env st = .ok (ws, gd) st) (hg : gdB gd st = true) (he : wipeE env vs = env1)
    (h : ∀ w ∈ ws, ∃ env2, tgV tg w env1 st = some env2 ∧ mc env2 st = .ok true st ∧ me env2 st = .ok (f w) st) : mLc m vs tg mi mc me env st = mkL m (ws.map f) st := by
  subst he
  rw [mLc_eq, hi, R.bind_ok, lc_all f hg h, R.bind_ok, List.nil_append]
theorem mLc_rng {m : Bool} {vs : List Nat} {tg : Tg} {mi : Mx (List Va × Gd)} {mc : Mx Bool} {me : Mx Va} {env1 : Ev} (n : Nat) (g : Nat → Va) (hi : mi env st = .ok (rints 0 n, none) st) (he : wipeE env vs = env1)
    (h : ∀ i, i < n → ∃ env2, tgV tg (.int (i : Nat)) env1 st = some env2 ∧ mc env2 st = .ok true st ∧ me env2 st = .ok (g i) st) : mLc m vs tg mi mc me env st = mkL m ((List.range n).map g) st := by
  rw [mLc_all (gd := none) (rints 0 n) (fun w => match w with | .int j => g j.toNat | _ => .non) hi rfl he fun w hw => ?_]
  · unfold rints
    rw [List.map_map]
    congr 1
    apply List.map_congr_left
    intro i _
    show g ((0 : Int) + (i : Nat)).toNat = g i
    congr 1
    omega
  · obtain ⟨i, hi, rfl⟩ := rints_mem hw
    rw [Int.zero_add]
    exact h i hi
@[simp] theorem eqV_ints (neg : Bool) (a b : Int) : G.eqV neg (.int a) (.int b) st = .ok (.bl (if neg then !decide (a = b) else decide (a = b))) st := by rw [eqV_dat (by simp) (by simp), eqd_int]
@[simp] theorem eqV_strs (neg : Bool) (a b : Tx) : G.eqV neg (.str a) (.str b) st = .ok (.bl (if neg then !decide (a = b) else decide (a = b))) st := by rw [eqV_dat (by simp) (by simp), eqd_str]
@[simp] theorem eqV_bls (neg : Bool) (a b : Bool) : G.eqV neg (.bl a) (.bl b) st = .ok (.bl (if neg then !(a == b) else (a == b))) st := by rw [eqV_dat (by simp) (by simp), eqd_bl]
@[simp] theorem ix_tup0 (w : Va) (r : List Va) : ixV (.tup (w :: r)) (.int 0) st = .ok w st := ixV_lit (i := 0) rfl rfl rfl
@[simp] theorem ix_tup1 (w w1 : Va) (r : List Va) : ixV (.tup (w :: w1 :: r)) (.int 1) st = .ok w1 st := ixV_lit (i := 1) rfl rfl rfl
@[simp] theorem ix_tup2 (w w1 w2 : Va) (r : List Va) : ixV (.tup (w :: w1 :: w2 :: r)) (.int 2) st = .ok w2 st := ixV_lit (i := 2) rfl rfl rfl
@[simp] theorem ix_tup3 (w w1 w2 w3 : Va) (r : List Va) : ixV (.tup (w :: w1 :: w2 :: w3 :: r)) (.int 3) st = .ok w3 st := ixV_lit (i := 3) rfl rfl rfl
@[simp] theorem ix_lst0 (w : Va) (r : List Va) : ixV (.lst (w :: r)) (.int 0) st = .ok w st := ixV_lit (i := 0) rfl rfl rfl
@[simp] theorem ix_lst1 (w w1 : Va) (r : List Va) : ixV (.lst (w :: w1 :: r)) (.int 1) st = .ok w1 st := ixV_lit (i := 1) rfl rfl rfl
@[simp] theorem ix_lst2 (w w1 w2 : Va) (r : List Va) : ixV (.lst (w :: w1 :: w2 :: r)) (.int 2) st = .ok w2 st := ixV_lit (i := 2) rfl rfl rfl
theorem isi_list_lst (l : List Va) : isiV "list" [.lst l] st = .ok (.bl true) st := isi_of rfl (by decide +kernel)
theorem append0 {l : List Va} {y : Va} {s : Sto} (hl : l.length < sizeLine) : appendV (.ref 0) [y] (some (.lst l) :: s) = .ok .non (some (.lst (l ++ [y])) :: s) := by rw [append_ok rfl hl]; rfl
@[simp] theorem addV_ll (m : Bool) (a b : List Va) : addV m (.lst a) (.lst b) st = mkL m (a ++ b) st := addV_lst rfl rfl
theorem app_new {s : Sto} {x : Option Ob} : (s ++ [x])[s.length]? = some x := by simp
@[simp] theorem toIntV_int (i : Int) : toIntV [.int i] st = .ok (.int i) st := (rfl)
theorem pow_any : ∃ g : Int, ∀ st : Sto, powD (.int 10) (.int 18) st = .ok (.int g) st := by
  have h : powOk 10 18 = true := by decide +kernel
  refine Exists.intro ((10 : Int) ^ (18 : Int).toNat) fun st => ?_
  unfold powD
  exact powV_int h
/-! ### own classes -/
@[simp] theorem ev_callI (L : Lm) (f : Str) (l : T) : ev L (.callI f l) = mke (mFn (L.fi f) (ev L l).l) := (rfl)
def mcallW (φ : Fi) (C m : Str) (x : Va) (env : Ev) (ml : Mx (List Va)) (st : Sto) : R Va := match insOf x st with
  | some (_, c, fs) => if c = C.cps.toList ∧ fs.lookup m.cps.toList = none then (ml env st).bind fun ws st => φ (x :: ws) st else .stuck
  | none => .stuck
@[simp] theorem ev_mcall (L : Lm) (q C m : Str) (o l : T) : ev L (.mcall q C m o l) = mke (mMcall (L.fi q) C m (ev L o).e (ev L l).l) := (rfl)
@[simp] theorem mMcall_eq {φ : Fi} {C m : Str} {mo : Mx Va} {ml : Mx (List Va)} : mMcall φ C m mo ml env st = (mo env st).bind fun x st => mcallW φ C m x env ml st := (rfl)
theorem mcallW_ref {φ : Fi} {C m : Str} {p : Nat} {c : Tx} {fs : List (Tx × Va)} {ml : Mx (List Va)} (h : st[p]? = some (some (.ins c fs))) (hc : c = C.cps.toList) (hm : fs.lookup m.cps.toList = none) : mcallW φ C m (.ref p) env ml st = (ml env st).bind fun ws st => φ (.ref p :: ws) st := by
  unfold mcallW insOf
  simp only [h, hc, hm, and_self, if_true]
def mkCW (φ : Fi) (C : Str) (ws : List Va) (st : Sto) : R Va := match φ (.ref st.length :: ws) (st ++ [some (.ins C.cps.toList [])]) with
  | .ok .non st' => .ok (.ref st.length) st'
  | .err x st' => .err x st'
  | _ => .stuck
@[simp] theorem ev_mkC (L : Lm) (q C : Str) (l : T) : ev L (.mkC q C l) = mke (mMkC (L.fi q) C (ev L l).l) := (rfl)
@[simp] theorem mMkC_eq {φ : Fi} {C : Str} {ml : Mx (List Va)} : mMkC φ C ml env st = (ml env st).bind (mkCW φ C) := (rfl)
theorem mkCW_ok {φ : Fi} {C : Str} {ws : List Va} {st' : Sto} (h : φ (.ref st.length :: ws) (st ++ [some (.ins C.cps.toList [])]) = .ok .non st') : mkCW φ C ws st = .ok (.ref st.length) st' := by unfold mkCW; rw [h]
def fldV (ok : Tx → Str → Bool) (f : Str) (x : Va) (st : Sto) : R Va := match insOf x st with
  | some (_, c, fs) => if ok c f = true then (match fs.lookup f.cps.toList with
    | some w => .ok w st
    | none => .stuck) else .stuck
  | none => .stuck
@[simp] theorem ev_fld (L : Lm) (o : T) (f : Str) : ev L (.fld o f) = mke (mFld L.xs.ofl f (ev L o).e) := (rfl)
@[simp] theorem mFld_eq {ok : Tx → Str → Bool} {f : Str} {mo : Mx Va} : mFld ok f mo env st = (mo env st).bind (fldV ok f) := (rfl)
theorem fldV_ref {ok : Tx → Str → Bool} {f : Str} {p : Nat} {c : Tx} {fs : List (Tx × Va)} {w : Va} (h : st[p]? = some (some (.ins c fs))) (hk : ok c f = true) (hl : fs.lookup f.cps.toList = some w) : fldV ok f (.ref p) st = .ok w st := by
  unfold fldV insOf
  simp only [h, hk, hl, if_true]
@[simp] theorem ev_mmD (L : Lm) (mx : Bool) (a d : T) : ev L (.mmD mx a d) = mke (mBst mx (ev L a).e (ev L d).e) := (rfl)
@[simp] theorem mBst_eq {mx : Bool} {ma md : Mx Va} : mBst mx ma md env st = (ma env st).bind fun x st => (md env st).bind fun d st => bstV mx x d st := (rfl)
@[simp] theorem ev_kin (L : Lm) (neg : Bool) (x : T) (k : Str) : ev L (.kin neg x k) = mk (mKin (L.xs.kd k) neg (ev L x).e) (mTst (mKin (L.xs.kd k) neg (ev L x).e)) := (rfl)
@[simp] theorem ev_kix (L : Lm) (x : T) (k : Str) : ev L (.kix k x) = mke (mKix (L.xs.kd k) (ev L x).e) := (rfl)
theorem mKin_eq {l : List (Tx × Va)} {neg : Bool} {me : Mx Va} : mKin (some l) neg me env st = (me env st).bind (kinV l neg) := (rfl)
theorem mKix_eq {l : List (Tx × Va)} {me : Mx Va} : mKix (some l) me env st = (me env st).bind (kixV l) := (rfl)
@[simp] theorem ex_setF (L : Lm) (o : T) (f : Str) (e : T) : ex L (.setF o f e) = mSetF L.xs.ofl f (ev L o).e (ev L e).e := (rfl)
@[simp] theorem ex_augF (L : Lm) (o : T) (f : Str) (s : Bool) (e : T) : ex L (.augF o f s e) = mAugF L.xs.ofl f s (ev L o).e (ev L e).e := (rfl)
def setFW (ok : Tx → Str → Bool) (f : Str) (o v : Va) (env : Ev) (st : Sto) : RS := match setFV ok f o v st with
  | some st => .nx env st
  | none => .stuck
@[simp] theorem mSetF_eq {ok : Tx → Str → Bool} {f : Str} {mo me : Mx Va} : mSetF ok f mo me env st = bindE (me env st) env fun v st => bindE (mo env st) env fun o st => setFW ok f o v env st := (rfl)
theorem setFW_ref {ok : Tx → Str → Bool} {f : Str} {p : Nat} {c : Tx} {fs : List (Tx × Va)} {v : Va} (h : st[p]? = some (some (.ins c fs))) (hk : ok c f = true) (hl : fs.length < 900) : setFW ok f (.ref p) v env st = .nx env (st.set p (some (.ins c (putT f.cps.toList v fs)))) := by
  unfold setFW setFV insOf
  simp only [h, hk, hl, and_self, if_true]
def augFW (ok : Tx → Str → Bool) (f : Str) (sub : Bool) (o : Va) (env : Ev) (me : Mx Va) (st : Sto) : RS := match insOf o st with
  | some (_, c, fs) => if ok c f = true then (match fs.lookup f.cps.toList with
    | some (.int a) => bindE (me env st) env fun y st => match intOf y with
      | some b => if (insOf o st).map (·.2.1) = some c then (match setFV ok f o (.int (if sub then a - b else a + b)) st with
        | some st => .nx env st
        | none => .stuck) else .stuck
      | none => .stuck
    | _ => .stuck) else .stuck
  | none => .stuck
@[simp] theorem mAugF_eq {ok : Tx → Str → Bool} {f : Str} {sub : Bool} {mo me : Mx Va} : mAugF ok f sub mo me env st = bindE (mo env st) env fun o st => augFW ok f sub o env me st := (rfl)
theorem augFW_ref {ok : Tx → Str → Bool} {f : Str} {sub : Bool} {p : Nat} {c : Tx} {fs : List (Tx × Va)} {a b : Int} {me : Mx Va} (h : st[p]? = some (some (.ins c fs))) (hk : ok c f = true) (hl : fs.length < 900) (hf : fs.lookup f.cps.toList = some (.int a)) (he : me env st = .ok (.int b) st) :
    augFW ok f sub (.ref p) env me st = .nx env (st.set p (some (.ins c (putT f.cps.toList (.int (if sub then a - b else a + b)) fs)))) := by
  unfold augFW setFV insOf
  simp only [h, hk, hl, hf, he, and_self, if_true, bindE_ok, intOf_int, Option.map_some]
/-- a run of a def that sees the caller's store -/
theorem runI_any {d : Df} {ws : List Va} (r : R Va) (e0 : Ev) (he : ws.map some ++ List.replicate (d.N.length - ws.length) none = e0) (hn : ws.length = d.np)
    (h : ∀ Q : Po, (∀ e s, r = .ok .non s → Q.nx e s) → (∀ v s, r = .ok v s → Q.rt v s) → (∀ x e s, r = .err x s → Q.err x e s) → wp Q (ex L d.body e0 st)) : runI L d ws st = r := by
  subst he
  have h := h { nx := fun _ s => r = .ok .non s, rt := fun v s => r = .ok v s, err := fun x _ s => r = .err x s } (fun _ _ h => h) (fun _ _ h => h) (fun _ _ _ h => h)
  rw [wp_eq] at h
  unfold runI
  rw [if_pos hn]
  cases e : ex L d.body (ws.map some ++ List.replicate (d.N.length - ws.length) none) st with
  | nx env st => rw [e] at h; exact Eq.symm h
  | ct env st => rw [e] at h; exact h.elim
  | rt v st => rw [e] at h; exact Eq.symm h
  | err x env st => rw [e] at h; exact Eq.symm h
  | stuck => rw [e] at h; exact h.elim
end
end G

set_option Elab.async false
set_option linter.all false
set_option maxRecDepth 100000
set_option maxHeartbeats 8000000
/-! the words of law_k84_bad_patches, printed by gen.py -/
namespace K84_BAD_PATCHES
open PySem PySem.Spec PyProof.Rows L2 G
def S_number_of : S :=
  (.seq (.sif (.or (.cons (.not (.mth .isdigit (.var 0) .nil)) (.cons (.cmp .gt (.bif .len false (.cons (.var 0) .nil)) (.glob "DIGITS_MOST")) (.cons (.and (.cons (.cmp .eq (.ix (.var 0) (.int 0)) (.str [48])) (.cons (.cmp .ne (.var 0) (.str [48])) .nil))) .nil))))
  (.seq (.ret .non)
  .nil)
  .nil)
  (.seq (.ret (.bif .int false (.cons (.var 0) .nil)))
  .nil))
def D_number_of : Df := ⟨["word"], 1, S_number_of⟩
def S_read_count : S :=
  (.seq (.set (.inl 1) (.ife (.cmp .eq (.sl false (.var 0) .nil (.int 6)) (.str [101, 100, 105, 116, 115, 32])) (.call "number_of" false (.cons (.sl false (.var 0) (.int 6) .nil) .nil)) .non))
  (.seq (.sif (.or (.cons (.cmp .is_ (.var 1) .non) (.cons (.cmp .gt (.var 1) (.glob "LINES_MOST")) .nil)))
  (.seq (.raisI "BadPatch" (.cons (.int 1) (.cons (.str [99, 111, 117, 110, 116, 32, 105, 115, 32, 101, 120, 112, 101, 99, 116, 101, 100]) .nil)))
  .nil)
  .nil)
  (.seq (.ret (.var 1))
  .nil)))
def D_read_count : Df := ⟨["line", "count"], 1, S_read_count⟩
def S_PatchReader___init__ : S :=
  (.seq (.setF (.var 0) "count" (.var 1))
  (.seq (.setF (.var 0) "edits" (.dnew true))
  (.seq (.setF (.var 0) "at" (.neg (.int 1)))
  (.seq (.setF (.var 0) "rank" (.neg (.int 1)))
  (.seq (.setF (.var 0) "number" (.int 1))
  .nil)))))
def D_PatchReader___init__ : Df := ⟨["self", "count"], 2, S_PatchReader___init__⟩
def S_PatchReader_stop : S :=
  (.seq (.raisI "BadPatch" (.cons (.fld (.var 0) "number") (.cons (.var 1) .nil)))
  .nil)
def D_PatchReader_stop : Df := ⟨["self", "what"], 2, S_PatchReader_stop⟩
def S_PatchReader_read_index : S :=
  (.seq (.set (.inl 2) (.ife (.cmp .eq (.sl false (.var 1) .nil (.int 2)) (.str [64, 32])) (.call "number_of" false (.cons (.sl false (.var 1) (.int 2) .nil) .nil)) .non))
  (.seq (.sif (.cmp .is_ (.var 2) .non)
  (.seq (.ret (.bl false))
  .nil)
  .nil)
  (.seq (.sif (.and (.cons (.cmp .ge (.fld (.var 0) "at") (.int 0)) (.cons (.cmp .lt (.fld (.var 0) "rank") (.int 0)) .nil)))
  (.seq (.expr (.mcall "PatchReader.stop" "PatchReader" "stop" (.var 0) (.cons (.str [110, 111, 116, 104, 105, 110, 103, 32, 105, 115, 32, 101, 100, 105, 116, 101, 100]) .nil)))
  .nil)
  .nil)
  (.seq (.sif (.cmp .le (.var 2) (.fld (.var 0) "at"))
  (.seq (.expr (.mcall "PatchReader.stop" "PatchReader" "stop" (.var 0) (.cons (.str [105, 110, 100, 101, 120, 32, 105, 115, 32, 110, 111, 116, 32, 97, 115, 99, 101, 110, 100, 105, 110, 103]) .nil)))
  .nil)
  .nil)
  (.seq (.sif (.cmp .ge (.var 2) (.fld (.var 0) "count"))
  (.seq (.expr (.mcall "PatchReader.stop" "PatchReader" "stop" (.var 0) (.cons (.str [105, 110, 100, 101, 120, 32, 105, 115, 32, 110, 111, 116, 32, 105, 110, 32, 116, 104, 101, 32, 108, 105, 115, 116]) .nil)))
  .nil)
  .nil)
  (.seq (.setF (.var 0) "at" (.var 2))
  (.seq (.setF (.var 0) "rank" (.neg (.int 1)))
  (.seq (.setIx (.fld (.var 0) "edits") (.var 2) (.tup (.cons (.lst true .nil) (.cons (.glob "KEEP") (.cons (.lst true .nil) .nil)))))
  (.seq (.ret (.bl true))
  .nil)))))))))
def D_PatchReader_read_index : Df := ⟨["self", "line", "at"], 2, S_PatchReader_read_index⟩
def S_PatchReader_read_part : S :=
  (.seq (.set (.inl 2) (.sl false (.var 1) .nil (.int 1)))
  (.seq (.sif (.or (.cons (.kin true (.var 2) "RANKS") (.cons (.and (.cons (.cmp .eq (.var 2) (.str [45])) (.cons (.cmp .ne (.var 1) (.str [45])) .nil))) .nil)))
  (.seq (.expr (.mcall "PatchReader.stop" "PatchReader" "stop" (.var 0) (.cons (.str [108, 105, 110, 101, 32, 105, 115, 32, 110, 111, 116, 32, 107, 110, 111, 119, 110]) .nil)))
  .nil)
  .nil)
  (.seq (.set (.inl 3) (.kix "RANKS" (.var 2)))
  (.seq (.sif (.or (.cons (.cmp .lt (.var 3) (.fld (.var 0) "rank")) (.cons (.and (.cons (.cmp .eq (.var 3) (.int 1)) (.cons (.cmp .eq (.fld (.var 0) "rank") (.int 1)) .nil))) .nil)))
  (.seq (.expr (.mcall "PatchReader.stop" "PatchReader" "stop" (.var 0) (.cons (.str [111, 114, 100, 101, 114, 32, 105, 115, 32, 119, 114, 111, 110, 103]) .nil)))
  .nil)
  .nil)
  (.seq (.setF (.var 0) "rank" (.var 3))
  (.seq (.set (.inr [4, 5, 6]) (.ix (.fld (.var 0) "edits") (.fld (.var 0) "at")))
  (.seq (.sif (.cmp .eq (.var 3) (.int 0))
  (.seq (.expr (.mth .append (.var 4) (.cons (.sl false (.var 1) (.int 1) .nil) .nil)))
  .nil)
  (.seq (.sif (.cmp .eq (.var 3) (.int 2))
  (.seq (.expr (.mth .append (.var 6) (.cons (.sl false (.var 1) (.int 1) .nil) .nil)))
  .nil)
  (.seq (.set (.inl 5) (.ife (.cmp .eq (.var 2) (.str [45])) (.glob "DROP") (.tup (.cons (.str [116, 101, 120, 116]) (.cons (.sl false (.var 1) (.int 1) .nil) .nil)))))
  (.seq (.setIx (.fld (.var 0) "edits") (.fld (.var 0) "at") (.tup (.cons (.var 4) (.cons (.var 5) (.cons (.var 6) .nil)))))
  .nil)))
  .nil))
  .nil)))))))
def D_PatchReader_read_part : Df := ⟨["self", "line", "sign", "rank", "ahead", "change", "behind"], 2, S_PatchReader_read_part⟩
def S_PatchReader_read_line : S :=
  (.seq (.augF (.var 0) "number" false (.int 1))
  (.seq (.sif (.not (.mcall "PatchReader.read_index" "PatchReader" "read_index" (.var 0) (.cons (.var 1) .nil)))
  (.seq (.sif (.cmp .lt (.fld (.var 0) "at") (.int 0))
  (.seq (.expr (.mcall "PatchReader.stop" "PatchReader" "stop" (.var 0) (.cons (.str [101, 100, 105, 116, 32, 105, 115, 32, 101, 120, 112, 101, 99, 116, 101, 100]) .nil)))
  .nil)
  .nil)
  (.seq (.expr (.mcall "PatchReader.read_part" "PatchReader" "read_part" (.var 0) (.cons (.var 1) .nil)))
  .nil))
  .nil)
  .nil))
def D_PatchReader_read_line : Df := ⟨["self", "line"], 2, S_PatchReader_read_line⟩
def S_PatchReader_finished : S :=
  (.seq (.sif (.and (.cons (.cmp .ge (.fld (.var 0) "at") (.int 0)) (.cons (.cmp .lt (.fld (.var 0) "rank") (.int 0)) .nil)))
  (.seq (.expr (.mcall "PatchReader.stop" "PatchReader" "stop" (.var 0) (.cons (.str [110, 111, 116, 104, 105, 110, 103, 32, 105, 115, 32, 101, 100, 105, 116, 101, 100]) .nil)))
  .nil)
  .nil)
  (.seq (.set (.inl 1) (.lst true .nil))
  (.seq (.sfor (.inl 2) (.irng (.cons (.fld (.var 0) "count") .nil))
  (.seq (.set (.inr [3, 4, 5]) (.mth .get (.fld (.var 0) "edits") (.cons (.var 2) (.cons (.tup (.cons (.tup .nil) (.cons (.glob "KEEP") (.cons (.tup .nil) .nil)))) .nil))))
  (.seq (.expr (.mth .append (.var 1) (.cons (.tup (.cons (.bif .tuple false (.cons (.var 3) .nil)) (.cons (.var 4) (.cons (.bif .tuple false (.cons (.var 5) .nil)) .nil)))) .nil)))
  .nil)))
  (.seq (.ret (.var 1))
  .nil))))
def D_PatchReader_finished : Df := ⟨["self", "found", "at", "ahead", "change", "behind"], 1, S_PatchReader_finished⟩
def S_read_patch : S :=
  (.seq (.set (.inl 1) (.mth .split (.var 0) (.cons (.str [10]) .nil)))
  (.seq (.set (.inl 2) (.mkC "PatchReader.__init__" "PatchReader" (.cons (.call "read_count" false (.cons (.ix (.var 1) (.int 0)) .nil)) .nil)))
  (.seq (.sfor (.inl 3) (.sl false (.var 1) (.int 1) .nil)
  (.seq (.expr (.mcall "PatchReader.read_line" "PatchReader" "read_line" (.var 2) (.cons (.var 3) .nil)))
  .nil))
  (.seq (.ret (.mcall "PatchReader.finished" "PatchReader" "finished" (.var 2) .nil))
  .nil))))
def D_read_patch : Df := ⟨["text", "lines", "reader", "line"], 1, S_read_patch⟩
def S__law_cell : S :=
  (.seq (.sif (.cmp .lt (.var 1) (.bif .len false (.cons (.var 0) .nil)))
  (.seq (.ret (.ix (.var 0) (.var 1)))
  .nil)
  .nil)
  (.seq (.ret (.int 0))
  .nil))
def D__law_cell : Df := ⟨["_law_script", "_law_k"], 2, S__law_cell⟩
def S__law_draws : S :=
  (.seq (.set (.inl 2) (.lst true .nil))
  (.seq (.set (.inl 3) (.cmp .ge (.var 0) (.bin .pow false (.int 10) (.int 18))))
  (.seq (.sfor (.inl 4) (.irng (.cons (.var 1) .nil))
  (.seq (.sif (.var 3)
  (.seq (.expr (.mth .append (.var 2) (.cons (.bin .mod false (.bif .int false (.cons (.var 0) .nil)) (.int 1009)) .nil)))
  (.seq (.set (.inl 0) (.bin .fdiv false (.var 0) (.int 1009)))
  .nil))
  (.seq (.set (.inl 5) (.bin .mod false (.bif .int false (.cons (.bin .add false (.bin .mul false (.var 0) (.int 48271)) (.bin .mul false (.var 4) (.int 69621))) .nil)) (.int 2147483647)))
  (.seq (.expr (.mth .append (.var 2) (.cons (.bin .mod false (.bif .int false (.cons (.bin .add false (.bin .add false (.bin .mul false (.var 5) (.var 5)) (.bin .mul false (.var 0) (.int 31))) (.var 4)) .nil)) (.int 1000003)) .nil)))
  .nil)))
  .nil))
  (.seq (.ret (.var 2))
  .nil))))
def D__law_draws : Df := ⟨["_law_cell_here", "_law_count", "_law_found", "_law_is_wide", "_law_k", "_law_mixed"], 2, S__law_draws⟩
def S__law_words : S :=
  (.seq (.ret (.ix (.lst false (.cons (.str [97]) (.cons (.str [98]) (.cons (.str []) (.cons (.str [99, 99]) (.cons (.str [32, 100]) (.cons (.str [64, 32, 49]) (.cons (.str [45]) (.cons (.str [43, 120]) (.cons (.str [94]) (.cons (.str [126, 121]) .nil))))))))))) (.bin .mod false (.var 0) (.int 10))))
  .nil)
def D__law_words : Df := ⟨["_law_draw"], 1, S__law_words⟩
def S__law_some_edit : S :=
  (.seq (.set (.inl 1) (.call "_law_draws" false (.cons (.var 0) (.cons (.int 8) .nil))))
  (.seq (.set (.inl 2) (.bin .mod false (.bif .int false (.cons (.ix (.var 1) (.int 0)) .nil)) (.int 9)))
  (.seq (.set (.inl 3) (.tup .nil))
  (.seq (.set (.inl 4) (.tup .nil))
  (.seq (.sif (.cmp .in_ (.var 2) (.tup (.cons (.int 3) (.cons (.int 6) .nil))))
  (.seq (.set (.inl 3) (.bif .tuple false (.cons (.lc false [6] (.inl 6) (.irng (.cons (.bin .add false (.int 1) (.bin .mod false (.bif .int false (.cons (.ix (.var 1) (.int 5)) .nil)) (.int 2))) .nil)) .nil (.call "_law_words" false (.cons (.bif .int false (.cons (.ix (.var 1) (.bin .add false (.var 6) (.int 1))) .nil)) .nil))) .nil)))
  .nil)
  .nil)
  (.seq (.sif (.cmp .in_ (.var 2) (.tup (.cons (.int 4) (.cons (.int 6) (.cons (.int 7) .nil)))))
  (.seq (.set (.inl 4) (.bif .tuple false (.cons (.lc false [6] (.inl 6) (.irng (.cons (.bin .add false (.int 1) (.bin .mod false (.bif .int false (.cons (.ix (.var 1) (.int 6)) .nil)) (.int 2))) .nil)) .nil (.call "_law_words" false (.cons (.bif .int false (.cons (.ix (.var 1) (.bin .add false (.var 6) (.int 3))) .nil)) .nil))) .nil)))
  .nil)
  .nil)
  (.seq (.set (.inl 5) (.ix (.lst false (.cons (.tup (.cons (.str [107, 101, 101, 112]) .nil)) (.cons (.tup (.cons (.str [100, 114, 111, 112]) .nil)) (.cons (.tup (.cons (.str [116, 101, 120, 116]) (.cons (.call "_law_words" false (.cons (.bif .int false (.cons (.ix (.var 1) (.int 7)) .nil)) .nil)) .nil))) (.cons (.tup (.cons (.str [107, 101, 101, 112]) .nil)) (.cons (.tup (.cons (.str [100, 114, 111, 112]) .nil)) .nil)))))) (.bin .mod false (.bin .fdiv false (.bif .int false (.cons (.ix (.var 1) (.int 7)) .nil)) (.int 10)) (.int 5))))
  (.seq (.ret (.tup (.cons (.var 3) (.cons (.ife (.cmp .in_ (.var 2) (.tup (.cons (.int 1) (.cons (.int 5) (.cons (.int 6) (.cons (.int 7) .nil)))))) (.var 5) (.tup (.cons (.str [107, 101, 101, 112]) .nil))) (.cons (.var 4) .nil)))))
  .nil))))))))
def D__law_some_edit : Df := ⟨["_law_cell_here", "_law_draws_here", "_law_kind", "_law_ahead", "_law_behind", "_law_change", "_law_k"], 1, S__law_some_edit⟩
def S__law_some_edits : S :=
  (.seq (.ret (.lc false [3] (.inl 3) (.irng (.cons (.var 2) .nil)) .nil (.call "_law_some_edit" false (.cons (.call "_law_cell" false (.cons (.var 0) (.cons (.bin .add false (.var 1) (.var 3)) .nil))) .nil))))
  .nil)
def D__law_some_edits : Df := ⟨["_law_script", "_law_start", "_law_many", "_law_k"], 3, S__law_some_edits⟩
def S__law_edited : S :=
  (.seq (.set (.inl 2) (.lst true .nil))
  (.seq (.sfor (.inl 3) (.irng (.cons (.bif .len false (.cons (.var 0) .nil)) .nil))
  (.seq (.set (.inl 2) (.bin .add true (.var 2) (.bif .list false (.cons (.ix (.ix (.var 1) (.var 3)) (.int 0)) .nil))))
  (.seq (.sif (.cmp .eq (.ix (.ix (.ix (.var 1) (.var 3)) (.int 1)) (.int 0)) (.str [107, 101, 101, 112]))
  (.seq (.expr (.mth .append (.var 2) (.cons (.ix (.var 0) (.var 3)) .nil)))
  .nil)
  .nil)
  (.seq (.sif (.cmp .eq (.ix (.ix (.ix (.var 1) (.var 3)) (.int 1)) (.int 0)) (.str [116, 101, 120, 116]))
  (.seq (.expr (.mth .append (.var 2) (.cons (.ix (.ix (.ix (.var 1) (.var 3)) (.int 1)) (.int 1)) .nil)))
  .nil)
  .nil)
  (.seq (.set (.inl 2) (.bin .add true (.var 2) (.bif .list false (.cons (.ix (.ix (.var 1) (.var 3)) (.int 2)) .nil))))
  .nil)))))
  (.seq (.ret (.var 2))
  .nil)))
def D__law_edited : Df := ⟨["_law_texts_here", "_law_edits_here", "_law_made", "_law_k"], 2, S__law_edited⟩
def S__law_texts : S :=
  (.seq (.ret (.lc false [3] (.inl 3) (.irng (.cons (.var 2) .nil)) .nil (.call "_law_words" false (.cons (.bin .fdiv false (.call "_law_cell" false (.cons (.var 0) (.cons (.bin .add false (.var 1) (.var 3)) .nil))) (.int 7)) .nil))))
  .nil)
def D__law_texts : Df := ⟨["_law_script", "_law_start", "_law_many", "_law_k"], 3, S__law_texts⟩
def S__law_are_edits : S :=
  (.seq (.sif (.or (.cons (.not (.isi "list" (.var 0))) (.cons (.cmp .ne (.bif .len false (.cons (.var 0) .nil)) (.var 1)) .nil)))
  (.seq (.ret (.bl false))
  .nil)
  .nil)
  (.seq (.sfor (.inl 2) (.var 0)
  (.seq (.sif (.or (.cons (.not (.isi "tuple" (.var 2))) (.cons (.cmp .ne (.bif .len false (.cons (.var 2) .nil)) (.int 3)) .nil)))
  (.seq (.ret (.bl false))
  .nil)
  .nil)
  (.seq (.sif (.or (.cons (.not (.isi "tuple" (.ix (.var 2) (.int 0)))) (.cons (.not (.isi "tuple" (.ix (.var 2) (.int 1)))) (.cons (.not (.isi "tuple" (.ix (.var 2) (.int 2)))) .nil))))
  (.seq (.ret (.bl false))
  .nil)
  .nil)
  .nil)))
  (.seq (.ret (.bl true))
  .nil)))
def D__law_are_edits : Df := ⟨["_law_edits_here", "_law_count", "_law_edit"], 2, S__law_are_edits⟩
def S__law_number : S :=
  (.seq (.sif (.or (.cons (.cmp .eq (.var 0) (.str [])) (.cons (.cmp .gt (.bif .len false (.cons (.var 0) .nil)) (.int 60)) (.cons (.and (.cons (.cmp .gt (.bif .len false (.cons (.var 0) .nil)) (.int 1)) (.cons (.cmp .eq (.ix (.var 0) (.int 0)) (.str [48])) .nil))) .nil))))
  (.seq (.ret (.neg (.int 1)))
  .nil)
  .nil)
  (.seq (.sfor (.inl 1) (.var 0)
  (.seq (.sif (.cmp .notIn (.var 1) (.str [48, 49, 50, 51, 52, 53, 54, 55, 56, 57]))
  (.seq (.ret (.neg (.int 1)))
  .nil)
  .nil)
  .nil))
  (.seq (.ret (.bif .int false (.cons (.var 0) .nil)))
  .nil)))
def D__law_number : Df := ⟨["_law_word", "_law_sign"], 1, S__law_number⟩
def S__law_line : S :=
  (.seq (.set (.inl 2) (.call "_law_draws" false (.cons (.var 0) (.cons (.int 4) .nil))))
  (.seq (.set (.inl 3) (.bin .mod false (.bif .int false (.cons (.ix (.var 2) (.int 0)) .nil)) (.int 16)))
  (.seq (.sif (.cmp .lt (.var 3) (.int 5))
  (.seq (.set (.inl 4) (.ife (.cmp .gt (.bin .mod false (.bif .int false (.cons (.ix (.var 2) (.int 2)) .nil)) (.int 7)) (.int 0)) (.bin .add false (.var 1) (.bin .mod false (.bif .int false (.cons (.ix (.var 2) (.int 1)) .nil)) (.int 3))) (.bin .mod false (.bif .int false (.cons (.ix (.var 2) (.int 1)) .nil)) (.int 12))))
  (.seq (.ret (.bin .add false (.str [64, 32]) (.bif .str false (.cons (.var 4) .nil))))
  .nil))
  .nil)
  (.seq (.sif (.cmp .eq (.var 3) (.int 14))
  (.seq (.ret (.ix (.lst false (.cons (.str []) (.cons (.str [120]) (.cons (.str [45, 120]) (.cons (.str [64]) (.cons (.str [64, 32, 48, 49]) (.cons (.str [64, 32, 45, 49]) (.cons (.str [64, 49]) (.cons (.bin .add false (.str [64, 32]) (.bin .mul false (.str [49]) (.int 60))) (.cons (.bin .add false (.str [64, 32]) (.bin .mul false (.str [49]) (.int 61))) (.cons (.str [32, 45]) .nil))))))))))) (.bin .mod false (.bif .int false (.cons (.ix (.var 2) (.int 1)) .nil)) (.int 10))))
  .nil)
  .nil)
  (.seq (.sif (.or (.cons (.cmp .eq (.var 3) (.int 5)) (.cons (.cmp .eq (.var 3) (.int 15)) .nil)))
  (.seq (.ret (.str [45]))
  .nil)
  .nil)
  (.seq (.ret (.bin .add false (.ix (.str [94, 126, 43]) (.bin .mod false (.var 3) (.int 3))) (.call "_law_words" false (.cons (.bif .int false (.cons (.ix (.var 2) (.int 1)) .nil)) .nil))))
  .nil))))))
def D__law_line : Df := ⟨["_law_cell_here", "_law_after", "_law_draws_here", "_law_kind", "_law_at"], 2, S__law_line⟩
def S__law_rank : S :=
  (.seq (.sif (.or (.cons (.cmp .eq (.var 0) (.str [45])) (.cons (.cmp .eq (.sl false (.var 0) .nil (.int 1)) (.str [126])) .nil)))
  (.seq (.ret (.int 1))
  .nil)
  .nil)
  (.seq (.ret (.ife (.cmp .eq (.sl false (.var 0) .nil (.int 1)) (.str [94])) (.int 0) (.ife (.cmp .eq (.sl false (.var 0) .nil (.int 1)) (.str [43])) (.int 2) (.neg (.int 1)))))
  .nil))
def D__law_rank : Df := ⟨["_law_line_here"], 1, S__law_rank⟩
def S__law_due : S :=
  (.seq (.set (.inl 1) (.ife (.cmp .eq (.sl false (.ix (.var 0) (.int 0)) .nil (.int 6)) (.str [101, 100, 105, 116, 115, 32])) (.call "_law_number" false (.cons (.sl false (.ix (.var 0) (.int 0)) (.int 6) .nil) .nil)) (.neg (.int 1))))
  (.seq (.sif (.or (.cons (.cmp .lt (.var 1) (.int 0)) (.cons (.cmp .gt (.var 1) (.int 2000)) .nil)))
  (.seq (.ret (.tup (.cons (.int 1) (.cons (.str [99, 111, 117, 110, 116, 32, 105, 115, 32, 101, 120, 112, 101, 99, 116, 101, 100]) .nil))))
  .nil)
  .nil)
  (.seq (.set (.inl 2) (.neg (.int 1)))
  (.seq (.set (.inl 3) (.neg (.int 1)))
  (.seq (.sfor (.inl 4) (.irng (.cons (.int 1) (.cons (.bif .len false (.cons (.var 0) .nil)) .nil)))
  (.seq (.set (.inl 5) (.ix (.var 0) (.var 4)))
  (.seq (.set (.inl 6) (.ife (.cmp .eq (.sl false (.var 5) .nil (.int 2)) (.str [64, 32])) (.call "_law_number" false (.cons (.sl false (.var 5) (.int 2) .nil) .nil)) (.neg (.int 1))))
  (.seq (.sif (.cmp .ge (.var 6) (.int 0))
  (.seq (.sif (.and (.cons (.cmp .ge (.var 2) (.int 0)) (.cons (.cmp .lt (.var 3) (.int 0)) .nil)))
  (.seq (.ret (.tup (.cons (.bin .add false (.var 4) (.int 1)) (.cons (.str [110, 111, 116, 104, 105, 110, 103, 32, 105, 115, 32, 101, 100, 105, 116, 101, 100]) .nil))))
  .nil)
  .nil)
  (.seq (.sif (.cmp .le (.var 6) (.var 2))
  (.seq (.ret (.tup (.cons (.bin .add false (.var 4) (.int 1)) (.cons (.str [105, 110, 100, 101, 120, 32, 105, 115, 32, 110, 111, 116, 32, 97, 115, 99, 101, 110, 100, 105, 110, 103]) .nil))))
  .nil)
  .nil)
  (.seq (.sif (.cmp .ge (.var 6) (.var 1))
  (.seq (.ret (.tup (.cons (.bin .add false (.var 4) (.int 1)) (.cons (.str [105, 110, 100, 101, 120, 32, 105, 115, 32, 110, 111, 116, 32, 105, 110, 32, 116, 104, 101, 32, 108, 105, 115, 116]) .nil))))
  .nil)
  .nil)
  (.seq (.set (.inl 2) (.var 6))
  (.seq (.set (.inl 3) (.neg (.int 1)))
  .nil)))))
  (.seq (.sif (.cmp .lt (.var 2) (.int 0))
  (.seq (.ret (.tup (.cons (.bin .add false (.var 4) (.int 1)) (.cons (.str [101, 100, 105, 116, 32, 105, 115, 32, 101, 120, 112, 101, 99, 116, 101, 100]) .nil))))
  .nil)
  (.seq (.set (.inl 7) (.call "_law_rank" false (.cons (.var 5) .nil)))
  (.seq (.sif (.cmp .lt (.var 7) (.int 0))
  (.seq (.ret (.tup (.cons (.bin .add false (.var 4) (.int 1)) (.cons (.str [108, 105, 110, 101, 32, 105, 115, 32, 110, 111, 116, 32, 107, 110, 111, 119, 110]) .nil))))
  .nil)
  .nil)
  (.seq (.sif (.or (.cons (.cmp .lt (.var 7) (.var 3)) (.cons (.and (.cons (.cmp .eq (.var 7) (.int 1)) (.cons (.cmp .eq (.var 3) (.int 1)) .nil))) .nil)))
  (.seq (.ret (.tup (.cons (.bin .add false (.var 4) (.int 1)) (.cons (.str [111, 114, 100, 101, 114, 32, 105, 115, 32, 119, 114, 111, 110, 103]) .nil))))
  .nil)
  .nil)
  (.seq (.set (.inl 3) (.var 7))
  .nil)))))
  .nil))
  .nil))))
  (.seq (.sif (.and (.cons (.cmp .ge (.var 2) (.int 0)) (.cons (.cmp .lt (.var 3) (.int 0)) .nil)))
  (.seq (.ret (.tup (.cons (.bif .len false (.cons (.var 0) .nil)) (.cons (.str [110, 111, 116, 104, 105, 110, 103, 32, 105, 115, 32, 101, 100, 105, 116, 101, 100]) .nil))))
  .nil)
  .nil)
  (.seq (.ret .non)
  .nil)))))))
def D__law_due : Df := ⟨["_law_lines", "_law_count", "_law_at", "_law_rank_here", "_law_k", "_law_line_here", "_law_index", "_law_here"], 1, S__law_due⟩
def S__law_edits : S :=
  (.seq (.set (.inl 1) (.lc true [5] (.inl 5) (.irng (.cons (.bif .int false (.cons (.sl false (.ix (.var 0) (.int 0)) (.int 6) .nil) .nil)) .nil)) .nil (.tup (.cons (.tup .nil) (.cons (.tup (.cons (.str [107, 101, 101, 112]) .nil)) (.cons (.tup .nil) .nil))))))
  (.seq (.set (.inl 2) (.int 0))
  (.seq (.sfor (.inl 3) (.sl false (.var 0) (.int 1) .nil)
  (.seq (.set (.inl 4) (.call "_law_rank" false (.cons (.var 3) .nil)))
  (.seq (.sif (.cmp .lt (.var 4) (.int 0))
  (.seq (.set (.inl 2) (.bif .int false (.cons (.sl false (.var 3) (.int 2) .nil) .nil)))
  .nil)
  (.seq (.sif (.cmp .eq (.var 4) (.int 0))
  (.seq (.setIx (.var 1) (.var 2) (.tup (.cons (.bin .add false (.ix (.ix (.var 1) (.var 2)) (.int 0)) (.tup (.cons (.sl false (.var 3) (.int 1) .nil) .nil))) (.cons (.ix (.ix (.var 1) (.var 2)) (.int 1)) (.cons (.ix (.ix (.var 1) (.var 2)) (.int 2)) .nil)))))
  .nil)
  (.seq (.sif (.cmp .eq (.var 4) (.int 1))
  (.seq (.setIx (.var 1) (.var 2) (.tup (.cons (.ix (.ix (.var 1) (.var 2)) (.int 0)) (.cons (.ife (.cmp .eq (.var 3) (.str [45])) (.tup (.cons (.str [100, 114, 111, 112]) .nil)) (.tup (.cons (.str [116, 101, 120, 116]) (.cons (.sl false (.var 3) (.int 1) .nil) .nil)))) (.cons (.ix (.ix (.var 1) (.var 2)) (.int 2)) .nil)))))
  .nil)
  (.seq (.setIx (.var 1) (.var 2) (.tup (.cons (.ix (.ix (.var 1) (.var 2)) (.int 0)) (.cons (.ix (.ix (.var 1) (.var 2)) (.int 1)) (.cons (.bin .add false (.ix (.ix (.var 1) (.var 2)) (.int 2)) (.tup (.cons (.sl false (.var 3) (.int 1) .nil) .nil))) .nil)))))
  .nil))
  .nil))
  .nil))
  .nil)))
  (.seq (.ret (.var 1))
  .nil))))
def D__law_edits : Df := ⟨["_law_lines", "_law_edits_here", "_law_at", "_law_line_here", "_law_rank_here", "_law_k"], 1, S__law_edits⟩
def S_law : S :=
  (.seq (.set (.inl 1) (.call "_law_cell" false (.cons (.var 0) (.cons (.int 0) .nil))))
  (.seq (.set (.inl 2) (.bin .add false (.str [101, 100, 105, 116, 115, 32]) (.bif .str false (.cons (.bin .mod false (.bin .fdiv false (.var 1) (.int 8)) (.int 40)) .nil))))
  (.seq (.sif (.cmp .eq (.bin .mod false (.var 1) (.int 8)) (.int 3))
  (.seq (.set (.inl 2) (.ix (.lst false (.cons (.str [101, 100, 105, 116, 115]) (.cons (.str [101, 100, 105, 116, 115, 32, 32, 49]) (.cons (.str [101, 100, 105, 116, 115, 32, 48, 49]) (.cons (.str [101, 100, 105, 116, 32, 49]) (.cons (.str [101, 100, 105, 116, 115, 32, 50, 48, 48, 49]) (.cons (.str [101, 100, 105, 116, 115, 32, 50, 48, 48, 48]) (.cons (.str []) (.cons (.str [101, 100, 105, 116, 115, 32, 120]) .nil))))))))) (.bin .mod false (.bin .fdiv false (.var 1) (.int 8)) (.int 8))))
  .nil)
  .nil)
  (.seq (.set (.inl 3) (.lst true (.cons (.var 2) .nil)))
  (.seq (.set (.inl 4) (.int 0))
  (.seq (.sfor (.inl 5) (.irng (.cons (.bin .mod false (.call "_law_cell" false (.cons (.var 0) (.cons (.int 1) .nil))) (.int 31)) .nil))
  (.seq (.set (.inl 11) (.call "_law_line" false (.cons (.call "_law_cell" false (.cons (.var 0) (.cons (.bin .add false (.int 2) (.var 5)) .nil))) (.cons (.var 4) .nil))))
  (.seq (.sif (.and (.cons (.cmp .eq (.sl false (.var 11) .nil (.int 2)) (.str [64, 32])) (.cons (.cmp .ge (.call "_law_number" false (.cons (.sl false (.var 11) (.int 2) .nil) .nil)) (.int 0)) .nil)))
  (.seq (.set (.inl 4) (.mm false (.cons (.int 40) (.cons (.bin .add false (.bif .int false (.cons (.sl false (.var 11) (.int 2) .nil) .nil)) (.int 1)) .nil))))
  .nil)
  .nil)
  (.seq (.expr (.mth .append (.var 3) (.cons (.var 11) .nil)))
  .nil))))
  (.seq (.set (.inl 6) (.call "_law_due" false (.cons (.var 3) .nil)))
  (.seq (.set (.inl 7) .non)
  (.seq (.set (.inl 8) .non)
  (.seq (.tryE
  (.seq (.set (.inl 8) (.call "read_patch" false (.cons (.mth .join (.str [10]) (.cons (.var 3) .nil)) .nil)))
  .nil)
  (.hnd "BadPatch" (some 9)
  (.seq (.set (.inl 7) (.tup (.cons (.xf 9 "line") (.cons (.xf 9 "what") .nil))))
  (.seq (.sif (.or (.cons (.not (.xi 9 "WeftError")) (.cons (.not (.isi "int" (.xf 9 "line"))) (.cons (.isi "bool" (.xf 9 "line")) .nil))))
  (.seq (.ret (.bl false))
  .nil)
  .nil)
  .nil))
  .hend))
  (.seq (.sif (.cmp .ne (.var 7) (.var 6))
  (.seq (.ret (.bl false))
  .nil)
  .nil)
  (.seq (.sif (.cmp .isNot (.var 6) .non)
  (.seq (.ret (.cmp .is_ (.var 8) .non))
  .nil)
  .nil)
  (.seq (.set (.inl 10) (.call "_law_edits" false (.cons (.var 3) .nil)))
  (.seq (.ret (.and (.cons (.call "_law_are_edits" false (.cons (.var 8) (.cons (.bif .len false (.cons (.var 10) .nil)) .nil))) (.cons (.cmp .eq (.var 8) (.var 10)) .nil))))
  .nil))))))))))))))
def D_law : Df := ⟨["_law_script", "_law_head", "_law_first", "_law_lines", "_law_after", "_law_k", "_law_due_here", "_law_told", "_law_edits_here", "e", "_law_expected", "_law_line_here"], 1, S_law⟩
def ow_BadPatch : Ow := ⟨[66, 97, 100, 80, 97, 116, 99, 104], 2, [.c "line ", .p 0, .c ": ", .p 1], [("line", 0), ("what", 1)]⟩
end K84_BAD_PATCHES

set_option Elab.async false
set_option linter.all false
set_option maxRecDepth 100000
set_option maxHeartbeats 8000000
namespace K84_BAD_PATCHES
open PySem PySem.Spec PyProof.Rows L2 G
def topS (i : Nat) : Stmt := PySem.Challenge.pw_weft_k84_bad_patches.main.body.getD i (.Pass ⟨0, 0, 0, 0⟩)
abbrev e_number_of : De := ⟨"number_of", ["word"], D_number_of, topS 9, []⟩
abbrev e_read_count : De := ⟨"read_count", ["line"], D_read_count, topS 10, []⟩
abbrev e_PatchReader___init__ : De := ⟨"PatchReader.__init__", ["self", "count"], D_PatchReader___init__, clsDef (topS 11) 0, mkt "PatchReader" "__init__"⟩
abbrev e_PatchReader_stop : De := ⟨"PatchReader.stop", ["self", "what"], D_PatchReader_stop, clsDef (topS 11) 1, mkt "PatchReader" "stop"⟩
abbrev e_PatchReader_read_index : De := ⟨"PatchReader.read_index", ["self", "line"], D_PatchReader_read_index, clsDef (topS 11) 2, mkt "PatchReader" "read_index"⟩
abbrev e_PatchReader_read_part : De := ⟨"PatchReader.read_part", ["self", "line"], D_PatchReader_read_part, clsDef (topS 11) 3, mkt "PatchReader" "read_part"⟩
abbrev e_PatchReader_read_line : De := ⟨"PatchReader.read_line", ["self", "line"], D_PatchReader_read_line, clsDef (topS 11) 4, mkt "PatchReader" "read_line"⟩
abbrev e_PatchReader_finished : De := ⟨"PatchReader.finished", ["self"], D_PatchReader_finished, clsDef (topS 11) 5, mkt "PatchReader" "finished"⟩
abbrev e_read_patch : De := ⟨"read_patch", ["text"], D_read_patch, topS 12, []⟩
abbrev e__law_cell : De := ⟨"_law_cell", ["_law_script", "_law_k"], D__law_cell, topS 14, []⟩
abbrev e__law_draws : De := ⟨"_law_draws", ["_law_cell_here", "_law_count"], D__law_draws, topS 15, []⟩
abbrev e__law_words : De := ⟨"_law_words", ["_law_draw"], D__law_words, topS 16, []⟩
abbrev e__law_some_edit : De := ⟨"_law_some_edit", ["_law_cell_here"], D__law_some_edit, topS 17, []⟩
abbrev e__law_some_edits : De := ⟨"_law_some_edits", ["_law_script", "_law_start", "_law_many"], D__law_some_edits, topS 18, []⟩
abbrev e__law_edited : De := ⟨"_law_edited", ["_law_texts_here", "_law_edits_here"], D__law_edited, topS 19, []⟩
abbrev e__law_texts : De := ⟨"_law_texts", ["_law_script", "_law_start", "_law_many"], D__law_texts, topS 20, []⟩
abbrev e__law_are_edits : De := ⟨"_law_are_edits", ["_law_edits_here", "_law_count"], D__law_are_edits, topS 21, []⟩
abbrev e__law_number : De := ⟨"_law_number", ["_law_word"], D__law_number, topS 22, []⟩
abbrev e__law_line : De := ⟨"_law_line", ["_law_cell_here", "_law_after"], D__law_line, topS 23, []⟩
abbrev e__law_rank : De := ⟨"_law_rank", ["_law_line_here"], D__law_rank, topS 24, []⟩
abbrev e__law_due : De := ⟨"_law_due", ["_law_lines"], D__law_due, topS 25, []⟩
abbrev e__law_edits : De := ⟨"_law_edits", ["_law_lines"], D__law_edits, topS 26, []⟩
abbrev e_law : De := ⟨"law", ["_law_script"], D_law, topS 27, []⟩
def es : List De := [e_number_of, e_read_count, e_PatchReader___init__, e_PatchReader_stop, e_PatchReader_read_index, e_PatchReader_read_part, e_PatchReader_read_line, e_PatchReader_finished, e_read_patch, e__law_cell, e__law_draws, e__law_words, e__law_some_edit, e__law_some_edits, e__law_edited, e__law_texts, e__law_are_edits, e__law_number, e__law_line, e__law_rank, e__law_due, e__law_edits]
def cs : List (Str × Gc) := [("DIGITS_MOST", .int 60), ("DROP", .tup [.str "drop"]), ("KEEP", .tup [.str "keep"]), ("LINES_MOST", .int 2000)]
def bs : List Str := ["bool", "int", "isinstance", "len", "list", "min", "range", "str", "tuple"]
def gns : List Str := []
def sgn : List (Str × Tx) := []
abbrev i_BadPatch : Ie := ⟨"BadPatch", ow_BadPatch, ["line", "what"], "BadPatch.__init__", clsDef (topS 2) 0⟩
theorem ini_BadPatch : IeOk PySem.Challenge.pw_weft_k84_bad_patches i_BadPatch := ⟨scs_by rfl rfl rfl (by decide +kernel) (by decide +kernel), by decide +kernel, fun _ _ _ _ _ _ _ _ us hl => match us, hl with | [_, _, _], _ => rfl, ⟨_, rfl, rfl⟩, ⟨rfl, by decide, by decide, by decide +kernel, rfl⟩, by decide +kernel⟩
def xt : Xt := { cs := ["BadPatch"], subs := [("BadPatch", "BadPatch", true), ("BadPatch", "WeftError", true)], flds := [("BadPatch", "line"), ("BadPatch", "what")], pls := [], inis := [i_BadPatch], ocs := ["PatchReader"], ofls := [("PatchReader", "at"), ("PatchReader", "count"), ("PatchReader", "edits"), ("PatchReader", "number"), ("PatchReader", "rank")], kds := [("RANKS", [("^", .int 0), ("-", .int 1), ("~", .int 1), ("+", .int 2)])] }
theorem allI : ∀ e ∈ xt.inis, IeOk PySem.Challenge.pw_weft_k84_bad_patches e := List.forall_mem_cons.2 ⟨ini_BadPatch, (fun _ h => nomatch h)⟩
theorem ok_number_of : DeOk (tabOf es) (cs.map (·.1)) (es.map De.fk) bs xt.xn gns sgn e_number_of := ⟨rfl, ⟨rfl, rfl, rfl, by decide +kernel, rfl, by decide +kernel, by decide +kernel⟩, rfl, bi0 rfl fun _ _ _ _ _ _ us hl => match us, hl with | [_], _ => rfl, by decide +kernel⟩
theorem ok_read_count : DeOk (tabOf es) (cs.map (·.1)) (es.map De.fk) bs xt.xn gns sgn e_read_count := ⟨rfl, ⟨rfl, rfl, rfl, by decide +kernel, rfl, by decide +kernel, by decide +kernel⟩, rfl, bi0 rfl fun _ _ _ _ _ _ us hl => match us, hl with | [_], _ => rfl, by decide +kernel⟩
theorem ok_PatchReader___init__ : DeOk (tabOf es) (cs.map (·.1)) (es.map De.fk) bs xt.xn gns sgn e_PatchReader___init__ := ⟨rfl, ⟨rfl, rfl, rfl, by decide +kernel, rfl, by decide +kernel, by decide +kernel⟩, rfl, bi0 rfl fun _ _ _ _ _ _ us hl => match us, hl with | [_, _], _ => rfl, by decide +kernel⟩
theorem ok_PatchReader_stop : DeOk (tabOf es) (cs.map (·.1)) (es.map De.fk) bs xt.xn gns sgn e_PatchReader_stop := ⟨rfl, ⟨rfl, rfl, rfl, by decide +kernel, rfl, by decide +kernel, by decide +kernel⟩, rfl, bi0 rfl fun _ _ _ _ _ _ us hl => match us, hl with | [_, _], _ => rfl, by decide +kernel⟩
theorem ok_PatchReader_read_index : DeOk (tabOf es) (cs.map (·.1)) (es.map De.fk) bs xt.xn gns sgn e_PatchReader_read_index := ⟨rfl, ⟨rfl, rfl, rfl, by decide +kernel, rfl, by decide +kernel, by decide +kernel⟩, rfl, bi0 rfl fun _ _ _ _ _ _ us hl => match us, hl with | [_, _], _ => rfl, by decide +kernel⟩
theorem ok_PatchReader_read_part : DeOk (tabOf es) (cs.map (·.1)) (es.map De.fk) bs xt.xn gns sgn e_PatchReader_read_part := ⟨rfl, ⟨rfl, rfl, rfl, by decide +kernel, rfl, by decide +kernel, by decide +kernel⟩, rfl, bi0 rfl fun _ _ _ _ _ _ us hl => match us, hl with | [_, _], _ => rfl, by decide +kernel⟩
theorem ok_PatchReader_read_line : DeOk (tabOf es) (cs.map (·.1)) (es.map De.fk) bs xt.xn gns sgn e_PatchReader_read_line := ⟨rfl, ⟨rfl, rfl, rfl, by decide +kernel, rfl, by decide +kernel, by decide +kernel⟩, rfl, bi0 rfl fun _ _ _ _ _ _ us hl => match us, hl with | [_, _], _ => rfl, by decide +kernel⟩
theorem ok_PatchReader_finished : DeOk (tabOf es) (cs.map (·.1)) (es.map De.fk) bs xt.xn gns sgn e_PatchReader_finished := ⟨rfl, ⟨rfl, rfl, rfl, by decide +kernel, rfl, by decide +kernel, by decide +kernel⟩, rfl, bi0 rfl fun _ _ _ _ _ _ us hl => match us, hl with | [_], _ => rfl, by decide +kernel⟩
theorem ok_read_patch : DeOk (tabOf es) (cs.map (·.1)) (es.map De.fk) bs xt.xn gns sgn e_read_patch := ⟨rfl, ⟨rfl, rfl, rfl, by decide +kernel, rfl, by decide +kernel, by decide +kernel⟩, rfl, bi0 rfl fun _ _ _ _ _ _ us hl => match us, hl with | [_], _ => rfl, by decide +kernel⟩
theorem ok__law_cell : DeOk (tabOf es) (cs.map (·.1)) (es.map De.fk) bs xt.xn gns sgn e__law_cell := ⟨rfl, ⟨rfl, rfl, rfl, by decide +kernel, rfl, by decide +kernel, by decide +kernel⟩, rfl, bi0 rfl fun _ _ _ _ _ _ us hl => match us, hl with | [_, _], _ => rfl, by decide +kernel⟩
theorem ok__law_draws : DeOk (tabOf es) (cs.map (·.1)) (es.map De.fk) bs xt.xn gns sgn e__law_draws := ⟨rfl, ⟨rfl, rfl, rfl, by decide +kernel, rfl, by decide +kernel, by decide +kernel⟩, rfl, bi0 rfl fun _ _ _ _ _ _ us hl => match us, hl with | [_, _], _ => rfl, by decide +kernel⟩
theorem ok__law_words : DeOk (tabOf es) (cs.map (·.1)) (es.map De.fk) bs xt.xn gns sgn e__law_words := ⟨rfl, ⟨rfl, rfl, rfl, by decide +kernel, rfl, by decide +kernel, by decide +kernel⟩, rfl, bi0 rfl fun _ _ _ _ _ _ us hl => match us, hl with | [_], _ => rfl, by decide +kernel⟩
theorem ok__law_some_edit : DeOk (tabOf es) (cs.map (·.1)) (es.map De.fk) bs xt.xn gns sgn e__law_some_edit := ⟨rfl, ⟨rfl, rfl, rfl, by decide +kernel, rfl, by decide +kernel, by decide +kernel⟩, rfl, bi0 rfl fun _ _ _ _ _ _ us hl => match us, hl with | [_], _ => rfl, by decide +kernel⟩
theorem ok__law_some_edits : DeOk (tabOf es) (cs.map (·.1)) (es.map De.fk) bs xt.xn gns sgn e__law_some_edits := ⟨rfl, ⟨rfl, rfl, rfl, by decide +kernel, rfl, by decide +kernel, by decide +kernel⟩, rfl, bi0 rfl fun _ _ _ _ _ _ us hl => match us, hl with | [_, _, _], _ => rfl, by decide +kernel⟩
theorem ok__law_edited : DeOk (tabOf es) (cs.map (·.1)) (es.map De.fk) bs xt.xn gns sgn e__law_edited := ⟨rfl, ⟨rfl, rfl, rfl, by decide +kernel, rfl, by decide +kernel, by decide +kernel⟩, rfl, bi0 rfl fun _ _ _ _ _ _ us hl => match us, hl with | [_, _], _ => rfl, by decide +kernel⟩
theorem ok__law_texts : DeOk (tabOf es) (cs.map (·.1)) (es.map De.fk) bs xt.xn gns sgn e__law_texts := ⟨rfl, ⟨rfl, rfl, rfl, by decide +kernel, rfl, by decide +kernel, by decide +kernel⟩, rfl, bi0 rfl fun _ _ _ _ _ _ us hl => match us, hl with | [_, _, _], _ => rfl, by decide +kernel⟩
theorem ok__law_are_edits : DeOk (tabOf es) (cs.map (·.1)) (es.map De.fk) bs xt.xn gns sgn e__law_are_edits := ⟨rfl, ⟨rfl, rfl, rfl, by decide +kernel, rfl, by decide +kernel, by decide +kernel⟩, rfl, bi0 rfl fun _ _ _ _ _ _ us hl => match us, hl with | [_, _], _ => rfl, by decide +kernel⟩
theorem ok__law_number : DeOk (tabOf es) (cs.map (·.1)) (es.map De.fk) bs xt.xn gns sgn e__law_number := ⟨rfl, ⟨rfl, rfl, rfl, by decide +kernel, rfl, by decide +kernel, by decide +kernel⟩, rfl, bi0 rfl fun _ _ _ _ _ _ us hl => match us, hl with | [_], _ => rfl, by decide +kernel⟩
theorem ok__law_line : DeOk (tabOf es) (cs.map (·.1)) (es.map De.fk) bs xt.xn gns sgn e__law_line := ⟨rfl, ⟨rfl, rfl, rfl, by decide +kernel, rfl, by decide +kernel, by decide +kernel⟩, rfl, bi0 rfl fun _ _ _ _ _ _ us hl => match us, hl with | [_, _], _ => rfl, by decide +kernel⟩
theorem ok__law_rank : DeOk (tabOf es) (cs.map (·.1)) (es.map De.fk) bs xt.xn gns sgn e__law_rank := ⟨rfl, ⟨rfl, rfl, rfl, by decide +kernel, rfl, by decide +kernel, by decide +kernel⟩, rfl, bi0 rfl fun _ _ _ _ _ _ us hl => match us, hl with | [_], _ => rfl, by decide +kernel⟩
theorem ok__law_due : DeOk (tabOf es) (cs.map (·.1)) (es.map De.fk) bs xt.xn gns sgn e__law_due := ⟨rfl, ⟨rfl, rfl, rfl, by decide +kernel, rfl, by decide +kernel, by decide +kernel⟩, rfl, bi0 rfl fun _ _ _ _ _ _ us hl => match us, hl with | [_], _ => rfl, by decide +kernel⟩
theorem ok__law_edits : DeOk (tabOf es) (cs.map (·.1)) (es.map De.fk) bs xt.xn gns sgn e__law_edits := ⟨rfl, ⟨rfl, rfl, rfl, by decide +kernel, rfl, by decide +kernel, by decide +kernel⟩, rfl, bi0 rfl fun _ _ _ _ _ _ us hl => match us, hl with | [_], _ => rfl, by decide +kernel⟩
theorem all : ∀ e ∈ es, DeOk (tabOf es) (cs.map (·.1)) (es.map De.fk) bs xt.xn gns sgn e := List.forall_mem_cons.2 ⟨ok_number_of, List.forall_mem_cons.2 ⟨ok_read_count, List.forall_mem_cons.2 ⟨ok_PatchReader___init__, List.forall_mem_cons.2 ⟨ok_PatchReader_stop, List.forall_mem_cons.2 ⟨ok_PatchReader_read_index, List.forall_mem_cons.2 ⟨ok_PatchReader_read_part, List.forall_mem_cons.2 ⟨ok_PatchReader_read_line, List.forall_mem_cons.2 ⟨ok_PatchReader_finished, List.forall_mem_cons.2 ⟨ok_read_patch, List.forall_mem_cons.2 ⟨ok__law_cell, List.forall_mem_cons.2 ⟨ok__law_draws, List.forall_mem_cons.2 ⟨ok__law_words, List.forall_mem_cons.2 ⟨ok__law_some_edit, List.forall_mem_cons.2 ⟨ok__law_some_edits, List.forall_mem_cons.2 ⟨ok__law_edited, List.forall_mem_cons.2 ⟨ok__law_texts, List.forall_mem_cons.2 ⟨ok__law_are_edits, List.forall_mem_cons.2 ⟨ok__law_number, List.forall_mem_cons.2 ⟨ok__law_line, List.forall_mem_cons.2 ⟨ok__law_rank, List.forall_mem_cons.2 ⟨ok__law_due, List.forall_mem_cons.2 ⟨ok__law_edits, (fun _ h => nomatch h)⟩⟩⟩⟩⟩⟩⟩⟩⟩⟩⟩⟩⟩⟩⟩⟩⟩⟩⟩⟩⟩⟩
theorem sg_ok : ∀ p ∈ sgn, ∃ e ∈ es, e.f = p.1 ∧ e.ks = [] ∧ ∃ y, e.ps = [y] ∧ ((∃ g, signB y g (defScope e.st) (defBody e.st) = true ∧ g ∈ cs.map (·.1) ∧ glOf cs g = some (.str p.2)) ∨ signB2 y p.2 (defScope e.st) (defBody e.st) = true) := (fun _ h => nomatch h)
end K84_BAD_PATCHES

set_option Elab.async false
set_option linter.all false
set_option maxRecDepth 100000
set_option maxHeartbeats 8000000
namespace K84_BAD_PATCHES
open PySem PySem.Spec PyProof.Rows L2 G
abbrev R : PySem.W.OpenRow := PySem.W.OpenLaw.row PySem.Challenge.rw_weft_k84_bad_patches
def fa : List He.Fa := fasOf es e_law bs
def fn : List He.DefD := fnsOf es e_law
abbrev hk : PySem.W.Hook := hookY 5 fa fn (tsOf xt) (tfOf es gns) (xgs PySem.Challenge.pw_weft_k84_bad_patches.main.file xt cs) xt.inis
def ob (s : PySem.W.SharedT) : AlY := obsY 5 fa fn (tsOf xt) (tfOf es gns) (xgs PySem.Challenge.pw_weft_k84_bad_patches.main.file xt cs) xt.inis (HandSHeadRun.getT s)
theorem ob_eq (s : PySem.W.SharedT) : ob s = hk.obs s.abs := obsY_eq (HandSHeadRun.getT_eq s)
def loose : List Str := (["__name__", "WeftError", "BadPatch", "KEEP", "DIGITS_MOST", "LINES_MOST", "DROP", "RANKS", "number_of", "read_count", "PatchReader", "read_patch", "_law_cell", "_law_draws", "_law_words"] : List Str) ++ (["_law_some_edit", "_law_some_edits", "_law_edited", "_law_texts", "_law_are_edits", "_law_number", "_law_line", "_law_rank", "_law_due", "_law_edits"] : List Str)
theorem run_false (w : World) : HandSHeadRun.RunEq R (PySem.W.view R.prog [27]) hk ob 4000 loose (w.withFollow "special-get-raises" false) := by
  intro os
  kernel_rfl
theorem run_true (w : World) : HandSHeadRun.RunEq R (PySem.W.view R.prog [27]) hk ob 4000 loose (w.withFollow "special-get-raises" true) := by
  intro os
  kernel_rfl
theorem run (w : World) : HandSHeadRun.RunEq R (PySem.W.view R.prog [27]) hk ob 4000 loose w := PySem.W.byRow2 "special-get-raises" (P := fun w => HandSHeadRun.RunEq R (PySem.W.view R.prog [27]) hk ob 4000 loose w) run_false run_true w
end K84_BAD_PATCHES

set_option Elab.async false
set_option linter.all false
set_option maxRecDepth 100000
set_option maxHeartbeats 4000000
/-! texts, edits; the defs that many laws share -/
namespace C
open PySem PySem.Spec PyProof.Rows L2 G
def S__law_cell : S :=
  (.seq (.sif (.cmp .lt (.var 1) (.bif .len false (.cons (.var 0) .nil)))
  (.seq (.ret (.ix (.var 0) (.var 1)))
  .nil)
  .nil)
  (.seq (.ret (.int 0))
  .nil))
def D__law_cell : Df := ⟨["_law_script", "_law_k"], 2, S__law_cell⟩
def S__law_edited : S :=
  (.seq (.set (.inl 2) (.lst true .nil))
  (.seq (.sfor (.inl 3) (.irng (.cons (.bif .len false (.cons (.var 0) .nil)) .nil))
  (.seq (.set (.inl 2) (.bin .add true (.var 2) (.bif .list false (.cons (.ix (.ix (.var 1) (.var 3)) (.int 0)) .nil))))
  (.seq (.sif (.cmp .eq (.ix (.ix (.ix (.var 1) (.var 3)) (.int 1)) (.int 0)) (.str [107, 101, 101, 112]))
  (.seq (.expr (.mth .append (.var 2) (.cons (.ix (.var 0) (.var 3)) .nil)))
  .nil)
  .nil)
  (.seq (.sif (.cmp .eq (.ix (.ix (.ix (.var 1) (.var 3)) (.int 1)) (.int 0)) (.str [116, 101, 120, 116]))
  (.seq (.expr (.mth .append (.var 2) (.cons (.ix (.ix (.ix (.var 1) (.var 3)) (.int 1)) (.int 1)) .nil)))
  .nil)
  .nil)
  (.seq (.set (.inl 2) (.bin .add true (.var 2) (.bif .list false (.cons (.ix (.ix (.var 1) (.var 3)) (.int 2)) .nil))))
  .nil)))))
  (.seq (.ret (.var 2))
  .nil)))
def D__law_edited : Df := ⟨["_law_texts", "_law_edits", "_law_made", "_law_at"], 2, S__law_edited⟩
/-- a cell of the script -/
def cell (ns : List Int) (k : Nat) : Int := ns.getD k 0
theorem cell_ok {L : Lm} (ns : List Int) (k : Nat) : runD L D__law_cell [.scr (ns.map .int), .int k] = .ok (.int (cell ns k)) [] := by
  refine runD_ok rfl ?_
  simp -implicitDefEqProofs [D__law_cell, S__law_cell, mVar]
  by_cases h : k < ns.length
  · rw [if_pos h]
    simp -implicitDefEqProofs [mVar]
    rw [ixV_int (w := .int (cell ns k)) rfl (by simp -implicitDefEqProofs [h, cell])]
    simp -implicitDefEqProofs
  · rw [if_neg h]
    simp -implicitDefEqProofs [cell, h]
theorem rep_lt {n : Nat} (h : n < 2000) : i62 (n : Nat) = true := by unfold i62; exact decide_eq_true ⟨by omega, by omega⟩
theorem small_mod {x : Int} : G.small64 (x.fmod 2147483647) = true := by
  have h1 := Int.emod_nonneg x (b := 2147483647) (by decide)
  have h2 := Int.emod_lt_of_pos x (b := 2147483647) (by decide)
  rw [Int.fmod_eq_emod_of_nonneg _ (by decide)]
  exact decide_eq_true ⟨by omega, by omega⟩
/-- texts, an edit -/
def vTs (l : List Tx) : Va := .tup (l.map .str)
structure Ed where
  a : List Tx
  c : List Tx
  b : List Tx
def vEd (e : Ed) : Va := .tup [vTs e.a, vTs e.c, vTs e.b]
def keepT : Tx := [107, 101, 101, 112]
def textT : Tx := [116, 101, 120, 116]
def dropT : Tx := [100, 114, 111, 112]
def Ch (c : List Tx) : Prop := c = [keepT] ∨ c = [dropT] ∨ ∃ t, c = [textT, t]
structure Ed.Ok (B : Nat) (e : Ed) : Prop where
  a : e.a.length ≤ B
  b : e.b.length ≤ B
  c : Ch e.c
theorem free_vTs (l : List Tx) : free (vTs l) = true := by
  rw [vTs, free_tup]
  exact frees_map fun _ => rfl
theorem free_vEd (e : Ed) : free (vEd e) = true := by simp [vEd, free_vTs]
theorem dat_vTs (l : List Tx) (n : Nat) : dat (n + 1) (vTs l) = true := by
  rw [vTs, dat_tup]
  exact dats_map fun _ => by simp
theorem dat_vEd (e : Ed) (n : Nat) : dat (n + 2) (vEd e) = true := by simp [vEd, dat_vTs]
@[simp] theorem len_vTs (l : List Tx) (st : Sto) : lenV [vTs l] st = .ok (.int l.length) st := by simp [vTs]
theorem lenl_map {α : Type} (f : α → Va) (l : List α) (st : Sto) : lenV [.lst (l.map f)] st = .ok (.int l.length) st := by simp
theorem tup_ts {p : Nat} {l : List Tx} {st : Sto} (h : st[p]? = some (some (.lst (l.map .str)))) (hl : l.length ≤ sizeLine) : tupleV [.ref p] st = .ok (vTs l) st := by
  rw [tupleV_lst (lstOf_ref h), mkT_val (by simpa using hl), vTs]
/-! ### edited -/
def keepE : Ed := ⟨[], [keepT], []⟩
end C

set_option Elab.async false
set_option linter.all false
set_option maxRecDepth 100000
set_option maxHeartbeats 4000000
/-! edits one after the other: the plain law -/
namespace C
open PySem PySem.Spec PyProof.Rows L2 G
theorem kd : ([keepT] : List Tx) ≠ [dropT] := by decide
theorem td (t : Tx) : [textT, t] ≠ [dropT] := by simp
theorem tk (t : Tx) : [textT, t] ≠ [keepT] := by simp
end C

set_option Elab.async false
set_option linter.all false
set_option maxRecDepth 100000
set_option maxHeartbeats 4000000
/-! compose -/
namespace C
open PySem PySem.Spec PyProof.Rows L2 G
end C

set_option Elab.async false
set_option linter.all false
set_option maxRecDepth 100000
set_option maxHeartbeats 4000000
/-! what the laws of edits draw -/
namespace C
open PySem PySem.Spec PyProof.Rows L2 G
def S__law_draws : S :=
  (.seq (.set (.inl 2) (.lst true .nil))
  (.seq (.set (.inl 3) (.cmp .ge (.var 0) (.bin .pow false (.int 10) (.int 18))))
  (.seq (.sfor (.inl 4) (.irng (.cons (.var 1) .nil))
  (.seq (.sif (.var 3)
  (.seq (.expr (.mth .append (.var 2) (.cons (.bin .mod false (.bif .int false (.cons (.var 0) .nil)) (.int 1009)) .nil)))
  (.seq (.set (.inl 0) (.bin .fdiv false (.var 0) (.int 1009)))
  .nil))
  (.seq (.set (.inl 5) (.bin .mod false (.bif .int false (.cons (.bin .add false (.bin .mul false (.var 0) (.int 48271)) (.bin .mul false (.var 4) (.int 69621))) .nil)) (.int 2147483647)))
  (.seq (.expr (.mth .append (.var 2) (.cons (.bin .mod false (.bif .int false (.cons (.bin .add false (.bin .add false (.bin .mul false (.var 5) (.var 5)) (.bin .mul false (.var 0) (.int 31))) (.var 4)) .nil)) (.int 1000003)) .nil)))
  .nil)))
  .nil))
  (.seq (.ret (.var 2))
  .nil))))
def D__law_draws : Df := ⟨["_law_cell_here", "_law_count", "_law_found", "_law_is_wide", "_law_k", "_law_mixed"], 2, S__law_draws⟩
def S__law_words : S :=
  (.seq (.ret (.ix (.lst false (.cons (.str [97]) (.cons (.str [98]) (.cons (.str []) (.cons (.str [99, 99]) (.cons (.str [32, 100]) (.cons (.str [64, 32, 49]) (.cons (.str [45]) (.cons (.str [43, 120]) (.cons (.str [94]) (.cons (.str [126, 121]) .nil))))))))))) (.bin .mod false (.var 0) (.int 10))))
  .nil)
def D__law_words : Df := ⟨["_law_draw"], 1, S__law_words⟩
def S__law_some_edit : S :=
  (.seq (.set (.inl 1) (.call "_law_draws" false (.cons (.var 0) (.cons (.int 8) .nil))))
  (.seq (.set (.inl 2) (.bin .mod false (.bif .int false (.cons (.ix (.var 1) (.int 0)) .nil)) (.int 9)))
  (.seq (.set (.inl 3) (.tup .nil))
  (.seq (.set (.inl 4) (.tup .nil))
  (.seq (.sif (.cmp .in_ (.var 2) (.tup (.cons (.int 3) (.cons (.int 6) .nil))))
  (.seq (.set (.inl 3) (.bif .tuple false (.cons (.lc false [6] (.inl 6) (.irng (.cons (.bin .add false (.int 1) (.bin .mod false (.bif .int false (.cons (.ix (.var 1) (.int 5)) .nil)) (.int 2))) .nil)) .nil (.call "_law_words" false (.cons (.bif .int false (.cons (.ix (.var 1) (.bin .add false (.var 6) (.int 1))) .nil)) .nil))) .nil)))
  .nil)
  .nil)
  (.seq (.sif (.cmp .in_ (.var 2) (.tup (.cons (.int 4) (.cons (.int 6) (.cons (.int 7) .nil)))))
  (.seq (.set (.inl 4) (.bif .tuple false (.cons (.lc false [6] (.inl 6) (.irng (.cons (.bin .add false (.int 1) (.bin .mod false (.bif .int false (.cons (.ix (.var 1) (.int 6)) .nil)) (.int 2))) .nil)) .nil (.call "_law_words" false (.cons (.bif .int false (.cons (.ix (.var 1) (.bin .add false (.var 6) (.int 3))) .nil)) .nil))) .nil)))
  .nil)
  .nil)
  (.seq (.set (.inl 5) (.ix (.lst false (.cons (.tup (.cons (.str [107, 101, 101, 112]) .nil)) (.cons (.tup (.cons (.str [100, 114, 111, 112]) .nil)) (.cons (.tup (.cons (.str [116, 101, 120, 116]) (.cons (.call "_law_words" false (.cons (.bif .int false (.cons (.ix (.var 1) (.int 7)) .nil)) .nil)) .nil))) (.cons (.tup (.cons (.str [107, 101, 101, 112]) .nil)) (.cons (.tup (.cons (.str [100, 114, 111, 112]) .nil)) .nil)))))) (.bin .mod false (.bin .fdiv false (.bif .int false (.cons (.ix (.var 1) (.int 7)) .nil)) (.int 10)) (.int 5))))
  (.seq (.ret (.tup (.cons (.var 3) (.cons (.ife (.cmp .in_ (.var 2) (.tup (.cons (.int 1) (.cons (.int 5) (.cons (.int 6) (.cons (.int 7) .nil)))))) (.var 5) (.tup (.cons (.str [107, 101, 101, 112]) .nil))) (.cons (.var 4) .nil)))))
  .nil))))))))
def D__law_some_edit : Df := ⟨["_law_cell_here", "_law_draws_here", "_law_kind", "_law_ahead", "_law_behind", "_law_change", "_law_k"], 1, S__law_some_edit⟩
def S__law_some_edits : S :=
  (.seq (.ret (.lc false [3] (.inl 3) (.irng (.cons (.var 2) .nil)) .nil (.call "_law_some_edit" false (.cons (.call "_law_cell" false (.cons (.var 0) (.cons (.bin .add false (.var 1) (.var 3)) .nil))) .nil))))
  .nil)
def D__law_some_edits : Df := ⟨["_law_script", "_law_start", "_law_many", "_law_k"], 3, S__law_some_edits⟩
def S__law_texts : S :=
  (.seq (.ret (.lc false [3] (.inl 3) (.irng (.cons (.var 2) .nil)) .nil (.call "_law_words" false (.cons (.bin .fdiv false (.call "_law_cell" false (.cons (.var 0) (.cons (.bin .add false (.var 1) (.var 3)) .nil))) (.int 7)) .nil))))
  .nil)
def D__law_texts : Df := ⟨["_law_script", "_law_start", "_law_many", "_law_k"], 3, S__law_texts⟩
def S__law_are_edits : S :=
  (.seq (.sif (.or (.cons (.not (.isi "list" (.var 0))) (.cons (.cmp .ne (.bif .len false (.cons (.var 0) .nil)) (.var 1)) .nil)))
  (.seq (.ret (.bl false))
  .nil)
  .nil)
  (.seq (.sfor (.inl 2) (.var 0)
  (.seq (.sif (.or (.cons (.not (.isi "tuple" (.var 2))) (.cons (.cmp .ne (.bif .len false (.cons (.var 2) .nil)) (.int 3)) .nil)))
  (.seq (.ret (.bl false))
  .nil)
  .nil)
  (.seq (.sif (.or (.cons (.not (.isi "tuple" (.ix (.var 2) (.int 0)))) (.cons (.not (.isi "tuple" (.ix (.var 2) (.int 1)))) (.cons (.not (.isi "tuple" (.ix (.var 2) (.int 2)))) .nil))))
  (.seq (.ret (.bl false))
  .nil)
  .nil)
  .nil)))
  (.seq (.ret (.bl true))
  .nil)))
def D__law_are_edits : Df := ⟨["_law_edits", "_law_count", "_law_edit"], 2, S__law_are_edits⟩
/-- what is drawn -/
theorem draws_ok {L : Lm} (c : Int) (n : Nat) (hn : n < 1000) : ∃ w : Va, (∃ ds : List Int, ds.length = n ∧ w = .lst (ds.map .int)) ∧ runD L D__law_draws [.int c, .int n] = .ok w fresh := by
  refine runD_ex [some (.int c), some (.int n), none, none, none, none] rfl rfl fun Q hr => ?_
  obtain ⟨g, hg⟩ := pow_any
  simp -implicitDefEqProofs [D__law_draws, S__law_draws, mVar, mkL_ref, hg, rng1 (rep_lt (show n < 2000 by omega))]
  refine wp_for (fun k env st => ∃ (x4 x5 : Option Va) (c : Int) (ds : List Int) (b : Bool), env = [some (.int c), some (.int n), some (.ref 0), some (.bl b), x4, x5] ∧ ds.length = k ∧ st = [some (.lst (ds.map .int))]) ?_ ?_ ?_
  · exact ⟨none, none, c, [], _, rfl, rfl, rfl⟩
  · rintro k w env st Qb hw ⟨x4, x5, c, ds, b, rfl, rfl, rfl⟩ hnx _ _ _
    obtain ⟨hk, rfl⟩ := rints_get hw
    refine ⟨rfl, _, rfl, ?_⟩
    have hs : ds.length < sizeLine := by unfold sizeLine; omega
    cases b with
    | false =>
      have hm : G.small64 ((c * 48271 + ds.length * 69621).fmod 2147483647) = true := small_mod
      simp -implicitDefEqProofs [mVar, mulV_int, hm, show G.small64 48271 = true by decide +kernel, show G.small64 69621 = true by decide +kernel, show G.small64 31 = true by decide +kernel, modV_int, tyB, lstOf, appendV, hs]
      exact hnx _ _ ⟨_, _, c, ds ++ [_], false, rfl, by simp, by rw [snoc_map]⟩
    | true =>
      simp -implicitDefEqProofs [mVar, modV_int, fdivV_int, tyB, lstOf, appendV, hs]
      exact hnx _ _ ⟨_, _, _, ds ++ [_], true, rfl, by simp, by rw [snoc_map]⟩
  · rintro env st ⟨x4, x5, c, ds, b, rfl, h, rfl⟩
    refine ⟨rfl, ?_⟩
    simp -implicitDefEqProofs [mVar]
    exact hr _ _ _ ⟨ds, by simpa using h, rfl⟩ (ret_lst rfl (frees_map fun _ => rfl))
def CHw : List Tx := [[97], [98], [], [99, 99], [32, 100], [64, 32, 49], [45], [43, 120], [94], [126, 121]]
theorem words_ok {L : Lm} (i : Int) : ∃ t : Tx, t ∈ CHw ∧ runD L D__law_words [.int i] = .ok (.str t) [] := by
  obtain ⟨w, hw, e⟩ := ixV_pick (st := []) (x := .lst (CHw.map .str)) (i := i) (j := 10) (n := 10) rfl rfl (by decide) rfl
  obtain ⟨t, ht, rfl⟩ := List.mem_map.mp hw
  refine ⟨t, ht, runD_ok rfl ?_⟩
  have e' : ixV (.lst [.str [97], .str [98], .str [], .str [99, 99], .str [32, 100], .str [64, 32, 49], .str [45], .str [43, 120], .str [94], .str [126, 121]]) (.int (i.fmod 10)) [] = .ok (.str t) [] := e
  simp -implicitDefEqProofs [D__law_words, S__law_words, mVar, mkL, modV_int, e', sizeLine]
structure Ed.In (W : List Tx) (e : Ed) : Prop where
  a : ∀ t ∈ e.a, t ∈ W
  b : ∀ t ∈ e.b, t ∈ W
  c : ∀ t, e.c = [textT, t] → t ∈ W
theorem isi_tup_vTs (l : List Tx) (st : Sto) : isiV "tuple" [vTs l] st = .ok (.bl true) st := isi_of rfl (by decide +kernel)
theorem isi_tup_tup (l : List Va) (st : Sto) : isiV "tuple" [.tup l] st = .ok (.bl true) st := isi_of rfl (by decide +kernel)
theorem are_edits_ok {L : Lm} {es : List Ed} {n : Nat} (hn : es.length = n) : runD L D__law_are_edits [.lst (es.map vEd), .int n] = .ok (.bl true) [] := by
  refine runD_of (fun v s => v = .bl true) [some (.lst (es.map vEd)), some (.int n), none] rfl rfl (fun v s h => by rw [h]; exact ret_free rfl) fun Q hr => ?_
  simp -implicitDefEqProofs [D__law_are_edits, S__law_are_edits, mVar, isi_list_lst, hn]
  refine wp_for (fun k env st => ∃ x, env = [some (.lst (es.map vEd)), some (.int n), x]) ⟨_, rfl⟩ ?_ ?_
  · rintro k w env st Qb hw ⟨x, rfl⟩ hnx _ _ _
    rw [List.getElem?_map] at hw
    obtain ⟨e, he, rfl⟩ := Option.map_eq_some_iff.mp hw
    refine ⟨rfl, _, rfl, ?_⟩
    simp -implicitDefEqProofs [mVar, vEd, isi_tup_tup, isi_tup_vTs]
    exact hnx _ _ ⟨_, rfl⟩
  · rintro env st ⟨x, rfl⟩
    refine ⟨rfl, ?_⟩
    simp -implicitDefEqProofs
    exact hr _ _ rfl
end C

set_option Elab.async false
set_option linter.all false
set_option maxRecDepth 100000
set_option maxHeartbeats 4000000
/-! rows of tokens: edits that they give; edits turned back -/
namespace C
open PySem PySem.Spec PyProof.Rows L2 G
/-- a token -/
inductive Tk where
  | ln (c : List Tx)
  | nw (t : Tx)
def newT : Tx := [110, 101, 119]
def Tk.isL : Tk → Bool
  | .ln _ => true
  | .nw _ => false
def nL (tk : List Tk) : Nat := tk.countP Tk.isL
def nN (tk : List Tk) : Nat := tk.countP fun t => !t.isL
/-! ### turned back -/
end C

set_option Elab.async false
set_option linter.all false
set_option maxRecDepth 100000
set_option maxHeartbeats 4000000
/-! the runs of edits_of_tokens, inverse -/
namespace G
open PySem PySem.Spec PyProof.Rows L2
end G
namespace C
open PySem PySem.Spec PyProof.Rows L2 G
def cells (es : List Ed) : Sto := es.flatMap fun e => [some (.lst (e.a.map .str)), some (.lst (e.b.map .str))]
@[simp] theorem kdn : (keepT = dropT) = False := by simp [keepT, dropT]
@[simp] theorem dkn : (dropT = keepT) = False := by simp [keepT, dropT]
end C

set_option Elab.async false
set_option linter.all false
set_option maxRecDepth 100000
set_option maxHeartbeats 4000000
/-! two hands: joined edits, moved edits (plain) -/
namespace C
open PySem PySem.Spec PyProof.Rows L2 G
def bad (e f : Ed) : Bool := decide (e.c ≠ [keepT]) && (decide (f.c ≠ [keepT]) && decide (e.c ≠ f.c))
end C

set_option Elab.async false
set_option linter.all false
set_option maxRecDepth 100000
set_option maxHeartbeats 4000000
/-! the runs of join, moved -/
namespace G
open PySem PySem.Spec PyProof.Rows L2
/-- arguments of which some lie in the store; what comes back cannot be one of them -/
theorem callP_lent {φ : Fn} {ws ws' : List Va} {st st' : Sto} {w : Va} {s : Sto} (hn : frees ws = false) (hm : mapS (freezeN 20) ws st = some (ws', st')) (h : φ ws' = .ok w s) (hf : flatF w s = true) (hB : lentB st st' = true := by rfl) : callP false φ ws st = .ok w st := by
  unfold callP
  rw [if_neg (by simp [hn]), hm]
  simp only [h, hf, hB, Bool.and_self, if_true]
  rfl
end G
namespace C
open PySem PySem.Spec PyProof.Rows L2 G
def atT : Tx := [97, 116]
end C

set_option Elab.async false
set_option linter.all false
set_option maxRecDepth 100000
set_option maxHeartbeats 4000000
/-! dicts with int keys, as lists of pairs -/
namespace G
open PySem PySem.Spec PyProof.Rows L2
theorem dic_ref {p : Nat} {k : List Ky} {l : List Va} {st : Sto} (h : st[p]? = some (some (.dic k l))) : dicOf (.ref p) st = some (k, l) := by simp [dicOf, h]
end G
namespace DI
open PySem PySem.Spec PyProof.Rows L2 G
section
variable {α : Type} [DecidableEq α] {f : α → Va}
def kys (d : List (Int × α)) : List Ky := d.map fun p => .inl p.1
def vls (f : α → Va) (d : List (Int × α)) : List Va := d.map fun p => f p.2
def oD (f : α → Va) (d : List (Int × α)) : Ob := .dic (kys d) (vls f d)
def keys (d : List (Int × α)) : List Int := d.map (·.1)
def put : List (Int × α) → Int → α → List (Int × α)
  | [], k, a => [(k, a)]
  | (j, b) :: d, k, a => if j = k then (j, a) :: d else (j, b) :: put d k a
theorem atKy_get (d : List (Int × α)) (k : Int) : atKy (kys d) (vls f d) (.inl k) = (d.lookup k).map f := by
  induction d with
  | nil => rfl
  | cons p d ih =>
    obtain ⟨j, b⟩ := p
    show (if (Sum.inl j : Ky) = .inl k then some (f b) else atKy (kys d) (vls f d) (.inl k)) = _
    by_cases h : j = k
    · subst h
      simp [List.lookup_cons]
    · have e : (k == j) = false := by simpa using fun z => h z.symm
      rw [if_neg (by simpa using h), ih, List.lookup_cons, e]
theorem kys_any (d : List (Int × α)) (k : Int) : ((kys d).any fun j => decide (j = .inl k)) = decide (k ∈ keys d) := by
  induction d with
  | nil => rfl
  | cons p d ih =>
    show (decide ((Sum.inl p.1 : Ky) = .inl k) || (kys d).any _) = decide (k ∈ p.1 :: keys d)
    rw [ih]
    by_cases h : p.1 = k
    · simp [h]
    · have h2 : ¬ k = p.1 := fun z => h z.symm
      simp [h, h2]
theorem put_new {d : List (Int × α)} {k : Int} (a : α) (h : k ∉ keys d) : put d k a = d ++ [(k, a)] := by
  induction d with
  | nil => rfl
  | cons p d ih =>
    obtain ⟨j, b⟩ := p
    simp only [keys, List.map_cons, List.mem_cons, not_or] at h
    show (if j = k then _ else _) = _
    rw [if_neg (fun z => h.1 z.symm), ih h.2]
    rfl
theorem putKy_eq {d : List (Int × α)} (nd : (keys d).Nodup) (k : Int) (a : α) : putKy (kys d) (vls f d) (.inl k) (f a) = (kys (put d k a), vls f (put d k a)) := by
  unfold putKy
  rw [kys_any]
  by_cases h : k ∈ keys d
  · rw [if_pos (by simpa using h)]
    induction d with
    | nil => cases h
    | cons p d ih =>
      obtain ⟨j, b⟩ := p
      simp only [keys, List.map_cons, List.nodup_cons] at nd
      by_cases hj : j = k
      · subst hj
        have hz : ∀ (d : List (Int × α)), j ∉ keys d → List.zipWith (fun (x : Ky) w => if x = .inl j then f a else w) (kys d) (vls f d) = vls f d := by
          intro d hd
          induction d with
          | nil => rfl
          | cons q d ih2 =>
            simp only [keys, List.map_cons, List.mem_cons, not_or] at hd
            have : ¬ (Sum.inl q.1 : Ky) = .inl j := by simpa using fun z => hd.1 z.symm
            simp only [kys, vls, List.map_cons, List.zipWith_cons_cons, if_neg this]
            exact congrArg _ (ih2 hd.2)
        have e := hz d nd.1
        simp only [kys, vls, List.map_cons, List.zipWith_cons_cons, if_true, put] at e ⊢
        rw [e]
      · have hk : k ∈ keys d := by
          rcases List.mem_cons.mp h with z | z
          · exact absurd z.symm hj
          · exact z
        have := ih nd.2 hk
        simp only [Prod.mk.injEq] at this
        have hne : ¬ (Sum.inl j : Ky) = .inl k := by simpa using hj
        simp only [kys, vls, List.map_cons, List.zipWith_cons_cons, if_neg hne, put, if_neg hj]
        simp only [kys, vls] at this
        rw [this.2, ← this.1]
  · rw [if_neg (by simpa using h), put_new a h]
    simp [kys, vls]
theorem lookup_of {d : List (Int × α)} (nd : (keys d).Nodup) {p : Int × α} (h : p ∈ d) : d.lookup p.1 = some p.2 := by
  induction d with
  | nil => cases h
  | cons q d ih =>
    obtain ⟨i, b⟩ := q
    simp only [keys, List.map_cons, List.nodup_cons] at nd
    rw [List.lookup_cons]
    rcases List.mem_cons.mp h with rfl | h
    · simp
    · have : p.1 ≠ i := fun z => nd.1 (z ▸ List.mem_map_of_mem (f := (·.1)) h)
      have e : (p.1 == i) = false := by simpa using this
      rw [e]
      exact ih nd.2 h
theorem kys_len (d : List (Int × α)) : (kys d).length = d.length := by simp [kys]
theorem setV_put {d : List (Int × α)} {p : Nat} {st : Sto} (nd : (keys d).Nodup) (h : st[p]? = some (some (oD f d))) (hl : d.length < 1000) (k : Int) (a : α) : setV (.ref p) (.int k) (f a) st = some (st.set p (some (oD f (put d k a)))) := by
  unfold setV
  simp only [h]
  unfold oD
  simp only [kyOf, kys_len]
  rw [if_pos (by unfold sizeLine; omega), putKy_eq nd]
theorem ixV_d {d : List (Int × α)} {x : Va} {st : Sto} (hx : dicOf x st = some (kys d, vls f d)) {k : Int} {a : α} (h : d.lookup k = some a) : ixV x (.int k) st = .ok (f a) st := by
  unfold ixV
  simp only [hx, kyOf, atKy_get, h, Option.map_some]
theorem getV2 {d : List (Int × α)} {x z : Va} {st : Sto} (hx : dicOf x st = some (kys d, vls f d)) (k : Int) : getV x [.int k, z] st = .ok (((d.lookup k).map f).getD z) st := by
  unfold getV
  simp only [hx, kyOf, atKy_get]
/-! the first of a sorted list -/
end
end DI

set_option Elab.async false
set_option linter.all false
set_option maxRecDepth 100000
set_option maxHeartbeats 4000000
/-! patches, plain: numbers, the reader's steps -/
namespace PA
open PySem PySem.Spec PyProof.Rows L2 G C

/-! ### numbers -/
def dig (c : Nat) : Bool := decide (48 ≤ c) && decide (c ≤ 57)
def isDg (t : Tx) : Bool := !t.isEmpty && t.all dig
def valD (t : Tx) : Nat := t.foldl (fun acc c => acc * 10 + (c - 48)) 0
def As (t : Tx) : Prop := ∀ c ∈ t, c < 128
def numP (w : Tx) : Option Nat := if isDg w = true ∧ w.length ≤ 60 ∧ (w.take 1 = [48] → w = [48]) then some (valD w) else none
theorem dig_uni {c : Nat} (h : c < 128) : Unicode.isDigit c = dig c := by
  have k : ∀ n : _root_.Fin 128, Unicode.isDigit n.val = dig n.val := by decide +kernel
  exact k ⟨c, h⟩
theorem isdigit_tx {t : Tx} (h : As t) : Txt.isdigit (mkS t) = isDg t := by
  have e : Txt.isdigit (mkS t) = (decide ((mkS t).length > 0) && (mkS t).cps.all Unicode.isDigit) := rfl
  rw [e, mkS_len, ← Array.all_toList, tl_mkS]
  unfold isDg
  congr 1
  · cases t <;> simp
  · rw [Bool.eq_iff_iff, List.all_eq_true, List.all_eq_true]
    constructor
    · intro g c hc
      rw [← dig_uni (h c hc)]
      exact g c hc
    · intro g c hc
      rw [dig_uni (h c hc)]
      exact g c hc
theorem intText_tx {t : Tx} (h : isDg t = true) (hl : t.length ≤ 4300) : PySem.intText? (mkS t) = some ((valD t : Nat) : Int) := by
  unfold isDg at h
  simp only [Bool.and_eq_true, List.all_eq_true] at h
  have e := PySem.intText_digits (x := mkS t) (by
    rw [tl_mkS]
    intro c hc
    have := h.2 c hc
    unfold dig at this
    simpa using this) (by rw [tl_mkS]; intro z; rw [z] at h; simp at h) (by rw [mkS_len]; exact hl)
  rw [tl_mkS] at e
  exact e
theorem numI_nat (m : Nat) : numI (m : Nat) = (Nat.toDigits 10 m).map Char.toNat := by
  have e := PySem.W.KIN.signs_num m
  rw [mkS_tx, tl_mkS] at e
  exact e
theorem numI_dig (m : Nat) : isDg (numI (m : Nat)) = true := by
  rw [numI_nat]
  unfold isDg
  simp only [Bool.and_eq_true, List.all_eq_true]
  refine ⟨?_, fun c hc => ?_⟩
  · have h := toDigits_len_ge 10 m
    cases e : Nat.toDigits 10 m with
    | nil => rw [e] at h; simp at h
    | cons x r => rfl
  · obtain ⟨ch, hch, rfl⟩ := List.mem_map.mp hc
    have r := digit_range (Nat.isDigit_of_mem_toDigits (by decide) (by decide) hch)
    unfold dig
    simpa using r
theorem numI_as (m : Nat) : ∀ c ∈ numI (m : Nat), 48 ≤ c ∧ c ≤ 57 := fun c hc => by
  have h := numI_dig m
  unfold isDg at h
  simp only [Bool.and_eq_true, List.all_eq_true] at h
  have := h.2 c hc
  unfold dig at this
  simpa using this
theorem numI_len {m k : Nat} (hk : 0 < k) (h : m < 10 ^ k) : (numI (m : Nat)).length ≤ k := by
  rw [numI_nat, List.length_map]
  exact (Nat.length_toDigits_le_iff (by decide) hk).mpr h
end PA

set_option Elab.async false
set_option linter.all false
set_option maxRecDepth 100000
set_option maxHeartbeats 8000000
namespace N
open PySem PySem.Spec PyProof.Rows L2 G C
/-! ### what texts are -/
def bare (t : Tx) : Tx := t.dropWhile (· == 32)
theorem slice_str {m : Bool} {z : Tx} {lo hi : Option Int} {st : Sto} (h : z.length ≤ sizeLine) : sliceV m (.str z) lo hi st = .ok (.str (cut z lo hi)) st := by simp [sliceV, h]
theorem in_sign (neg : Bool) (c : Nat) (z : Tx) (st : Sto) : inV' neg (.str [c]) (.str z) st = .ok (.bl (if neg then !decide (c ∈ z) else decide (c ∈ z))) st := by simp [inV']
theorem strsOf_map : ∀ zs : List Tx, strsOf (zs.map Va.str) = some zs
  | [] => rfl
  | z :: zs => by
    have h := strsOf_map zs
    unfold strsOf at h ⊢
    rw [List.map_cons]
    unfold mapO
    rw [h]
    rfl
theorem mul_str {m : Bool} {z : Tx} {k : Nat} {st : Sto} (hz : z.length ≤ 100) (hk : k ≤ 1000) : mulV m (.str z) (.int (k : Nat)) st = .ok (.str (List.replicate k z).flatten) st := by
  have h1 : i63 (k : Int) = true := by unfold i63; exact decide_eq_true ⟨by omega, by omega⟩
  have h2 : z.length * k ≤ 100 * 1000 := Nat.mul_le_mul hz hk
  have h3 : z.length * k ≤ sizeLine := by unfold sizeLine; omega
  simp [mulV, h1, h3]
end N

set_option Elab.async false
set_option linter.all false
set_option maxRecDepth 100000
set_option maxHeartbeats 4000000
/-! documents, sections; the defs over them that many laws share -/
namespace D
open PySem PySem.Spec PyProof.Rows L2 G C
end D

set_option Elab.async false
set_option linter.all false
set_option maxRecDepth 100000
set_option maxHeartbeats 8000000
namespace N
open PySem PySem.Spec PyProof.Rows L2 G C D
/-! ### slices of texts -/
theorem cut_take {α : Type} (t : List α) (k : Nat) : cut t none (some (k : Int)) = t.take k := by
  unfold cut
  rw [HT.sIx_none, HT.sIx_nat, List.drop_zero, Nat.sub_zero]
  by_cases h : k ≤ t.length
  · rw [Nat.min_eq_left h]
  · rw [Nat.min_eq_right (by omega), List.take_of_length_le (Nat.le_refl _), List.take_of_length_le (by omega)]
theorem cut_drop {α : Type} (t : List α) (k : Nat) : cut t (some (k : Int)) none = t.drop k := by
  unfold cut
  rw [HT.sIx_none, HT.sIx_nat]
  by_cases h : k ≤ t.length
  · rw [Nat.min_eq_left h, List.take_of_length_le (by simp)]
  · rw [Nat.min_eq_right (by omega), Nat.sub_self, List.take_zero, List.drop_of_length_le (by omega)]
/-! ### faults of heads -/
end N

set_option Elab.async false
set_option linter.all false
set_option maxRecDepth 100000
set_option maxHeartbeats 4000000
/-! patches: the reader, plain, and its runs -/
namespace PA
open PySem PySem.Spec PyProof.Rows L2 G C DI
def S_number_of : S :=
  (.seq (.sif (.or (.cons (.not (.mth .isdigit (.var 0) .nil)) (.cons (.cmp .gt (.bif .len false (.cons (.var 0) .nil)) (.glob "DIGITS_MOST")) (.cons (.and (.cons (.cmp .eq (.ix (.var 0) (.int 0)) (.str [48])) (.cons (.cmp .ne (.var 0) (.str [48])) .nil))) .nil))))
  (.seq (.ret .non)
  .nil)
  .nil)
  (.seq (.ret (.bif .int false (.cons (.var 0) .nil)))
  .nil))
def D_number_of : Df := ⟨["word"], 1, S_number_of⟩
def numV : Option Nat → Va
  | none => .non
  | some n => .int (n : Nat)
theorem free_numV (o : Option Nat) : free (numV o) = true := by cases o <;> rfl
theorem number_ok {L : Lm} (hg : L.gl "DIGITS_MOST" = some (.int 60)) {w : Tx} (hw : As w) (hl : w.length ≤ 3000) : runD L D_number_of [.str w] = .ok (numV (numP w)) [] := by
  refine runD_of (fun v s => v = numV (numP w)) [some (.str w)] rfl rfl (fun v s h1 => ?_) fun Q hr => ?_
  · subst h1
    exact ret_free (free_numV _)
  have hs : w.length ≤ sizeLine := Nat.le_trans hl (by decide)
  have e1 : ∀ st, isdigitV (.str w) [] st = .ok (.bl (isDg w)) st := fun st => by
    show R.ok (Va.bl (Txt.isdigit (mkS w))) st = _
    rw [isdigit_tx hw]
  have e2 : ∀ st, lenV [.str w] st = .ok (.int w.length) st := fun st => lenV_str hs
  simp -implicitDefEqProofs [D_number_of, S_number_of, hg, mVar, e1, e2]
  cases hd : isDg w with
  | false =>
    simp -implicitDefEqProofs
    refine hr _ _ ?_
    unfold numP
    rw [if_neg (by rw [hd]; simp)]
    rfl
  | true =>
    simp -implicitDefEqProofs
    by_cases h60 : w.length ≤ 60
    · rw [if_neg (show ¬ (60 : Int) < (w.length : Nat) by omega)]
      cases w with
      | nil => simp [isDg] at hd
      | cons c r =>
        have e3 : ∀ st, ixV (.str (c :: r)) (.int 0) st = .ok (.str [c]) st := fun st => ixV_str (i := 0) hs rfl rfl
        have hit : intText? (mkS (c :: r)) = some ((valD (c :: r) : Nat) : Int) := intText_tx hd (by omega)
        have e4 : ∀ st, toIntV [.str (c :: r)] st = .ok (.int (valD (c :: r) : Nat)) st := fun st => by
          unfold toIntV
          simp only [intOf_str, strOf_str, hit]
          rw [show blOf (.str (c :: r)) = none from rfl]
          simp only
          rw [if_pos (by omega)]
        simp -implicitDefEqProofs [e3, e4]
        by_cases hc : c = 48
        · subst hc
          simp -implicitDefEqProofs
          by_cases hr2 : r = []
          · subst hr2
            simp -implicitDefEqProofs [mVar, e4]
            refine hr _ _ ?_
            unfold numP
            rw [if_pos ⟨hd, h60, fun _ => rfl⟩]
            rfl
          · simp -implicitDefEqProofs [hr2]
            refine hr _ _ ?_
            unfold numP
            rw [if_neg (fun z => by have := z.2.2 rfl; simp [hr2] at this)]
            rfl
        · simp -implicitDefEqProofs [hc, mVar, e4]
          refine hr _ _ ?_
          unfold numP
          rw [if_pos ⟨hd, h60, fun z => by simp [hc] at z⟩]
          rfl
    · rw [if_pos (show (60 : Int) < (w.length : Nat) by omega)]
      simp -implicitDefEqProofs
      refine hr _ _ ?_
      unfold numP
      rw [if_neg (fun z => h60 z.2.1)]
      rfl
end PA

set_option Elab.async false
set_option linter.all false
set_option maxRecDepth 100000
set_option maxHeartbeats 4000000
/-! patches: the reader's defs run -/
namespace PA
open PySem PySem.Spec PyProof.Rows L2 G C DI
def S_read_count : S :=
  (.seq (.set (.inl 1) (.ife (.cmp .eq (.sl false (.var 0) .nil (.int 6)) (.str [101, 100, 105, 116, 115, 32])) (.call "number_of" false (.cons (.sl false (.var 0) (.int 6) .nil) .nil)) .non))
  (.seq (.sif (.or (.cons (.cmp .is_ (.var 1) .non) (.cons (.cmp .gt (.var 1) (.glob "LINES_MOST")) .nil)))
  (.seq (.raisI "BadPatch" (.cons (.int 1) (.cons (.str [99, 111, 117, 110, 116, 32, 105, 115, 32, 101, 120, 112, 101, 99, 116, 101, 100]) .nil)))
  .nil)
  .nil)
  (.seq (.ret (.var 1))
  .nil)))
def D_read_count : Df := ⟨["line", "count"], 1, S_read_count⟩
def S_PatchReader___init__ : S :=
  (.seq (.setF (.var 0) "count" (.var 1))
  (.seq (.setF (.var 0) "edits" (.dnew true))
  (.seq (.setF (.var 0) "at" (.neg (.int 1)))
  (.seq (.setF (.var 0) "rank" (.neg (.int 1)))
  (.seq (.setF (.var 0) "number" (.int 1))
  .nil)))))
def D_PatchReader___init__ : Df := ⟨["self", "count"], 2, S_PatchReader___init__⟩
def S_PatchReader_stop : S :=
  (.seq (.raisI "BadPatch" (.cons (.fld (.var 0) "number") (.cons (.var 1) .nil)))
  .nil)
def D_PatchReader_stop : Df := ⟨["self", "what"], 2, S_PatchReader_stop⟩
def S_PatchReader_read_index : S :=
  (.seq (.set (.inl 2) (.ife (.cmp .eq (.sl false (.var 1) .nil (.int 2)) (.str [64, 32])) (.call "number_of" false (.cons (.sl false (.var 1) (.int 2) .nil) .nil)) .non))
  (.seq (.sif (.cmp .is_ (.var 2) .non)
  (.seq (.ret (.bl false))
  .nil)
  .nil)
  (.seq (.sif (.and (.cons (.cmp .ge (.fld (.var 0) "at") (.int 0)) (.cons (.cmp .lt (.fld (.var 0) "rank") (.int 0)) .nil)))
  (.seq (.expr (.mcall "PatchReader.stop" "PatchReader" "stop" (.var 0) (.cons (.str [110, 111, 116, 104, 105, 110, 103, 32, 105, 115, 32, 101, 100, 105, 116, 101, 100]) .nil)))
  .nil)
  .nil)
  (.seq (.sif (.cmp .le (.var 2) (.fld (.var 0) "at"))
  (.seq (.expr (.mcall "PatchReader.stop" "PatchReader" "stop" (.var 0) (.cons (.str [105, 110, 100, 101, 120, 32, 105, 115, 32, 110, 111, 116, 32, 97, 115, 99, 101, 110, 100, 105, 110, 103]) .nil)))
  .nil)
  .nil)
  (.seq (.sif (.cmp .ge (.var 2) (.fld (.var 0) "count"))
  (.seq (.expr (.mcall "PatchReader.stop" "PatchReader" "stop" (.var 0) (.cons (.str [105, 110, 100, 101, 120, 32, 105, 115, 32, 110, 111, 116, 32, 105, 110, 32, 116, 104, 101, 32, 108, 105, 115, 116]) .nil)))
  .nil)
  .nil)
  (.seq (.setF (.var 0) "at" (.var 2))
  (.seq (.setF (.var 0) "rank" (.neg (.int 1)))
  (.seq (.setIx (.fld (.var 0) "edits") (.var 2) (.tup (.cons (.lst true .nil) (.cons (.glob "KEEP") (.cons (.lst true .nil) .nil)))))
  (.seq (.ret (.bl true))
  .nil)))))))))
def D_PatchReader_read_index : Df := ⟨["self", "line", "at"], 2, S_PatchReader_read_index⟩
def S_PatchReader_read_part : S :=
  (.seq (.set (.inl 2) (.sl false (.var 1) .nil (.int 1)))
  (.seq (.sif (.or (.cons (.kin true (.var 2) "RANKS") (.cons (.and (.cons (.cmp .eq (.var 2) (.str [45])) (.cons (.cmp .ne (.var 1) (.str [45])) .nil))) .nil)))
  (.seq (.expr (.mcall "PatchReader.stop" "PatchReader" "stop" (.var 0) (.cons (.str [108, 105, 110, 101, 32, 105, 115, 32, 110, 111, 116, 32, 107, 110, 111, 119, 110]) .nil)))
  .nil)
  .nil)
  (.seq (.set (.inl 3) (.kix "RANKS" (.var 2)))
  (.seq (.sif (.or (.cons (.cmp .lt (.var 3) (.fld (.var 0) "rank")) (.cons (.and (.cons (.cmp .eq (.var 3) (.int 1)) (.cons (.cmp .eq (.fld (.var 0) "rank") (.int 1)) .nil))) .nil)))
  (.seq (.expr (.mcall "PatchReader.stop" "PatchReader" "stop" (.var 0) (.cons (.str [111, 114, 100, 101, 114, 32, 105, 115, 32, 119, 114, 111, 110, 103]) .nil)))
  .nil)
  .nil)
  (.seq (.setF (.var 0) "rank" (.var 3))
  (.seq (.set (.inr [4, 5, 6]) (.ix (.fld (.var 0) "edits") (.fld (.var 0) "at")))
  (.seq (.sif (.cmp .eq (.var 3) (.int 0))
  (.seq (.expr (.mth .append (.var 4) (.cons (.sl false (.var 1) (.int 1) .nil) .nil)))
  .nil)
  (.seq (.sif (.cmp .eq (.var 3) (.int 2))
  (.seq (.expr (.mth .append (.var 6) (.cons (.sl false (.var 1) (.int 1) .nil) .nil)))
  .nil)
  (.seq (.set (.inl 5) (.ife (.cmp .eq (.var 2) (.str [45])) (.glob "DROP") (.tup (.cons (.str [116, 101, 120, 116]) (.cons (.sl false (.var 1) (.int 1) .nil) .nil)))))
  (.seq (.setIx (.fld (.var 0) "edits") (.fld (.var 0) "at") (.tup (.cons (.var 4) (.cons (.var 5) (.cons (.var 6) .nil)))))
  .nil)))
  .nil))
  .nil)))))))
def D_PatchReader_read_part : Df := ⟨["self", "line", "sign", "rank", "ahead", "change", "behind"], 2, S_PatchReader_read_part⟩
def S_PatchReader_read_line : S :=
  (.seq (.augF (.var 0) "number" false (.int 1))
  (.seq (.sif (.not (.mcall "PatchReader.read_index" "PatchReader" "read_index" (.var 0) (.cons (.var 1) .nil)))
  (.seq (.sif (.cmp .lt (.fld (.var 0) "at") (.int 0))
  (.seq (.expr (.mcall "PatchReader.stop" "PatchReader" "stop" (.var 0) (.cons (.str [101, 100, 105, 116, 32, 105, 115, 32, 101, 120, 112, 101, 99, 116, 101, 100]) .nil)))
  .nil)
  .nil)
  (.seq (.expr (.mcall "PatchReader.read_part" "PatchReader" "read_part" (.var 0) (.cons (.var 1) .nil)))
  .nil))
  .nil)
  .nil))
def D_PatchReader_read_line : Df := ⟨["self", "line"], 2, S_PatchReader_read_line⟩
def S_PatchReader_finished : S :=
  (.seq (.sif (.and (.cons (.cmp .ge (.fld (.var 0) "at") (.int 0)) (.cons (.cmp .lt (.fld (.var 0) "rank") (.int 0)) .nil)))
  (.seq (.expr (.mcall "PatchReader.stop" "PatchReader" "stop" (.var 0) (.cons (.str [110, 111, 116, 104, 105, 110, 103, 32, 105, 115, 32, 101, 100, 105, 116, 101, 100]) .nil)))
  .nil)
  .nil)
  (.seq (.set (.inl 1) (.lst true .nil))
  (.seq (.sfor (.inl 2) (.irng (.cons (.fld (.var 0) "count") .nil))
  (.seq (.set (.inr [3, 4, 5]) (.mth .get (.fld (.var 0) "edits") (.cons (.var 2) (.cons (.tup (.cons (.tup .nil) (.cons (.glob "KEEP") (.cons (.tup .nil) .nil)))) .nil))))
  (.seq (.expr (.mth .append (.var 1) (.cons (.tup (.cons (.bif .tuple false (.cons (.var 3) .nil)) (.cons (.var 4) (.cons (.bif .tuple false (.cons (.var 5) .nil)) .nil)))) .nil)))
  .nil)))
  (.seq (.ret (.var 1))
  .nil))))
def D_PatchReader_finished : Df := ⟨["self", "found", "at", "ahead", "change", "behind"], 1, S_PatchReader_finished⟩
def S_read_patch : S :=
  (.seq (.set (.inl 1) (.mth .split (.var 0) (.cons (.str [10]) .nil)))
  (.seq (.set (.inl 2) (.mkC "PatchReader.__init__" "PatchReader" (.cons (.call "read_count" false (.cons (.ix (.var 1) (.int 0)) .nil)) .nil)))
  (.seq (.sfor (.inl 3) (.sl false (.var 1) (.int 1) .nil)
  (.seq (.expr (.mcall "PatchReader.read_line" "PatchReader" "read_line" (.var 2) (.cons (.var 3) .nil)))
  .nil))
  (.seq (.ret (.mcall "PatchReader.finished" "PatchReader" "finished" (.var 2) .nil))
  .nil))))
def D_read_patch : Df := ⟨["text", "lines", "reader", "line"], 1, S_read_patch⟩
def bpT : Tx := [66, 97, 100, 80, 97, 116, 99, 104]
def owBP : Ow := ⟨bpT, 2, [.c "line ", .p 0, .c ": ", .p 1], [("line", 0), ("what", 1)]⟩
def xBP (n : Nat) (w : Tx) : Exc := ⟨bpT, [([119, 104, 97, 116], .str w), ([108, 105, 110, 101], .int (n : Nat))]⟩
theorem small_nat {k : Nat} (h : k < 1024) : decide (((k : Int).natAbs).log2 < 1920) = true := by
  by_cases h0 : k = 0
  · rw [h0]
    decide
  · exact decide_eq_true ((Nat.log2_lt (by simpa using h0)).mpr (Nat.lt_of_lt_of_le (show ((k : Int).natAbs) < 2 ^ 10 by simpa using h) (Nat.pow_le_pow_right (by decide) (by decide))))
theorem raisBP {env : Ev} {st : Sto} {n : Nat} {w : Tx} (hn : n < 1024) (hw : w.length ≤ 1000) : raisW owBP env [.int (n : Nat), .str w] st = .err (xBP n w) env st := by
  have h1 : pcW [.int (n : Nat), .str w] (.p 0) = true := small_nat hn
  have h2 : pcW [.int (n : Nat), .str w] (.p 1) = true := decide_eq_true (by omega)
  have h : owBP.tx.all (pcW [.int (n : Nat), .str w]) = true := by
    show (decide (("line " : Str).length ≤ 1000000) && (pcW _ (.p 0) && (decide ((": " : Str).length ≤ 1000000) && (pcW _ (.p 1) && true)))) = true
    rw [h1, h2]
    decide +kernel
  unfold raisW
  rw [if_pos ⟨rfl, by decide, by decide, h⟩]
  rfl
def prT : Tx := ("PatchReader" : Str).cps.toList
structure En where
  k : Int
  a : List Tx
  c : List Tx
  b : List Tx
structure Rd where
  at' : Int
  rk : Int
  num : Nat
  es : List En
def fE (x : Nat × List Tx) : Va := .tup [.ref x.1, vTs x.2, .ref (x.1 + 1)]
def dE : Nat → List En → List (Int × (Nat × List Tx))
  | _, [] => []
  | p, e :: r => (e.k, (p, e.c)) :: dE (p + 2) r
def mem (es : List En) : Sto := es.flatMap fun e => [some (.lst (e.a.map .str)), some (.lst (e.b.map .str))]
def fsR (cnt : Nat) (r : Rd) : List (Tx × Va) := [(("count" : Str).cps.toList, .int (cnt : Nat)), (("edits" : Str).cps.toList, .ref 1), (("at" : Str).cps.toList, .int r.at'), (("rank" : Str).cps.toList, .int r.rk), (("number" : Str).cps.toList, .int (r.num : Nat))]
def sR (cnt : Nat) (r : Rd) : Sto := some (.ins prT (fsR cnt r)) :: some (oD fE (dE 2 r.es)) :: mem r.es
def ranks : List (Tx × Va) := [([94], .int 0), ([45], .int 1), ([126], .int 1), ([43], .int 2)]
structure RdL (L : Lm) : Prop where
  o1 : L.xs.ofl prT "count" = true
  o2 : L.xs.ofl prT "edits" = true
  o3 : L.xs.ofl prT "at" = true
  o4 : L.xs.ofl prT "rank" = true
  o5 : L.xs.ofl prT "number" = true
  ow : L.xs.ow "BadPatch" = some owBP
  kd : L.xs.kd "RANKS" = some ranks
  gK : L.gl "KEEP" = some (vTs [keepT])
  gD : L.gl "DROP" = some (vTs [dropT])
section
variable {L : Lm} {cnt : Nat} {r : Rd} {S : Sto}
theorem fl1 (h : RdL L) : fldV L.xs.ofl "count" (.ref 0) (some (.ins prT (fsR cnt r)) :: S) = .ok (.int (cnt : Nat)) (some (.ins prT (fsR cnt r)) :: S) := fldV_ref rfl h.o1 rfl
theorem fl2 (h : RdL L) : fldV L.xs.ofl "edits" (.ref 0) (some (.ins prT (fsR cnt r)) :: S) = .ok (.ref 1) (some (.ins prT (fsR cnt r)) :: S) := fldV_ref rfl h.o2 rfl
theorem fl3 (h : RdL L) : fldV L.xs.ofl "at" (.ref 0) (some (.ins prT (fsR cnt r)) :: S) = .ok (.int r.at') (some (.ins prT (fsR cnt r)) :: S) := fldV_ref rfl h.o3 rfl
theorem fl4 (h : RdL L) : fldV L.xs.ofl "rank" (.ref 0) (some (.ins prT (fsR cnt r)) :: S) = .ok (.int r.rk) (some (.ins prT (fsR cnt r)) :: S) := fldV_ref rfl h.o4 rfl
theorem fl5 (h : RdL L) : fldV L.xs.ofl "number" (.ref 0) (some (.ins prT (fsR cnt r)) :: S) = .ok (.int (r.num : Nat)) (some (.ins prT (fsR cnt r)) :: S) := fldV_ref rfl h.o5 rfl
theorem st3 (h : RdL L) {env : Ev} (a : Int) : setFW L.xs.ofl "at" (.ref 0) (.int a) env (some (.ins prT (fsR cnt r)) :: S) = .nx env (some (.ins prT (fsR cnt { r with at' := a })) :: S) := setFW_ref (fs := fsR cnt r) rfl h.o3 (by show 5 < 900; decide)
theorem st4 (h : RdL L) {env : Ev} (a : Int) : setFW L.xs.ofl "rank" (.ref 0) (.int a) env (some (.ins prT (fsR cnt r)) :: S) = .nx env (some (.ins prT (fsR cnt { r with rk := a })) :: S) := setFW_ref (fs := fsR cnt r) rfl h.o4 (by show 5 < 900; decide)
theorem au5 (h : RdL L) {env : Ev} {me : Mx Va} (he : me env (some (.ins prT (fsR cnt r)) :: S) = .ok (.int 1) (some (.ins prT (fsR cnt r)) :: S)) : augFW L.xs.ofl "number" false (.ref 0) env me (some (.ins prT (fsR cnt r)) :: S) = .nx env (some (.ins prT (fsR cnt { r with num := r.num + 1 })) :: S) := augFW_ref (fs := fsR cnt r) rfl h.o5 (by show 5 < 900; decide) rfl he
theorem mcR {φ : Fi} {m : Str} {env : Ev} {ml : Mx (List Va)} (h : (fsR cnt r).lookup m.cps.toList = none) : mcallW φ "PatchReader" m (.ref 0) env ml (some (.ins prT (fsR cnt r)) :: S) = (ml env (some (.ins prT (fsR cnt r)) :: S)).bind fun ws st => φ (.ref 0 :: ws) st := mcallW_ref rfl rfl h
end
theorem sR_eq (cnt : Nat) (r : Rd) : sR cnt r = some (.ins prT (fsR cnt r)) :: some (oD fE (dE 2 r.es)) :: mem r.es := rfl
theorem stop_run {L : Lm} (hL : RdL L) {cnt : Nat} {r : Rd} {S : Sto} {w : Tx} (hw : w.length ≤ 1000) (hn : r.num < 1024) : runI L D_PatchReader_stop [.ref 0, .str w] (some (.ins prT (fsR cnt r)) :: S) = .err (xBP r.num w) (some (.ins prT (fsR cnt r)) :: S) := by
  refine runI_any _ [some (.ref 0), some (.str w)] rfl rfl fun Q _ _ hx => ?_
  simp -implicitDefEqProofs [D_PatchReader_stop, S_PatchReader_stop, mVar, hL.ow, fl5 hL, raisBP hn hw]
  exact hx _ _ _ rfl
theorem dE_app : ∀ (p : Nat) (A B : List En), dE p (A ++ B) = dE p A ++ dE (p + 2 * A.length) B
  | p, [], B => by simp [dE]
  | p, e :: A, B => by
    show (e.k, (p, e.c)) :: dE (p + 2) (A ++ B) = _
    rw [dE_app (p + 2) A B]
    show _ = (e.k, (p, e.c)) :: (dE (p + 2) A ++ _)
    simp only [List.length_cons]
    rw [show p + 2 + 2 * A.length = p + 2 * (A.length + 1) by omega]
theorem dE_keys : ∀ (p : Nat) (A : List En), keys (dE p A) = A.map (·.k)
  | p, [] => rfl
  | p, e :: A => by
    show e.k :: keys (dE (p + 2) A) = _
    rw [dE_keys (p + 2) A]
    rfl
theorem dE_len : ∀ (p : Nat) (A : List En), (dE p A).length = A.length
  | p, [] => rfl
  | p, e :: A => by
    show (dE (p + 2) A).length + 1 = _
    rw [dE_len (p + 2) A]
    rfl
theorem mem_len : ∀ (A : List En), (mem A).length = 2 * A.length
  | [] => rfl
  | e :: A => by
    show ((some (Ob.lst (e.a.map .str))) :: (some (Ob.lst (e.b.map .str))) :: mem A).length = _
    simp only [List.length_cons, mem_len A]
    omega
theorem mem_app (A B : List En) : mem (A ++ B) = mem A ++ mem B := by simp [mem]
/-! ### plain -/
def atT : Tx := [64, 32]
def nothingT : Tx := [110, 111, 116, 104, 105, 110, 103, 32, 105, 115, 32, 101, 100, 105, 116, 101, 100]
def ascT : Tx := [105, 110, 100, 101, 120, 32, 105, 115, 32, 110, 111, 116, 32, 97, 115, 99, 101, 110, 100, 105, 110, 103]
def rangeT : Tx := [105, 110, 100, 101, 120, 32, 105, 115, 32, 110, 111, 116, 32, 105, 110, 32, 116, 104, 101, 32, 108, 105, 115, 116]
def expectT : Tx := [101, 100, 105, 116, 32, 105, 115, 32, 101, 120, 112, 101, 99, 116, 101, 100]
def knownT : Tx := [108, 105, 110, 101, 32, 105, 115, 32, 110, 111, 116, 32, 107, 110, 111, 119, 110]
def orderT : Tx := [111, 114, 100, 101, 114, 32, 105, 115, 32, 119, 114, 111, 110, 103]
def idx (t : Tx) : Option Nat := if t.take 2 = atT then numP (t.drop 2) else none
def rIdx (cnt : Nat) (r : Rd) (i : Nat) : Option Tx := if 0 ≤ r.at' ∧ r.rk < 0 then some nothingT else if (i : Int) ≤ r.at' then some ascT else if cnt ≤ i then some rangeT else none
def newE (r : Rd) (i : Nat) : Rd := { r with at' := i, rk := -1, es := r.es ++ [⟨i, [], [keepT], []⟩] }
structure RdOk (r : Rd) : Prop where
  num : r.num < 500
  len : r.es.length ≤ r.num
  nd : (r.es.map (·.k)).Nodup
  le : ∀ e ∈ r.es, e.k ≤ r.at'
theorem index_run {L : Lm} (hL : RdL L) (hn : ∀ w : Tx, As w → w.length ≤ 3000 → ∃ s, L.fn "number_of" [.str w] = .ok (numV (numP w)) s) (hs : ∀ (cnt : Nat) (r : Rd) (S : Sto) (w : Tx), w.length ≤ 1000 → r.num < 1024 → L.fi "PatchReader.stop" [.ref 0, .str w] (some (.ins prT (fsR cnt r)) :: S) = .err (xBP r.num w) (some (.ins prT (fsR cnt r)) :: S))
    {cnt : Nat} {r : Rd} (hr : RdOk r) {t : Tx} (ht : As t) (htl : t.length ≤ 1000) :
    runI L D_PatchReader_read_index [.ref 0, .str t] (sR cnt r) = match idx t with
      | none => .ok (.bl false) (sR cnt r)
      | some i => match rIdx cnt r i with
        | some w => .err (xBP r.num w) (sR cnt r)
        | none => .ok (.bl true) (sR cnt (newE r i)) := by
  have hnum := hr.num
  have htz : t.length ≤ sizeLine := Nat.le_trans htl (by decide)
  have q1 : cut t none (some 2) = t.take 2 := _root_.N.cut_take t 2
  have q2 : cut t (some 2) none = t.drop 2 := _root_.N.cut_drop t 2
  have e1 : ∀ st, sliceV false (.str t) none (some 2) st = .ok (.str (t.take 2)) st := fun st => by rw [_root_.N.slice_str htz, q1]
  have e2 : ∀ st, sliceV false (.str t) (some 2) none st = .ok (.str (t.drop 2)) st := fun st => by rw [_root_.N.slice_str htz, q2]
  have e3 : ∀ st, callP false (L.fn "number_of") [.str (t.drop 2)] st = .ok (numV (numP (t.drop 2))) st := fun st => by
    obtain ⟨s, e⟩ := hn (t.drop 2) (fun c hc => ht c (List.mem_of_mem_drop hc)) (by rw [List.length_drop]; omega)
    exact callP_free rfl e
  refine runI_any _ [some (.ref 0), some (.str t), none] rfl rfl fun Q _ hq hx => ?_
  rw [sR_eq]
  simp -implicitDefEqProofs [D_PatchReader_read_index, S_PatchReader_read_index, mVar, e1, e2]
  unfold idx at hq hx
  by_cases h1 : t.take 2 = atT
  · have h1' : t.take 2 = [64, 32] := h1
    rw [if_pos h1] at hq hx
    simp -implicitDefEqProofs [h1', mVar, e3]
    cases hi : numP (t.drop 2) with
    | none =>
      rw [hi] at hq hx
      simp -implicitDefEqProofs [numV, G.isNon]
      exact hq _ _ rfl
    | some i =>
      rw [hi] at hq hx
      simp -implicitDefEqProofs [numV, G.isNon, mVar, fl3 hL, fl4 hL]
      simp only [rIdx] at hq hx
      by_cases c1 : 0 ≤ r.at' ∧ r.rk < 0
      · rw [if_pos c1] at hq hx
        obtain ⟨c11, c12⟩ := c1
        have hc : (fsR cnt r).lookup ("stop" : Str).cps.toList = none := rfl
        simp -implicitDefEqProofs [c11, c12, mVar, fl3 hL, fl4 hL, mcR hc, hs cnt r _ [110, 111, 116, 104, 105, 110, 103, 32, 105, 115, 32, 101, 100, 105, 116, 101, 100] (by decide) (by omega)]
        exact hx _ _ _ rfl
      rw [if_neg c1] at hq hx
      refine wp_cut (fun e s => e = [some (.ref 0), some (.str t), some (.int (i : Nat))] ∧ s = sR cnt r) (fun R h _ _ _ => ?_) ?_
      · by_cases c11 : 0 ≤ r.at'
        · simp -implicitDefEqProofs [c11, mVar, fl3 hL, fl4 hL, show ¬ r.rk < 0 from fun z => c1 ⟨c11, z⟩]
          exact h _ _ ⟨rfl, rfl⟩
        · simp -implicitDefEqProofs [c11, mVar, fl3 hL, fl4 hL]
          exact h _ _ ⟨rfl, rfl⟩
      have hcs : (fsR cnt r).lookup ("stop" : Str).cps.toList = none := rfl
      rintro e s ⟨rfl, rfl⟩
      rw [sR_eq]
      by_cases c2 : (i : Int) ≤ r.at'
      · rw [if_pos c2] at hq hx
        simp -implicitDefEqProofs [c2, mVar, fl3 hL, mcR hcs, hs cnt r _ [105, 110, 100, 101, 120, 32, 105, 115, 32, 110, 111, 116, 32, 97, 115, 99, 101, 110, 100, 105, 110, 103] (by decide) (by omega)]
        exact hx _ _ _ rfl
      rw [if_neg c2] at hq hx
      by_cases c3 : cnt ≤ i
      · rw [if_pos c3] at hq hx
        simp -implicitDefEqProofs [c2, c3, mVar, fl1 hL, fl3 hL, mcR hcs, hs cnt r _ [105, 110, 100, 101, 120, 32, 105, 115, 32, 110, 111, 116, 32, 105, 110, 32, 116, 104, 101, 32, 108, 105, 115, 116] (by decide) (by omega)]
        exact hx _ _ _ rfl
      rw [if_neg c3] at hq hx
      have hk : (i : Int) ∉ keys (dE 2 r.es) := by
        rw [dE_keys]
        intro z
        obtain ⟨e, he, hke⟩ := List.mem_map.mp z
        have := hr.le e he
        omega
      have hsv : ∀ (r' : Rd) (p q : Nat), p = 2 + 2 * r.es.length → q = p + 1 → setV (.ref 1) (.int (i : Nat)) (.tup [.ref p, vTs [keepT], .ref q]) (some (.ins prT (fsR cnt r')) :: (some (oD fE (dE 2 r.es)) :: (mem r.es ++ [some (.lst []), some (.lst [])]))) = some (some (.ins prT (fsR cnt r')) :: (some (oD fE (dE 2 (r.es ++ [⟨i, [], [keepT], []⟩]))) :: mem (r.es ++ [⟨i, [], [keepT], []⟩]))) := fun r' p q hp hq => by
        subst hq
        subst hp
        have := setV_put (f := fE) (p := 1) (d := dE 2 r.es) (st := some (.ins prT (fsR cnt r')) :: (some (oD fE (dE 2 r.es)) :: (mem r.es ++ [some (.lst []), some (.lst [])]))) (by rw [dE_keys]; exact hr.nd) rfl (by rw [dE_len]; have := hr.len; omega) (i : Nat) (2 + 2 * r.es.length, [keepT])
        rw [put_new _ hk] at this
        rw [show Va.tup [.ref (2 + 2 * r.es.length), vTs [keepT], .ref (2 + 2 * r.es.length + 1)] = fE (2 + 2 * r.es.length, [keepT]) from rfl, this]
        rw [dE_app, mem_app]
        simp [List.set, dE, mem]
      have mk0 : ∀ st, mkL true [] st = .ok (.ref st.length) (st ++ [some (.lst [])]) := fun st => mkL_ref (by decide)
      simp -implicitDefEqProofs [c2, c3, mVar, fl1 hL, fl3 hL, st3 hL, st4 hL]
      simp -implicitDefEqProofs [mSetIx, mVar, mk0, mkT, sizeLine, hL.gK, mem_len, fl2 hL]
      rw [hsv _ _ _ (by omega) (by omega)]
      simp -implicitDefEqProofs
      exact hq _ _ rfl
  · rw [if_neg h1] at hq hx
    have h1' : ¬ t.take 2 = [64, 32] := h1
    simp -implicitDefEqProofs [h1', mVar, numV, G.isNon]
    exact hq _ _ rfl
/-! ### a part -/
def rank (t : Tx) : Option Int := if t.take 1 = [94] then some 0 else if t.take 1 = [45] then (if t = [45] then some 1 else none) else if t.take 1 = [126] then some 1 else if t.take 1 = [43] then some 2 else none
def rPart (r : Rd) (t : Tx) : Tx ⊕ Int := match rank t with
  | none => .inl knownT
  | some k => if k < r.rk ∨ (k = 1 ∧ r.rk = 1) then .inl orderT else .inr k
def modE (e : En) (k : Int) (t : Tx) : En := if k = 0 then { e with a := e.a ++ [t.drop 1] } else if k = 2 then { e with b := e.b ++ [t.drop 1] } else { e with c := if t.take 1 = [45] then [dropT] else [textT, t.drop 1] }
theorem rank_none {t : Tx} (h : rank t = none) : ranks.lookup (t.take 1) = none ∨ (t.take 1 = [45] ∧ t ≠ [45]) := by
  unfold rank at h
  by_cases h1 : t.take 1 = [94]
  · rw [if_pos h1] at h; cases h
  rw [if_neg h1] at h
  by_cases h2 : t.take 1 = [45]
  · rw [if_pos h2] at h
    by_cases h3 : t = [45]
    · rw [if_pos h3] at h; cases h
    · exact .inr ⟨h2, h3⟩
  rw [if_neg h2] at h
  by_cases h3 : t.take 1 = [126]
  · rw [if_pos h3] at h; cases h
  rw [if_neg h3] at h
  by_cases h4 : t.take 1 = [43]
  · rw [if_pos h4] at h; cases h
  left
  have b1 : (t.take 1 == [94]) = false := by simpa using h1
  have b2 : (t.take 1 == [45]) = false := by simpa using h2
  have b3 : (t.take 1 == [126]) = false := by simpa using h3
  have b4 : (t.take 1 == [43]) = false := by simpa using h4
  unfold ranks
  simp only [List.lookup_cons, b1, b2, b3, b4, List.lookup_nil]
theorem rank_some {t : Tx} {k : Int} (h : rank t = some k) : ranks.lookup (t.take 1) = some (.int k) ∧ (t.take 1 = [45] → t = [45]) ∧ (k = 0 ∨ k = 1 ∨ k = 2) := by
  unfold rank at h
  by_cases h1 : t.take 1 = [94]
  · rw [if_pos h1] at h; cases h
    rw [h1]
    exact ⟨rfl, fun z => (by cases z), .inl rfl⟩
  rw [if_neg h1] at h
  by_cases h2 : t.take 1 = [45]
  · rw [if_pos h2] at h
    by_cases h3 : t = [45]
    · rw [if_pos h3] at h; cases h
      rw [h2]
      exact ⟨rfl, fun _ => h3, .inr (.inl rfl)⟩
    · rw [if_neg h3] at h; cases h
  rw [if_neg h2] at h
  by_cases h3 : t.take 1 = [126]
  · rw [if_pos h3] at h; cases h
    rw [h3]
    exact ⟨rfl, fun z => (by cases z), .inr (.inl rfl)⟩
  rw [if_neg h3] at h
  by_cases h4 : t.take 1 = [43]
  · rw [if_pos h4] at h; cases h
    rw [h4]
    exact ⟨rfl, fun z => (by cases z), .inr (.inr rfl)⟩
  rw [if_neg h4] at h
  cases h
theorem put_last : ∀ (p : Nat) (A : List En) (e : En) (c : List Tx), e.k ∉ A.map (·.k) → put (dE p (A ++ [e])) e.k (p + 2 * A.length, c) = dE p (A ++ [{ e with c := c }])
  | p, [], e, c, _ => by
    show (if e.k = e.k then (e.k, (p + 2 * 0, c)) :: [] else _) = [(e.k, (p, c))]
    rw [if_pos rfl]
    rfl
  | p, x :: A, e, c, h => by
    simp only [List.map_cons, List.mem_cons, not_or] at h
    show (if x.k = e.k then _ else (x.k, (p, x.c)) :: put (dE (p + 2) (A ++ [e])) e.k (p + 2 * (A.length + 1), c)) = (x.k, (p, x.c)) :: dE (p + 2) (A ++ [{ e with c := c }])
    rw [if_neg fun z => h.1 z.symm, show p + 2 * (A.length + 1) = p + 2 + 2 * A.length by omega, put_last (p + 2) A e c h.2]
section
variable {x y u v w : Option Ob} {A : List En}
theorem at_a : (x :: y :: (mem A ++ [u, v]))[2 + 2 * A.length]? = some u := by
  rw [show 2 + 2 * A.length = 2 * A.length + 1 + 1 by omega, List.getElem?_cons_succ, List.getElem?_cons_succ, List.getElem?_append_right (by rw [mem_len]; omega), mem_len]
  simp
theorem at_b : (x :: y :: (mem A ++ [u, v]))[2 + 2 * A.length + 1]? = some v := by
  rw [show 2 + 2 * A.length + 1 = 2 * A.length + 1 + 1 + 1 by omega, List.getElem?_cons_succ, List.getElem?_cons_succ, List.getElem?_append_right (by rw [mem_len]; omega), mem_len]
  simp
theorem set_a : (x :: y :: (mem A ++ [u, v])).set (2 + 2 * A.length) w = x :: y :: (mem A ++ [w, v]) := by
  rw [show 2 + 2 * A.length = 2 * A.length + 1 + 1 by omega, List.set_cons_succ, List.set_cons_succ, List.set_append_right _ _ (by rw [mem_len]; omega), mem_len]
  simp
theorem set_b : (x :: y :: (mem A ++ [u, v])).set (2 + 2 * A.length + 1) w = x :: y :: (mem A ++ [u, w]) := by
  rw [show 2 + 2 * A.length + 1 = 2 * A.length + 1 + 1 + 1 by omega, List.set_cons_succ, List.set_cons_succ, List.set_append_right _ _ (by rw [mem_len]; omega), mem_len]
  simp
end
theorem mem_last (A : List En) (e : En) : mem (A ++ [e]) = mem A ++ [some (.lst (e.a.map .str)), some (.lst (e.b.map .str))] := by rw [mem_app]; rfl
theorem dic1 {d : List (Int × (Nat × List Tx))} {x : Option Ob} {S : Sto} : dicOf (.ref 1) (x :: some (oD fE d) :: S) = some (kys d, vls fE d) := dic_ref rfl
def StopH (L : Lm) : Prop := ∀ (cnt : Nat) (r : Rd) (S : Sto) (w : Tx), w.length ≤ 1000 → r.num < 1024 → L.fi "PatchReader.stop" [.ref 0, .str w] (some (.ins prT (fsR cnt r)) :: S) = .err (xBP r.num w) (some (.ins prT (fsR cnt r)) :: S)
theorem part_run {L : Lm} (hL : RdL L) (hs : StopH L) {cnt : Nat} {r : Rd} (hr : RdOk r) {A : List En} {e : En} (he : r.es = A ++ [e]) (hke : e.k = r.at') (ha : e.a.length ≤ 500) (hb : e.b.length ≤ 500) {t : Tx} (htl : t.length ≤ 1000) :
    runI L D_PatchReader_read_part [.ref 0, .str t] (sR cnt r) = match rPart r t with
      | .inl w => .err (xBP r.num w) (sR cnt r)
      | .inr k => .ok .non (sR cnt { r with rk := k, es := A ++ [modE e k t] }) := by
  have hnum := hr.num
  have htz : t.length ≤ sizeLine := Nat.le_trans htl (by decide)
  have q1 : cut t none (some 1) = t.take 1 := _root_.N.cut_take t 1
  have q2 : cut t (some 1) none = t.drop 1 := _root_.N.cut_drop t 1
  have e1 : ∀ st, sliceV false (.str t) none (some 1) st = .ok (.str (t.take 1)) st := fun st => by rw [_root_.N.slice_str htz, q1]
  obtain ⟨td, htd⟩ : ∃ td, t.drop 1 = td := ⟨_, rfl⟩
  have e2 : ∀ st, sliceV false (.str t) (some 1) none st = .ok (.str td) st := fun st => by rw [_root_.N.slice_str htz, q2, htd]
  have hcs : (fsR cnt r).lookup ("stop" : Str).cps.toList = none := rfl
  refine runI_any _ [some (.ref 0), some (.str t), none, none, none, none, none] rfl rfl fun Q hn hq hx => ?_
  rw [sR_eq]
  simp -implicitDefEqProofs [D_PatchReader_read_part, S_PatchReader_read_part, mVar, e1, hL.kd, mKin_eq, kinV]
  unfold rPart at hn hq hx
  cases hk : rank t with
  | none =>
    rw [hk] at hx
    have hx := fun e s => hx (xBP r.num knownT) e s
    rcases rank_none hk with h | ⟨h1, h2⟩
    · simp -implicitDefEqProofs [h, mVar, mcR hcs, hs cnt r _ [108, 105, 110, 101, 32, 105, 115, 32, 110, 111, 116, 32, 107, 110, 111, 119, 110] (by decide) (by omega)]
      exact hx _ _ rfl
    · have h3 : ranks.lookup [45] = some (.int 1) := rfl
      simp -implicitDefEqProofs [h1, h2, h3, mVar, mcR hcs, hs cnt r _ [108, 105, 110, 101, 32, 105, 115, 32, 110, 111, 116, 32, 107, 110, 111, 119, 110] (by decide) (by omega)]
      exact hx _ _ rfl
  | some k =>
    rw [hk] at hn hq hx
    simp only at hn hq hx
    obtain ⟨k1, k2, k3⟩ := rank_some hk
    refine wp_cut (fun e s => e = [some (.ref 0), some (.str t), some (.str (t.take 1)), none, none, none, none] ∧ s = sR cnt r) (fun R h _ _ _ => ?_) ?_
    · by_cases h1 : t.take 1 = [45]
      · have h2 := k2 h1
        subst h2
        have k1' : ranks.lookup [45] = some (.int k) := k1
        simp -implicitDefEqProofs [k1', mVar]
        exact h _ _ ⟨rfl, rfl⟩
      · simp -implicitDefEqProofs [k1, h1, mVar]
        exact h _ _ ⟨rfl, rfl⟩
    rintro en s ⟨rfl, rfl⟩
    rw [sR_eq]
    simp -implicitDefEqProofs [mVar, fl4 hL, hL.kd, mKix_eq, kixV, k1]
    by_cases c1 : k < r.rk ∨ (k = 1 ∧ r.rk = 1)
    · rw [if_pos c1] at hx
      have hx := fun e s => hx (xBP r.num orderT) e s
      rcases c1 with c1 | ⟨c1, c2⟩
      · simp -implicitDefEqProofs [c1, mVar, mcR hcs, hs cnt r _ [111, 114, 100, 101, 114, 32, 105, 115, 32, 119, 114, 111, 110, 103] (by decide) (by omega)]
        exact hx _ _ rfl
      · simp -implicitDefEqProofs [c1, c2, mVar, fl4 hL, mcR hcs, hs cnt r _ [111, 114, 100, 101, 114, 32, 105, 115, 32, 119, 114, 111, 110, 103] (by decide) (by omega)]
        exact hx _ _ rfl
    rw [if_neg c1] at hn hq
    refine wp_cut (fun e s => e = [some (.ref 0), some (.str t), some (.str (t.take 1)), some (.int k), none, none, none] ∧ s = sR cnt r) (fun R h _ _ _ => ?_) ?_
    · have c2 : ¬ k < r.rk := fun z => c1 (.inl z)
      by_cases c3 : k = 1
      · have c4 : ¬ r.rk = 1 := fun z => c1 (.inr ⟨c3, z⟩)
        subst c3
        simp -implicitDefEqProofs [c2, c4, mVar, fl4 hL]
        exact h _ _ ⟨rfl, rfl⟩
      · simp -implicitDefEqProofs [c2, c3, mVar, fl4 hL]
        exact h _ _ ⟨rfl, rfl⟩
    rintro en s ⟨rfl, rfl⟩
    rw [sR_eq]
    have hlk : (dE 2 r.es).lookup r.at' = some (2 + 2 * A.length, e.c) := by
      rw [← hke]
      refine lookup_of (p := (e.k, (2 + 2 * A.length, e.c))) (by rw [dE_keys]; exact hr.nd) ?_
      rw [he, dE_app]
      simp [dE]
    have hix : ∀ (x : Option Ob) (S : Sto), ixV (.ref 1) (.int r.at') (x :: some (oD fE (dE 2 r.es)) :: S) = .ok (.tup [.ref (2 + 2 * A.length), vTs e.c, .ref (2 + 2 * A.length + 1)]) (x :: some (oD fE (dE 2 r.es)) :: S) := fun x S => ixV_d dic1 hlk
    have hla : ∀ (x y : Option Ob), tyB "list" (.ref (2 + 2 * A.length)) (x :: y :: (mem A ++ [some (.lst (e.a.map .str)), some (.lst (e.b.map .str))])) = true := fun x y => tyB_ref at_a
    have hlb : ∀ (x y : Option Ob), tyB "list" (.ref (2 + 2 * A.length + 1)) (x :: y :: (mem A ++ [some (.lst (e.a.map .str)), some (.lst (e.b.map .str))])) = true := fun x y => tyB_ref at_b
    have haa : ∀ (x y : Option Ob), appendV (.ref (2 + 2 * A.length)) [.str (td)] (x :: y :: (mem A ++ [some (.lst (e.a.map .str)), some (.lst (e.b.map .str))])) = .ok .non (x :: y :: (mem A ++ [some (.lst ((e.a ++ [td]).map .str)), some (.lst (e.b.map .str))])) := fun x y => by
      rw [append_ok at_a (by rw [List.length_map]; unfold sizeLine; omega), set_a]
      simp
    have hab : ∀ (x y : Option Ob), appendV (.ref (2 + 2 * A.length + 1)) [.str (td)] (x :: y :: (mem A ++ [some (.lst (e.a.map .str)), some (.lst (e.b.map .str))])) = .ok .non (x :: y :: (mem A ++ [some (.lst (e.a.map .str)), some (.lst ((e.b ++ [td]).map .str))])) := fun x y => by
      rw [append_ok at_b (by rw [List.length_map]; unfold sizeLine; omega), set_b]
      simp
    have hnd : e.k ∉ A.map (·.k) := by
      have := hr.nd
      rw [he, List.map_append, List.nodup_append] at this
      intro z
      exact this.2.2 _ z _ (by simp) rfl
    have hsv : ∀ (x : Option Ob) (S : Sto) (c : List Tx), setV (.ref 1) (.int r.at') (.tup [.ref (2 + 2 * A.length), vTs c, .ref (2 + 2 * A.length + 1)]) (x :: some (oD fE (dE 2 r.es)) :: S) = some (x :: some (oD fE (dE 2 (A ++ [{ e with c := c }]))) :: S) := fun x S c => by
      have := setV_put (f := fE) (p := 1) (d := dE 2 r.es) (st := x :: some (oD fE (dE 2 r.es)) :: S) (by rw [dE_keys]; exact hr.nd) rfl (by rw [dE_len]; have := hr.len; omega) r.at' (2 + 2 * A.length, c)
      rw [← hke, he, put_last 2 A e c hnd] at this
      rw [← hke, he]
      exact this
    simp -implicitDefEqProofs [mVar, st4 hL, fl2 hL, fl3 hL, hix]
    rw [he, mem_last]
    rw [he] at hsv
    have fin : ∀ (k : Int) (a b : List Tx) (c : List Tx), modE e k t = ⟨e.k, a, c, b⟩ → (∀ en : Ev, (.ok .non (sR cnt { r with rk := k, es := A ++ [modE e k t] }) : R Va) = .ok .non (some (.ins prT (fsR cnt { r with rk := k })) :: some (oD fE (dE 2 (A ++ [{ e with c := c }]))) :: (mem A ++ [some (.lst (a.map .str)), some (.lst (b.map .str))]))) := fun k a b c h _ => by
      rw [h]
      unfold sR
      simp only [mem_last]
      rw [dE_app, dE_app]
      rfl
    rcases k3 with rfl | rfl | rfl
    · simp -implicitDefEqProofs [mVar, hla, haa, e2]
      refine hn _ _ ?_
      refine Eq.trans (fin 0 (e.a ++ [td]) e.b e.c (by unfold modE; rw [if_pos rfl, htd]) []) ?_
      simp [he, fsR]
    · by_cases h1 : t.take 1 = [45]
      · simp -implicitDefEqProofs [mVar, e2, h1, mSetIx, hL.gD, mkT, sizeLine, fl2 hL, fl3 hL, hsv]
        refine hn _ _ ?_
        refine Eq.trans (fin 1 e.a e.b [dropT] (by unfold modE; rw [if_neg (by decide), if_neg (by decide), if_pos h1]) []) ?_
        simp [he, fsR]
      · simp -implicitDefEqProofs [mVar, e2, h1, mSetIx, mkT, sizeLine, fl2 hL, fl3 hL]
        rw [show Va.tup [.str [116, 101, 120, 116], .str td] = vTs [textT, td] from rfl, hsv]
        simp -implicitDefEqProofs
        refine hn _ _ ?_
        refine Eq.trans (fin 1 e.a e.b [textT, td] (by unfold modE; rw [if_neg (by decide), if_neg (by decide), if_neg h1, htd]) []) ?_
        simp [he, fsR]
    · simp -implicitDefEqProofs [mVar, hlb, hab, e2]
      refine hn _ _ ?_
      refine Eq.trans (fin 2 e.a (e.b ++ [td]) e.c (by unfold modE; rw [if_neg (by decide), if_pos rfl, htd]) []) ?_
      simp [he, fsR]

end PA

set_option Elab.async false
set_option linter.all false
set_option maxRecDepth 100000
set_option maxHeartbeats 4000000
/-! patches: the reader over all lines -/
namespace PA
open PySem PySem.Spec PyProof.Rows L2 G C DI
def stepL (cnt : Nat) (r : Rd) (t : Tx) : (Nat × Tx) ⊕ Rd :=
  match idx t with
  | some i => match rIdx cnt r i with
    | some w => .inl (r.num + 1, w)
    | none => .inr (newE { r with num := r.num + 1 } i)
  | none => if r.at' < 0 then .inl (r.num + 1, expectT) else match rPart r t with
    | .inl w => .inl (r.num + 1, w)
    | .inr k => .inr { r with num := r.num + 1, rk := k, es := r.es.dropLast ++ (r.es.getLast?.map fun e => modE e k t).toList }
def rdL (cnt : Nat) : Rd → List Tx → (Nat × Tx) ⊕ Rd
  | r, [] => .inr r
  | r, t :: ts => match stepL cnt r t with
    | .inl x => .inl x
    | .inr r' => rdL cnt r' ts
structure RdI (r : Rd) : Prop where
  ok : RdOk r
  no : r.at' < 0 → r.es = []
  yes : 0 ≤ r.at' → ∃ A e, r.es = A ++ [e] ∧ e.k = r.at'
  sz : ∀ e ∈ r.es, e.a.length ≤ r.num ∧ e.b.length ≤ r.num
  lo : -1 ≤ r.at'
theorem step_ok {cnt : Nat} {r r' : Rd} {t : Tx} (h : RdI r) (hn : r.num + 1 < 500) (e : stepL cnt r t = .inr r') : RdI r' ∧ r'.num = r.num + 1 := by
  unfold stepL at e
  have hlen := h.ok.len
  cases hi : idx t with
  | some i =>
    rw [hi] at e
    simp only at e
    cases hx : rIdx cnt r i with
    | some w => rw [hx] at e; cases e
    | none =>
      rw [hx] at e
      cases e
      have hgt : r.at' < i := by
        unfold rIdx at hx
        by_cases c1 : 0 ≤ r.at' ∧ r.rk < 0
        · rw [if_pos c1] at hx; cases hx
        rw [if_neg c1] at hx
        by_cases c2 : (i : Int) ≤ r.at'
        · rw [if_pos c2] at hx; cases hx
        omega
      refine ⟨⟨⟨hn, ?_, ?_, ?_⟩, ?_, ?_, ?_, ?_⟩, rfl⟩
      · show (r.es ++ [(⟨i, [], [keepT], []⟩ : En)]).length ≤ r.num + 1
        rw [List.length_append]
        simp only [List.length_cons, List.length_nil]
        omega
      · show ((r.es ++ [(⟨i, [], [keepT], []⟩ : En)]).map (fun e => e.k)).Nodup
        rw [List.map_append, List.nodup_append]
        refine ⟨h.ok.nd, by simp, fun x hx y hy => ?_⟩
        obtain ⟨e, he, rfl⟩ := List.mem_map.mp hx
        have := h.ok.le e he
        simp only [List.map_cons, List.map_nil, List.mem_singleton] at hy
        rw [hy]
        omega
      · intro e he
        rcases List.mem_append.mp he with he | he
        · have := h.ok.le e he
          show e.k ≤ (i : Int)
          omega
        · rw [List.mem_singleton] at he
          rw [he]
          exact Int.le_refl _
      · intro z
        have z : (i : Int) < 0 := z
        omega
      · intro _
        exact ⟨r.es, _, rfl, rfl⟩
      · intro e he
        rcases List.mem_append.mp he with he | he
        · have := h.sz e he
          show e.a.length ≤ r.num + 1 ∧ e.b.length ≤ r.num + 1
          omega
        · rw [List.mem_singleton] at he
          rw [he]
          exact ⟨Nat.zero_le _, Nat.zero_le _⟩
      · show -1 ≤ (i : Int)
        omega
  | none =>
    rw [hi] at e
    simp only at e
    by_cases c : r.at' < 0
    · rw [if_pos c] at e; cases e
    rw [if_neg c] at e
    cases hp : rPart r t with
    | inl w => rw [hp] at e; cases e
    | inr k =>
      rw [hp] at e
      cases e
      obtain ⟨A, e, he, hk⟩ := h.yes (by omega)
      have hes : r.es.dropLast ++ (r.es.getLast?.map fun e => modE e k t).toList = A ++ [modE e k t] := by
        rw [he]
        simp
      rw [hes]
      have hmk : (modE e k t).k = e.k := by
        unfold modE
        split
        · rfl
        · split <;> rfl
      refine ⟨⟨⟨hn, ?_, ?_, ?_⟩, fun z => absurd z c, fun _ => ⟨A, _, rfl, ?_⟩, ?_, h.lo⟩, rfl⟩
      · show (A ++ [modE e k t]).length ≤ r.num + 1
        rw [he] at hlen
        simp only [List.length_append, List.length_cons, List.length_nil] at hlen ⊢
        omega
      · show ((A ++ [modE e k t]).map (·.k)).Nodup
        have := h.ok.nd
        rw [he] at this
        simpa [hmk] using this
      · intro x hx
        show x.k ≤ r.at'
        rcases List.mem_append.mp hx with hx | hx
        · exact h.ok.le x (by rw [he]; exact List.mem_append_left _ hx)
        · rw [List.mem_singleton] at hx
          rw [hx, hmk, hk]
          exact Int.le_refl _
      · show (modE e k t).k = r.at'
        rw [hmk, hk]
      · intro x hx
        show x.a.length ≤ r.num + 1 ∧ x.b.length ≤ r.num + 1
        rcases List.mem_append.mp hx with hx | hx
        · have := h.sz x (by rw [he]; exact List.mem_append_left _ hx)
          omega
        · rw [List.mem_singleton] at hx
          have := h.sz e (by rw [he]; exact List.mem_append_right _ (List.mem_singleton.mpr rfl))
          rw [hx]
          unfold modE
          split
          · simp only [List.length_append, List.length_cons, List.length_nil]
            omega
          · split
            · simp only [List.length_append, List.length_cons, List.length_nil]
              omega
            · simp only
              omega
/-- number up -/
def up (r : Rd) : Rd := { r with num := r.num + 1 }
theorem up_ok {r : Rd} (h : RdI r) (hn : r.num + 1 < 500) : RdI (up r) := ⟨⟨hn, Nat.le_trans h.ok.len (Nat.le_succ _), h.ok.nd, h.ok.le⟩, h.no, h.yes, fun e he => ⟨Nat.le_trans (h.sz e he).1 (Nat.le_succ _), Nat.le_trans (h.sz e he).2 (Nat.le_succ _)⟩, h.lo⟩
def IdxH (L : Lm) : Prop := ∀ (cnt : Nat) (r : Rd) (t : Tx), RdOk r → As t → t.length ≤ 1000 → L.fi "PatchReader.read_index" [.ref 0, .str t] (sR cnt r) = match idx t with
      | none => .ok (.bl false) (sR cnt r)
      | some i => match rIdx cnt r i with
        | some w => .err (xBP r.num w) (sR cnt r)
        | none => .ok (.bl true) (sR cnt (newE r i))
def PartH (L : Lm) : Prop := ∀ (cnt : Nat) (r : Rd) (A : List En) (e : En) (t : Tx), RdOk r → r.es = A ++ [e] → e.k = r.at' → e.a.length ≤ 500 → e.b.length ≤ 500 → t.length ≤ 1000 →
    L.fi "PatchReader.read_part" [.ref 0, .str t] (sR cnt r) = match rPart r t with
      | .inl w => .err (xBP r.num w) (sR cnt r)
      | .inr k => .ok .non (sR cnt { r with rk := k, es := A ++ [modE e k t] })
theorem line_run {L : Lm} (hL : RdL L) (hs : StopH L) (hI : IdxH L) (hP : PartH L) {cnt : Nat} {r : Rd} (hr : RdI r) (hn : r.num + 1 < 500) {t : Tx} (ht : As t) (htl : t.length ≤ 1000) :
    ∃ s, runI L D_PatchReader_read_line [.ref 0, .str t] (sR cnt r) = match stepL cnt r t with
      | .inl x => .err (xBP x.1 x.2) s
      | .inr r' => .ok .non (sR cnt r') := by
  have hu := up_ok hr hn
  have hc1 : (fsR cnt (up r)).lookup ("read_index" : Str).cps.toList = none := rfl
  have hc2 : (fsR cnt (up r)).lookup ("stop" : Str).cps.toList = none := rfl
  have hc3 : (fsR cnt (up r)).lookup ("read_part" : Str).cps.toList = none := rfl
  refine ⟨sR cnt (up r), runI_any _ [some (.ref 0), some (.str t)] rfl rfl fun Q hq _ hx => ?_⟩
  rw [sR_eq]
  simp -implicitDefEqProofs [D_PatchReader_read_line, S_PatchReader_read_line]
  have hself : ∀ st, mVar 0 [some (.ref 0), some (.str t)] st = .ok (.ref 0) st := fun st => mVar_ok rfl
  rw [hself, bindE_ok, au5 hL (by rfl)]
  have hst : some (Ob.ins prT (fsR cnt { r with num := r.num + 1 })) :: some (oD fE (dE 2 r.es)) :: mem r.es = sR cnt (up r) := rfl
  rw [hst, sR_eq]
  have hIe := hI cnt (up r) t hu.ok ht htl
  rw [sR_eq] at hIe
  unfold stepL at hq hx
  cases hi : idx t with
  | some i =>
    rw [hi] at hIe hq hx
    simp only at hIe hq hx
    have hxx : rIdx cnt (up r) i = rIdx cnt r i := rfl
    rw [hxx] at hIe
    cases hy : rIdx cnt r i with
    | some w =>
      rw [hy] at hIe hx
      simp -implicitDefEqProofs [mVar, mcR hc1, hIe]
      exact hx _ _ _ rfl
    | none =>
      rw [hy] at hIe hq
      simp -implicitDefEqProofs [mVar, mcR hc1, hIe]
      exact hq _ _ rfl
  | none =>
    rw [hi] at hIe hq hx
    simp only at hIe hq hx
    by_cases c : r.at' < 0
    · rw [if_pos c] at hx
      have c' : (up r).at' < 0 := c
      simp -implicitDefEqProofs [mVar, mcR hc1, hIe, fl3 hL, c', mcR hc2, hs cnt (up r) _ [101, 100, 105, 116, 32, 105, 115, 32, 101, 120, 112, 101, 99, 116, 101, 100] (by decide) (show r.num + 1 < 1024 by omega)]
      exact hx _ _ _ rfl
    · rw [if_neg c] at hq hx
      have c' : ¬ (up r).at' < 0 := c
      obtain ⟨A, e, he, hk⟩ := hu.yes (show 0 ≤ r.at' by omega)
      have hsz := hu.sz e (by rw [he]; exact List.mem_append_right _ (List.mem_singleton.mpr rfl))
      have hnum : (up r).num < 500 := hn
      have hPe := hP cnt (up r) A e t hu.ok he hk (by omega) (by omega) htl
      rw [sR_eq] at hPe
      have hpp : rPart (up r) t = rPart r t := rfl
      rw [hpp] at hPe
      have he' : r.es = A ++ [e] := he
      cases hp : rPart r t with
      | inl w =>
        rw [hp] at hPe hx
        simp -implicitDefEqProofs [mVar, mcR hc1, hIe, fl3 hL, c', mcR hc3, hPe]
        exact hx _ _ _ rfl
      | inr k =>
        rw [hp] at hPe hq
        simp -implicitDefEqProofs [mVar, mcR hc1, hIe, fl3 hL, c', mcR hc3, hPe]
        refine hq _ _ ?_
        simp only [he', List.dropLast_concat, List.getLast?_concat, Option.map_some, Option.toList_some]
        rfl
end PA

set_option Elab.async false
set_option linter.all false
set_option maxRecDepth 100000
set_option maxHeartbeats 4000000
/-! patches: read_patch -/
namespace PA
open PySem PySem.Spec PyProof.Rows L2 G C DI
def edOf (es : List En) (k : Int) : Ed := match es.find? (fun e => decide (e.k = k)) with
  | some e => ⟨e.a, e.c, e.b⟩
  | none => keepE
theorem lk_es : ∀ (es : List En) (p : Nat) (k : Int), (∃ A e B, es = A ++ e :: B ∧ (dE p es).lookup k = some (p + 2 * A.length, e.c) ∧ edOf es k = ⟨e.a, e.c, e.b⟩) ∨ ((dE p es).lookup k = none ∧ edOf es k = keepE)
  | [], p, k => .inr ⟨rfl, rfl⟩
  | e :: es, p, k => by
    by_cases h : e.k = k
    · left
      refine ⟨[], e, es, rfl, ?_, ?_⟩
      · show List.lookup k ((e.k, (p, e.c)) :: dE (p + 2) es) = _
        rw [List.lookup_cons, h]
        simp
      · unfold edOf
        rw [List.find?_cons_of_pos (by simpa using h)]
    · have hl : (dE p (e :: es)).lookup k = (dE (p + 2) es).lookup k := by
        show List.lookup k ((e.k, (p, e.c)) :: dE (p + 2) es) = _
        rw [List.lookup_cons]
        have : (k == e.k) = false := by simpa using fun z => h z.symm
        rw [this]
      have he : edOf (e :: es) k = edOf es k := by
        unfold edOf
        rw [List.find?_cons_of_neg (by simpa using h)]
      rcases lk_es es (p + 2) k with ⟨A, x, B, h1, h2, h3⟩ | ⟨h1, h2⟩
      · left
        refine ⟨e :: A, x, B, by rw [h1]; rfl, ?_, by rw [he, h3]⟩
        rw [hl, h2, List.length_cons]
        congr 2
        omega
      · right
        exact ⟨by rw [hl, h1], by rw [he, h2]⟩
theorem at_aG {x y u v : Option Ob} {A : List En} {S : Sto} : (x :: y :: (mem A ++ (u :: v :: S)))[2 + 2 * A.length]? = some u := by
  rw [show 2 + 2 * A.length = 2 * A.length + 1 + 1 by omega, List.getElem?_cons_succ, List.getElem?_cons_succ, List.getElem?_append_right (by rw [mem_len]; omega), mem_len]
  simp
theorem at_bG {x y u v : Option Ob} {A : List En} {S : Sto} : (x :: y :: (mem A ++ (u :: v :: S)))[2 + 2 * A.length + 1]? = some v := by
  rw [show 2 + 2 * A.length + 1 = 2 * A.length + 1 + 1 + 1 by omega, List.getElem?_cons_succ, List.getElem?_cons_succ, List.getElem?_append_right (by rw [mem_len]; omega), mem_len]
  simp
def finL (cnt : Nat) (r : Rd) : (Nat × Tx) ⊕ List Ed := if 0 ≤ r.at' ∧ r.rk < 0 then .inl (r.num, nothingT) else .inr ((List.range cnt).map fun k => edOf r.es (k : Nat))
theorem set_new {s : Sto} {x y : Option Ob} : (s ++ [x]).set s.length y = s ++ [y] := by
  rw [List.set_append_right _ _ (Nat.le_refl _)]
  simp
theorem fin_run {L : Lm} (hL : RdL L) (hs : StopH L) {cnt : Nat} {r : Rd} (hr : RdI r) (hc : cnt ≤ 2000) :
    runI L D_PatchReader_finished [.ref 0] (sR cnt r) = match finL cnt r with
      | .inl x => .err (xBP x.1 x.2) (sR cnt r)
      | .inr es => .ok (.ref (sR cnt r).length) (sR cnt r ++ [some (.lst (es.map vEd))]) := by
  have hnum := hr.ok.num
  have hc2 : (fsR cnt r).lookup ("stop" : Str).cps.toList = none := rfl
  have hself : ∀ (st : Sto) (b c d e f : Option Va), mVar 0 [some (.ref 0), b, c, d, e, f] st = .ok (.ref 0) st := fun st b c d e f => mVar_ok rfl
  refine runI_any _ [some (.ref 0), none, none, none, none, none] rfl rfl fun Q _ hq hx => ?_
  rw [sR_eq]
  simp -implicitDefEqProofs [D_PatchReader_finished, S_PatchReader_finished, hself, fl3 hL]
  unfold finL at hq hx
  by_cases c1 : 0 ≤ r.at' ∧ r.rk < 0
  · rw [if_pos c1] at hx
    obtain ⟨c11, c12⟩ := c1
    simp -implicitDefEqProofs [c11, c12, hself, fl4 hL, mcR hc2, hs cnt r _ [110, 111, 116, 104, 105, 110, 103, 32, 105, 115, 32, 101, 100, 105, 116, 101, 100] (by decide) (by omega)]
    exact hx _ _ _ rfl
  rw [if_neg c1] at hq
  refine wp_cut (fun e s => e = [some (.ref 0), none, none, none, none, none] ∧ s = sR cnt r) (fun R h _ _ _ => ?_) ?_
  · by_cases c11 : 0 ≤ r.at'
    · simp -implicitDefEqProofs [c11, hself, fl4 hL, show ¬ r.rk < 0 from fun z => c1 ⟨c11, z⟩]
      exact h _ _ ⟨rfl, rfl⟩
    · simp -implicitDefEqProofs [c11]
      exact h _ _ ⟨rfl, rfl⟩
  rintro e s ⟨rfl, rfl⟩
  have mk0 : ∀ st, mkL true [] st = .ok (.ref st.length) (st ++ [some (.lst [])]) := fun st => mkL_ref (by decide)
  have hfl1 : ∀ (S : Sto), fldV L.xs.ofl "count" (.ref 0) (sR cnt r ++ S) = .ok (.int (cnt : Nat)) (sR cnt r ++ S) := fun S => fl1 (S := some (oD fE (dE 2 r.es)) :: mem r.es ++ S) hL
  have hfl2 : ∀ (S : Sto), fldV L.xs.ofl "edits" (.ref 0) (sR cnt r ++ S) = .ok (.ref 1) (sR cnt r ++ S) := fun S => fl2 (S := some (oD fE (dE 2 r.es)) :: mem r.es ++ S) hL
  have hdc : ∀ (S : Sto), dicOf (.ref 1) (sR cnt r ++ S) = some (kys (dE 2 r.es), vls fE (dE 2 r.es)) := fun S => dic1
  have hty : ∀ (S : Sto), tyB "dict" (.ref 1) (sR cnt r ++ S) = true := fun S => rfl
  have hi62 : i62 ((cnt : Nat) : Int) = true := by unfold i62; exact decide_eq_true ⟨by omega, by omega⟩
  obtain ⟨n, hn⟩ : ∃ n, (sR cnt r).length = n := ⟨_, rfl⟩
  have hn2 : ∀ x, (sR cnt r ++ [x])[n]? = some x := fun x => by rw [← hn]; exact app_new
  have hes : ∀ (S : Sto), sR cnt r ++ S = some (.ins prT (fsR cnt r)) :: some (oD fE (dE 2 r.es)) :: (mem r.es ++ S) := fun S => rfl
  simp -implicitDefEqProofs [hself, mk0, hfl1, rng1 hi62, hn]
  refine wp_for (fun k env st => st = sR cnt r ++ [some (.lst ((List.range k).map fun j => vEd (edOf r.es (j : Nat))))] ∧ ∃ b c d e, env = [some (.ref 0), some (.ref n), b, c, d, e]) ⟨rfl, _, _, _, _, rfl⟩ ?_ ?_
  · rintro k w env st Qb hw ⟨rfl, b, c, d, e, rfl⟩ hnx _ _ _
    obtain ⟨hk, rfl⟩ := rints_get hw
    refine ⟨rfl, _, rfl, ?_⟩
    rw [Int.zero_add]
    simp -implicitDefEqProofs [mVar, hfl2, hty, mkT, sizeLine, hL.gK, getV2 (hdc _)]
    have happ : ∀ y : Va, appendV (.ref n) [y] (sR cnt r ++ [some (.lst ((List.range k).map fun j => vEd (edOf r.es (j : Nat))))]) = .ok .non (sR cnt r ++ [some (.lst (((List.range k).map fun j => vEd (edOf r.es (j : Nat))) ++ [y]))]) := fun y => by
      rw [append_ok (hn2 _) (by simp [sizeLine]; omega), ← hn, set_new]
    have hsucc : ((List.range k).map fun j => vEd (edOf r.es (j : Nat))) ++ [vEd (edOf r.es (k : Nat))] = (List.range (k + 1)).map fun j => vEd (edOf r.es (j : Nat)) := by
      rw [List.range_succ, List.map_append]
      rfl
    have hlt : tyB "list" (.ref n) (sR cnt r ++ [some (.lst ((List.range k).map fun j => vEd (edOf r.es (j : Nat))))]) = true := tyB_ref (hn2 _)
    rcases lk_es r.es 2 k with ⟨A, e, B, h1, h2, h3⟩ | ⟨h1, h2⟩
    · have hm : mem r.es = mem A ++ (some (.lst (e.a.map .str)) :: some (.lst (e.b.map .str)) :: mem B) := by rw [h1, mem_app]; rfl
      have hsz := hr.sz e (by rw [h1]; simp)
      have ha : ∀ S, tupleV [.ref (2 + 2 * A.length)] (sR cnt r ++ S) = .ok (vTs e.a) (sR cnt r ++ S) := fun S => tup_ts (by
        rw [hes, hm, List.append_assoc]
        exact at_aG) (by unfold sizeLine; omega)
      have hb : ∀ S, tupleV [.ref (2 + 2 * A.length + 1)] (sR cnt r ++ S) = .ok (vTs e.b) (sR cnt r ++ S) := fun S => tup_ts (by
        rw [hes, hm, List.append_assoc]
        exact at_bG) (by unfold sizeLine; omega)
      simp -implicitDefEqProofs [h2, fE, mVar, hlt, ha, hb, mkT, sizeLine]
      rw [show Va.tup [vTs e.a, vTs e.c, vTs e.b] = vEd (edOf r.es (k : Nat)) from by rw [h3]; rfl, happ, hsucc]
      simp -implicitDefEqProofs
      exact hnx _ _ ⟨rfl, _, _, _, _, rfl⟩
    · simp -implicitDefEqProofs [h1, mVar, hlt, mkT, sizeLine]
      rw [show Va.tup [.tup [], vTs [keepT], .tup []] = vEd (edOf r.es (k : Nat)) from by rw [h2]; rfl, happ, hsucc]
      simp -implicitDefEqProofs
      exact hnx _ _ ⟨rfl, _, _, _, _, rfl⟩
  · rintro env st ⟨rfl, b, c, d, e, rfl⟩
    refine ⟨rfl, ?_⟩
    simp -implicitDefEqProofs [mVar]
    refine hq _ _ ?_
    simp only [List.map_map, rints_length, hn]
    rfl
/-- the first line -/
def editsT : Tx := [101, 100, 105, 116, 115, 32]
def countT : Tx := [99, 111, 117, 110, 116, 32, 105, 115, 32, 101, 120, 112, 101, 99, 116, 101, 100]
def cntP (t : Tx) : Option Nat := if t.take 6 = editsT then (match numP (t.drop 6) with
  | some n => if n ≤ 2000 then some n else none
  | none => none) else none
def NumH (L : Lm) : Prop := ∀ w : Tx, As w → w.length ≤ 3000 → ∃ s, L.fn "number_of" [.str w] = .ok (numV (numP w)) s
theorem count_ok {L : Lm} (hL : RdL L) (hg : L.gl "LINES_MOST" = some (.int 2000)) (hN : NumH L) {t : Tx} (ht : As t) (htl : t.length ≤ 1000) :
    runD L D_read_count [.str t] = match cntP t with
      | some n => .ok (.int (n : Nat)) []
      | none => .err (xBP 1 countT) [] := by
  have htz : t.length ≤ sizeLine := Nat.le_trans htl (by decide)
  have q1 : cut t none (some 6) = t.take 6 := _root_.N.cut_take t 6
  have q2 : cut t (some 6) none = t.drop 6 := _root_.N.cut_drop t 6
  have e1 : ∀ st, sliceV false (.str t) none (some 6) st = .ok (.str (t.take 6)) st := fun st => by rw [_root_.N.slice_str htz, q1]
  have e2 : ∀ st, sliceV false (.str t) (some 6) none st = .ok (.str (t.drop 6)) st := fun st => by rw [_root_.N.slice_str htz, q2]
  have e3 : ∀ st, callP false (L.fn "number_of") [.str (t.drop 6)] st = .ok (numV (numP (t.drop 6))) st := fun st => by
    obtain ⟨s, e⟩ := hN (t.drop 6) (fun c hc => ht c (List.mem_of_mem_drop hc)) (by rw [List.length_drop]; omega)
    exact callP_free rfl e
  have hrb : ∀ env st, raisW owBP env [.int 1, .str [99, 111, 117, 110, 116, 32, 105, 115, 32, 101, 120, 112, 101, 99, 116, 101, 100]] st = .err (xBP 1 countT) env st := fun env st => raisBP (n := 1) (w := countT) (by decide) (by decide)
  refine runD_any _ [some (.str t), none] rfl rfl fun Q hr hx => ?_
  simp -implicitDefEqProofs [D_read_count, S_read_count, mVar, e1, e2, hg]
  unfold cntP at hr hx
  by_cases h1 : t.take 6 = editsT
  · have h1' : t.take 6 = [101, 100, 105, 116, 115, 32] := h1
    rw [if_pos h1] at hr hx
    cases hi : numP (t.drop 6) with
    | none =>
      rw [hi] at hx
      simp -implicitDefEqProofs [h1', mVar, e3, hi, numV, G.isNon, hL.ow, hrb]
      exact hx _ _ _ rfl rfl
    | some n =>
      rw [hi] at hr hx
      simp only at hr hx
      by_cases hn : n ≤ 2000
      · rw [if_pos hn] at hr
        have hn' : ¬ (2000 : Int) < (n : Nat) := by omega
        simp -implicitDefEqProofs [h1', mVar, e3, hi, numV, G.isNon, hn']
        exact hr _ _ (ret_free rfl)
      · rw [if_neg hn] at hx
        have hn' : (2000 : Int) < (n : Nat) := by omega
        simp -implicitDefEqProofs [h1', mVar, e3, hi, numV, G.isNon, hn', hL.ow, hrb]
        exact hx _ _ _ rfl rfl
  · have h1' : ¬ t.take 6 = [101, 100, 105, 116, 115, 32] := h1
    rw [if_neg h1] at hx
    simp -implicitDefEqProofs [h1', mVar, numV, G.isNon, hL.ow, hrb]
    exact hx _ _ _ rfl rfl
def r0 : Rd := ⟨-1, -1, 1, []⟩
theorem init_run {L : Lm} (hL : RdL L) {cnt : Nat} : runI L D_PatchReader___init__ [.ref 0, .int (cnt : Nat)] [some (.ins prT [])] = .ok .non (sR cnt r0) := by
  have sf : ∀ (f : Str) (env : Ev) (v : Va) (fs : List (Tx × Va)) (S : Sto), L.xs.ofl prT f = true → fs.length < 900 → setFW L.xs.ofl f (.ref 0) v env (some (.ins prT fs) :: S) = .nx env (some (.ins prT (putT f.cps.toList v fs)) :: S) := fun f env v fs S h1 h2 => setFW_ref rfl h1 h2
  have l5 : ∀ (a b c d : Tx × Va), [a, b, c, d].length < 900 := fun a b c d => by show 4 < 900; decide
  refine runI_any _ [some (.ref 0), some (.int (cnt : Nat))] rfl rfl fun Q hq _ _ => ?_
  simp -implicitDefEqProofs [D_PatchReader___init__, S_PatchReader___init__, mVar]
  rw [sf "count" _ _ [] _ hL.o1 (by decide)]
  simp -implicitDefEqProofs [mVar]
  rw [sf "edits" _ _ _ _ hL.o2 (by show 1 < 900; decide)]
  simp -implicitDefEqProofs [mVar]
  rw [sf "at" _ _ _ _ hL.o3 (by show 2 < 900; decide)]
  simp -implicitDefEqProofs [mVar]
  rw [sf "rank" _ _ _ _ hL.o4 (by show 3 < 900; decide)]
  simp -implicitDefEqProofs [mVar]
  rw [sf "number" _ _ _ _ hL.o5 (by show 4 < 900; decide)]
  simp -implicitDefEqProofs
  exact hq _ _ rfl
end PA

set_option Elab.async false
set_option linter.all false
set_option maxRecDepth 100000
set_option maxHeartbeats 4000000
/-! patches: read_patch runs -/
namespace PA
open PySem PySem.Spec PyProof.Rows L2 G C DI
def txOf (ls : List Tx) : Tx := TL.joinL [10] ls
theorem joinL_len : ∀ {ls : List Tx} {n : Nat}, (∀ l ∈ ls, l.length ≤ n) → (TL.joinL [10] ls).length ≤ ls.length * (n + 1)
  | [], _, _ => by simp [TL.joinL]
  | [a], n, h => by
    have := h a List.mem_cons_self
    simp [TL.joinL]
    omega
  | a :: b :: r, n, h => by
    have h1 := h a List.mem_cons_self
    have h2 := joinL_len (ls := b :: r) (n := n) fun l hl => h l (List.mem_cons_of_mem _ hl)
    rw [TL.joinL]
    simp only [List.length_append, List.length_cons, List.length_nil, Nat.succ_mul] at h2 ⊢
    omega
theorem split_run {ls : List Tx} (h0 : ls ≠ []) (hl : ls.length ≤ 400) (hn : ∀ l ∈ ls, l.length ≤ 2000) (h10 : ∀ l ∈ ls, 10 ∉ l) (st : Sto) : splitV (.str (txOf ls)) [.str [10]] st = .ok (.lst (ls.map .str)) st := by
  have h1 := joinL_len hn
  have h2 : ls.length * (2000 + 1) ≤ 400 * 2001 := Nat.mul_le_mul_right _ hl
  have e : TL.spl [10] 0 [] (txOf ls) = ls := TL.spl_join (s := 10) (S := []) h0 h10
  unfold splitV
  simp only [strOf_str]
  rw [if_pos ⟨by decide, by decide, by unfold txOf sizeLine; omega⟩, e]
def finX (cnt : Nat) : (Nat × Tx) ⊕ Rd → (Nat × Tx) ⊕ List Ed
  | .inl x => .inl x
  | .inr r => finL cnt r
def rdP : List Tx → (Nat × Tx) ⊕ List Ed
  | [] => .inl (1, countT)
  | t :: ts => match cntP t with
    | none => .inl (1, countT)
    | some cnt => finX cnt (rdL cnt r0 ts)
theorem r0_ok : RdI r0 := ⟨⟨by decide, Nat.zero_le _, List.nodup_nil, fun e he => (nomatch he)⟩, fun _ => rfl, fun h => absurd h (by decide), fun e he => (nomatch he), Int.le_refl _⟩
def LineH (L : Lm) : Prop := ∀ (cnt : Nat) (r : Rd) (t : Tx), RdI r → r.num + 1 < 500 → As t → t.length ≤ 1000 → ∃ s, L.fi "PatchReader.read_line" [.ref 0, .str t] (sR cnt r) = match stepL cnt r t with
      | .inl x => .err (xBP x.1 x.2) s
      | .inr r' => .ok .non (sR cnt r')
def FinH (L : Lm) : Prop := ∀ (cnt : Nat) (r : Rd), RdI r → cnt ≤ 2000 → L.fi "PatchReader.finished" [.ref 0] (sR cnt r) = match finL cnt r with
      | .inl x => .err (xBP x.1 x.2) (sR cnt r)
      | .inr es => .ok (.ref (sR cnt r).length) (sR cnt r ++ [some (.lst (es.map vEd))])
def InitH (L : Lm) : Prop := ∀ cnt : Nat, L.fi "PatchReader.__init__" [.ref 0, .int (cnt : Nat)] [some (.ins prT [])] = .ok .non (sR cnt r0)
def CntH (L : Lm) : Prop := ∀ t : Tx, As t → t.length ≤ 1000 → L.fn "read_count" [.str t] = match cntP t with
      | some n => .ok (.int (n : Nat)) []
      | none => .err (xBP 1 countT) []
theorem cnt_le {t : Tx} {n : Nat} (h : cntP t = some n) : n ≤ 2000 := by
  unfold cntP at h
  split at h
  · split at h
    · split at h
      · cases h; assumption
      · cases h
    · cases h
  · cases h
theorem patch_run {L : Lm} (hC : CntH L) (hI : InitH L) (hLn : LineH L) (hF : FinH L) {ls : List Tx} (h0 : ls ≠ []) (hl : ls.length ≤ 400) (hn : ∀ l ∈ ls, l.length ≤ 1000) (h10 : ∀ l ∈ ls, 10 ∉ l) (hA : ∀ l ∈ ls, As l) :
    runD L D_read_patch [.str (txOf ls)] = match rdP ls with
      | .inl x => .err (xBP x.1 x.2) []
      | .inr es => .ok (.lst (es.map vEd)) fresh := by
  refine runD_any _ [some (.str (txOf ls)), none, none, none] rfl rfl fun Q hr he => ?_
  have sp : ∀ st, splitV (.str (txOf ls)) [.str [10]] st = .ok (.lst (ls.map .str)) st := split_run h0 hl (fun l h => by have := hn l h; omega) h10
  obtain ⟨t, ts, rfl⟩ : ∃ t ts, ls = t :: ts := by cases ls with
    | nil => exact absurd rfl h0
    | cons t ts => exact ⟨t, ts, rfl⟩
  have ht := hn t List.mem_cons_self
  have htA := hA t List.mem_cons_self
  have hc0 := hC t htA ht
  obtain ⟨V, hV⟩ : ∃ V, (t :: ts).map Va.str = V := ⟨_, rfl⟩
  have ix0 : ∀ st, ixV (.lst V) (.int 0) st = .ok (.str t) st := fun st => by rw [← hV, List.map_cons]; exact ix_lst0 _ _
  have sl1 : ∀ st, sliceV false (.lst V) (some 1) none st = .ok (.lst (ts.map .str)) st := fun st => by
    rw [← hV]
    unfold sliceV
    simp only [strOf_lst, tupOf_lst, lstOf_lst]
    have h1 : ((t :: ts).map Va.str).length ≤ sizeLine := by rw [List.length_map]; unfold sizeLine; omega
    rw [if_pos h1, show cut ((t :: ts).map Va.str) (some 1) none = ((t :: ts).map Va.str).drop 1 from _root_.N.cut_drop _ 1]
    rw [mkL_val (by rw [List.length_drop, List.length_map]; unfold sizeLine; omega)]
    rfl
  rw [hV] at sp
  simp -implicitDefEqProofs [D_read_patch, S_read_patch, mVar, sp, ix0]
  cases hcp : cntP t with
  | none =>
    rw [hcp] at hc0
    have e1 : ∀ st, callP false (L.fn "read_count") [.str t] st = .err (xBP 1 countT) st := fun st => callP_err rfl hc0
    simp -implicitDefEqProofs [e1]
    refine he _ _ _ rfl ?_
    have hrd : rdP (t :: ts) = .inl (1, countT) := by simp only [rdP, hcp]
    rw [hrd]
  | some cnt =>
    rw [hcp] at hc0
    have hcl := cnt_le hcp
    have e1 : ∀ st, callP false (L.fn "read_count") [.str t] st = .ok (.int (cnt : Nat)) st := fun st => callP_free rfl hc0
    have e2 : mkCW (L.fi "PatchReader.__init__") "PatchReader" [.int (cnt : Nat)] [] = .ok (.ref 0) (sR cnt r0) := mkCW_ok (st := []) (hI cnt)
    have hrd : rdP (t :: ts) = finX cnt (rdL cnt r0 ts) := by simp only [rdP, hcp]
    rw [hrd] at hr he
    have hmc1 : ∀ r, (fsR cnt r).lookup ("read_line" : Str).cps.toList = none := fun r => rfl
    have hmc2 : ∀ r, (fsR cnt r).lookup ("finished" : Str).cps.toList = none := fun r => rfl
    simp -implicitDefEqProofs [e1, e2, mVar, sl1]
    refine wp_for (fun k env st => ∃ r x3, env = [some (.str (txOf (t :: ts))), some (.lst V), some (.ref 0), x3] ∧ st = sR cnt r ∧ RdI r ∧ r.num = k + 1 ∧ rdL cnt r0 ts = rdL cnt r (ts.drop k)) ⟨r0, _, rfl, rfl, r0_ok, rfl, rfl⟩ ?_ ?_
    · rintro k w env st Qb hw ⟨r, x3, rfl, rfl, hri, hrn, hq⟩ hnx _ _ her
      rw [List.getElem?_map] at hw
      obtain ⟨u, hu, rfl⟩ := Option.map_eq_some_iff.mp hw
      have hm : u ∈ t :: ts := List.mem_cons_of_mem _ (List.mem_of_getElem? hu)
      have hkl := (List.getElem?_eq_some_iff.mp hu).1
      have hdr : ts.drop k = u :: ts.drop (k + 1) := by
        rw [List.drop_eq_getElem_cons hkl]
        congr 1
        exact (List.getElem?_eq_some_iff.mp hu).2
      rw [hdr, rdL] at hq
      simp only [List.length_cons] at hl
      obtain ⟨s, hle⟩ := hLn cnt r u hri (by omega) (hA u hm) (hn u hm)
      rw [sR_eq] at hle
      refine ⟨rfl, _, rfl, ?_⟩
      rw [sR_eq]
      simp -implicitDefEqProofs [mVar, mcR (hmc1 r), hle]
      cases hs : stepL cnt r u with
      | inl x =>
        rw [hs] at hq
        simp -implicitDefEqProofs
        refine her _ _ _ (he _ _ _ rfl ?_)
        rw [hq]
        rfl
      | inr r' =>
        rw [hs] at hq
        obtain ⟨p1, p2⟩ := step_ok hri (by omega) hs
        simp -implicitDefEqProofs
        exact hnx _ _ ⟨r', _, rfl, rfl, p1, by rw [p2, hrn], hq⟩
    · rintro env st ⟨r, x3, rfl, rfl, hri, hrn, hq⟩
      refine ⟨rfl, ?_⟩
      rw [List.length_map, List.drop_length] at hq
      have hfe := hF cnt r hri hcl
      rw [hq] at hr he
      have hfx : finX cnt (rdL cnt r []) = finL cnt r := rfl
      rw [hfx] at hr he
      have hm : ∀ ml : Mx (List Va), mcallW (L.fi "PatchReader.finished") "PatchReader" "finished" (.ref 0) [some (.str (txOf (t :: ts))), some (.lst V), some (.ref 0), x3] ml (sR cnt r) = (ml [some (.str (txOf (t :: ts))), some (.lst V), some (.ref 0), x3] (sR cnt r)).bind fun ws st => L.fi "PatchReader.finished" (.ref 0 :: ws) st := fun ml => mcR (hmc2 r)
      cases hs : finL cnt r with
      | inl x =>
        rw [hs] at hfe he
        simp -implicitDefEqProofs [mVar, hm, hfe]
        exact he _ _ _ rfl rfl
      | inr es =>
        rw [hs] at hfe hr
        simp -implicitDefEqProofs [mVar, hm, hfe]
        exact hr _ _ (ret_lst app_new (frees_map free_vEd))
/-- read_patch, of a family -/
theorem read_all {Lf : Nat → Lm} (hL : ∀ n, RdL (Lf n)) (hN : ∀ n, NumH (Lf (n + 1))) (hg : ∀ n, (Lf n).gl "LINES_MOST" = some (.int 2000))
    (f1 : ∀ n, (Lf (n + 1)).fi "PatchReader.stop" = runI (Lf n) D_PatchReader_stop) (f2 : ∀ n, (Lf (n + 1)).fi "PatchReader.read_index" = runI (Lf n) D_PatchReader_read_index)
    (f3 : ∀ n, (Lf (n + 1)).fi "PatchReader.read_part" = runI (Lf n) D_PatchReader_read_part) (f4 : ∀ n, (Lf (n + 1)).fi "PatchReader.read_line" = runI (Lf n) D_PatchReader_read_line)
    (f5 : ∀ n, (Lf (n + 1)).fi "PatchReader.finished" = runI (Lf n) D_PatchReader_finished) (f6 : ∀ n, (Lf (n + 1)).fi "PatchReader.__init__" = runI (Lf n) D_PatchReader___init__)
    (f7 : ∀ n, (Lf (n + 1)).fn "read_count" = runD (Lf n) D_read_count) (n : Nat)
    {ls : List Tx} (h0 : ls ≠ []) (hl : ls.length ≤ 400) (hn : ∀ l ∈ ls, l.length ≤ 1000) (h10 : ∀ l ∈ ls, 10 ∉ l) (hA : ∀ l ∈ ls, As l) :
    runD (Lf (n + 5)) D_read_patch [.str (txOf ls)] = match rdP ls with
      | .inl x => .err (xBP x.1 x.2) []
      | .inr es => .ok (.lst (es.map vEd)) fresh := by
  have sH : ∀ k, StopH (Lf (k + 1)) := fun k cnt r S w h1 h2 => by rw [f1 k]; exact stop_run (hL k) h1 h2
  have iH : ∀ k, IdxH (Lf (k + 2)) := fun k cnt r t h1 h2 h3 => by rw [f2 (k + 1)]; exact index_run (hL (k + 1)) (hN k) (sH k) h1 h2 h3
  have pH : ∀ k, PartH (Lf (k + 2)) := fun k cnt r A e t h1 h2 h3 h4 h5 h6 => by rw [f3 (k + 1)]; exact part_run (hL (k + 1)) (sH k) h1 h2 h3 h4 h5 h6
  have lH : LineH (Lf (n + 5)) := fun cnt r t h1 h2 h3 h4 => by rw [f4 (n + 4)]; exact line_run (hL (n + 4)) (sH (n + 3)) (iH (n + 2)) (pH (n + 2)) h1 h2 h3 h4
  have fH : FinH (Lf (n + 5)) := fun cnt r h1 h2 => by rw [f5 (n + 4)]; exact fin_run (hL (n + 4)) (sH (n + 3)) h1 h2
  have nH : InitH (Lf (n + 5)) := fun cnt => by rw [f6 (n + 4)]; exact init_run (hL (n + 4))
  have cH : CntH (Lf (n + 5)) := fun t h1 h2 => by rw [f7 (n + 4)]; exact count_ok (hL (n + 4)) (hg (n + 4)) (hN (n + 3)) h1 h2
  exact patch_run cH nH lH fH h0 hl hn h10 hA
end PA

set_option Elab.async false
set_option linter.all false
set_option maxRecDepth 100000
set_option maxHeartbeats 4000000
/-! patches, written -/
namespace PA
open PySem PySem.Spec PyProof.Rows L2 G C DI
instance edDec : DecidableEq Ed := fun a b => if h : a.a = b.a ∧ a.c = b.c ∧ a.b = b.b then .isTrue (by obtain ⟨h1, h2, h3⟩ := h; cases a; cases b; simp only at h1 h2 h3; rw [h1, h2, h3]) else .isFalse fun e => h (by rw [e]; exact ⟨rfl, rfl, rfl⟩)
section
variable {env : Ev} {st : Sto}
theorem str_nat {k : Nat} (h : k < 1024) : strV [.int (k : Nat)] st = .ok (.str (numI (k : Nat))) st := by
  unfold strV
  simp only [intOf_int, small_nat h, if_true]
theorem join_ref {a : Tx} {zs : List Tx} {p : Nat} (hp : st[p]? = some (some (.lst (zs.map .str)))) (h : (zs.map (·.length)).sum + zs.length * a.length ≤ 16777216) : joinV (.str a) [.ref p] st = .ok (.str (TL.joinL a zs)) st := by
  have e := _root_.N.strsOf_map zs
  simp only [joinV, strOf_str, seqOf, lstOf, hp, e]
  simp [h]
end
theorem num_len {k : Nat} (h : k < 1024) : (numI (k : Nat)).length ≤ 4 := numI_len (by decide) (by omega)
theorem sum_le {l : List Tx} {b : Nat} (h : ∀ t ∈ l, t.length ≤ b) : (l.map (·.length)).sum ≤ l.length * b := by
  induction l with
  | nil => simp
  | cons x l ih =>
    have h1 := h x List.mem_cons_self
    have h2 := ih fun y hy => h y (List.mem_cons_of_mem _ hy)
    simp only [List.map_cons, List.sum_cons, List.length_cons, Nat.succ_mul]
    omega
end PA

set_option Elab.async false
set_option linter.all false
set_option maxRecDepth 100000
set_option maxHeartbeats 4000000
/-! patches: what is written is read -/
namespace PA
open PySem PySem.Spec PyProof.Rows L2 G C DI
end PA

set_option Elab.async false
set_option linter.all false
set_option maxRecDepth 100000
set_option maxHeartbeats 4000000
/-! patches: the law's own reading -/
namespace PA
open PySem PySem.Spec PyProof.Rows L2 G C DI
def S__law_number : S :=
  (.seq (.sif (.or (.cons (.cmp .eq (.var 0) (.str [])) (.cons (.cmp .gt (.bif .len false (.cons (.var 0) .nil)) (.int 60)) (.cons (.and (.cons (.cmp .gt (.bif .len false (.cons (.var 0) .nil)) (.int 1)) (.cons (.cmp .eq (.ix (.var 0) (.int 0)) (.str [48])) .nil))) .nil))))
  (.seq (.ret (.neg (.int 1)))
  .nil)
  .nil)
  (.seq (.sfor (.inl 1) (.var 0)
  (.seq (.sif (.cmp .notIn (.var 1) (.str [48, 49, 50, 51, 52, 53, 54, 55, 56, 57]))
  (.seq (.ret (.neg (.int 1)))
  .nil)
  .nil)
  .nil))
  (.seq (.ret (.bif .int false (.cons (.var 0) .nil)))
  .nil)))
def D__law_number : Df := ⟨["_law_word", "_law_sign"], 1, S__law_number⟩
def S__law_line : S :=
  (.seq (.set (.inl 2) (.call "_law_draws" false (.cons (.var 0) (.cons (.int 4) .nil))))
  (.seq (.set (.inl 3) (.bin .mod false (.bif .int false (.cons (.ix (.var 2) (.int 0)) .nil)) (.int 16)))
  (.seq (.sif (.cmp .lt (.var 3) (.int 5))
  (.seq (.set (.inl 4) (.ife (.cmp .gt (.bin .mod false (.bif .int false (.cons (.ix (.var 2) (.int 2)) .nil)) (.int 7)) (.int 0)) (.bin .add false (.var 1) (.bin .mod false (.bif .int false (.cons (.ix (.var 2) (.int 1)) .nil)) (.int 3))) (.bin .mod false (.bif .int false (.cons (.ix (.var 2) (.int 1)) .nil)) (.int 12))))
  (.seq (.ret (.bin .add false (.str [64, 32]) (.bif .str false (.cons (.var 4) .nil))))
  .nil))
  .nil)
  (.seq (.sif (.cmp .eq (.var 3) (.int 14))
  (.seq (.ret (.ix (.lst false (.cons (.str []) (.cons (.str [120]) (.cons (.str [45, 120]) (.cons (.str [64]) (.cons (.str [64, 32, 48, 49]) (.cons (.str [64, 32, 45, 49]) (.cons (.str [64, 49]) (.cons (.bin .add false (.str [64, 32]) (.bin .mul false (.str [49]) (.int 60))) (.cons (.bin .add false (.str [64, 32]) (.bin .mul false (.str [49]) (.int 61))) (.cons (.str [32, 45]) .nil))))))))))) (.bin .mod false (.bif .int false (.cons (.ix (.var 2) (.int 1)) .nil)) (.int 10))))
  .nil)
  .nil)
  (.seq (.sif (.or (.cons (.cmp .eq (.var 3) (.int 5)) (.cons (.cmp .eq (.var 3) (.int 15)) .nil)))
  (.seq (.ret (.str [45]))
  .nil)
  .nil)
  (.seq (.ret (.bin .add false (.ix (.str [94, 126, 43]) (.bin .mod false (.var 3) (.int 3))) (.call "_law_words" false (.cons (.bif .int false (.cons (.ix (.var 2) (.int 1)) .nil)) .nil))))
  .nil))))))
def D__law_line : Df := ⟨["_law_cell_here", "_law_after", "_law_draws_here", "_law_kind", "_law_at"], 2, S__law_line⟩
def S__law_rank : S :=
  (.seq (.sif (.or (.cons (.cmp .eq (.var 0) (.str [45])) (.cons (.cmp .eq (.sl false (.var 0) .nil (.int 1)) (.str [126])) .nil)))
  (.seq (.ret (.int 1))
  .nil)
  .nil)
  (.seq (.ret (.ife (.cmp .eq (.sl false (.var 0) .nil (.int 1)) (.str [94])) (.int 0) (.ife (.cmp .eq (.sl false (.var 0) .nil (.int 1)) (.str [43])) (.int 2) (.neg (.int 1)))))
  .nil))
def D__law_rank : Df := ⟨["_law_line_here"], 1, S__law_rank⟩
def S__law_due : S :=
  (.seq (.set (.inl 1) (.ife (.cmp .eq (.sl false (.ix (.var 0) (.int 0)) .nil (.int 6)) (.str [101, 100, 105, 116, 115, 32])) (.call "_law_number" false (.cons (.sl false (.ix (.var 0) (.int 0)) (.int 6) .nil) .nil)) (.neg (.int 1))))
  (.seq (.sif (.or (.cons (.cmp .lt (.var 1) (.int 0)) (.cons (.cmp .gt (.var 1) (.int 2000)) .nil)))
  (.seq (.ret (.tup (.cons (.int 1) (.cons (.str [99, 111, 117, 110, 116, 32, 105, 115, 32, 101, 120, 112, 101, 99, 116, 101, 100]) .nil))))
  .nil)
  .nil)
  (.seq (.set (.inl 2) (.neg (.int 1)))
  (.seq (.set (.inl 3) (.neg (.int 1)))
  (.seq (.sfor (.inl 4) (.irng (.cons (.int 1) (.cons (.bif .len false (.cons (.var 0) .nil)) .nil)))
  (.seq (.set (.inl 5) (.ix (.var 0) (.var 4)))
  (.seq (.set (.inl 6) (.ife (.cmp .eq (.sl false (.var 5) .nil (.int 2)) (.str [64, 32])) (.call "_law_number" false (.cons (.sl false (.var 5) (.int 2) .nil) .nil)) (.neg (.int 1))))
  (.seq (.sif (.cmp .ge (.var 6) (.int 0))
  (.seq (.sif (.and (.cons (.cmp .ge (.var 2) (.int 0)) (.cons (.cmp .lt (.var 3) (.int 0)) .nil)))
  (.seq (.ret (.tup (.cons (.bin .add false (.var 4) (.int 1)) (.cons (.str [110, 111, 116, 104, 105, 110, 103, 32, 105, 115, 32, 101, 100, 105, 116, 101, 100]) .nil))))
  .nil)
  .nil)
  (.seq (.sif (.cmp .le (.var 6) (.var 2))
  (.seq (.ret (.tup (.cons (.bin .add false (.var 4) (.int 1)) (.cons (.str [105, 110, 100, 101, 120, 32, 105, 115, 32, 110, 111, 116, 32, 97, 115, 99, 101, 110, 100, 105, 110, 103]) .nil))))
  .nil)
  .nil)
  (.seq (.sif (.cmp .ge (.var 6) (.var 1))
  (.seq (.ret (.tup (.cons (.bin .add false (.var 4) (.int 1)) (.cons (.str [105, 110, 100, 101, 120, 32, 105, 115, 32, 110, 111, 116, 32, 105, 110, 32, 116, 104, 101, 32, 108, 105, 115, 116]) .nil))))
  .nil)
  .nil)
  (.seq (.set (.inl 2) (.var 6))
  (.seq (.set (.inl 3) (.neg (.int 1)))
  .nil)))))
  (.seq (.sif (.cmp .lt (.var 2) (.int 0))
  (.seq (.ret (.tup (.cons (.bin .add false (.var 4) (.int 1)) (.cons (.str [101, 100, 105, 116, 32, 105, 115, 32, 101, 120, 112, 101, 99, 116, 101, 100]) .nil))))
  .nil)
  (.seq (.set (.inl 7) (.call "_law_rank" false (.cons (.var 5) .nil)))
  (.seq (.sif (.cmp .lt (.var 7) (.int 0))
  (.seq (.ret (.tup (.cons (.bin .add false (.var 4) (.int 1)) (.cons (.str [108, 105, 110, 101, 32, 105, 115, 32, 110, 111, 116, 32, 107, 110, 111, 119, 110]) .nil))))
  .nil)
  .nil)
  (.seq (.sif (.or (.cons (.cmp .lt (.var 7) (.var 3)) (.cons (.and (.cons (.cmp .eq (.var 7) (.int 1)) (.cons (.cmp .eq (.var 3) (.int 1)) .nil))) .nil)))
  (.seq (.ret (.tup (.cons (.bin .add false (.var 4) (.int 1)) (.cons (.str [111, 114, 100, 101, 114, 32, 105, 115, 32, 119, 114, 111, 110, 103]) .nil))))
  .nil)
  .nil)
  (.seq (.set (.inl 3) (.var 7))
  .nil)))))
  .nil))
  .nil))))
  (.seq (.sif (.and (.cons (.cmp .ge (.var 2) (.int 0)) (.cons (.cmp .lt (.var 3) (.int 0)) .nil)))
  (.seq (.ret (.tup (.cons (.bif .len false (.cons (.var 0) .nil)) (.cons (.str [110, 111, 116, 104, 105, 110, 103, 32, 105, 115, 32, 101, 100, 105, 116, 101, 100]) .nil))))
  .nil)
  .nil)
  (.seq (.ret .non)
  .nil)))))))
def D__law_due : Df := ⟨["_law_lines", "_law_count", "_law_at", "_law_rank_here", "_law_k", "_law_line_here", "_law_index", "_law_here"], 1, S__law_due⟩
def S__law_edits : S :=
  (.seq (.set (.inl 1) (.lc true [5] (.inl 5) (.irng (.cons (.bif .int false (.cons (.sl false (.ix (.var 0) (.int 0)) (.int 6) .nil) .nil)) .nil)) .nil (.tup (.cons (.tup .nil) (.cons (.tup (.cons (.str [107, 101, 101, 112]) .nil)) (.cons (.tup .nil) .nil))))))
  (.seq (.set (.inl 2) (.int 0))
  (.seq (.sfor (.inl 3) (.sl false (.var 0) (.int 1) .nil)
  (.seq (.set (.inl 4) (.call "_law_rank" false (.cons (.var 3) .nil)))
  (.seq (.sif (.cmp .lt (.var 4) (.int 0))
  (.seq (.set (.inl 2) (.bif .int false (.cons (.sl false (.var 3) (.int 2) .nil) .nil)))
  .nil)
  (.seq (.sif (.cmp .eq (.var 4) (.int 0))
  (.seq (.setIx (.var 1) (.var 2) (.tup (.cons (.bin .add false (.ix (.ix (.var 1) (.var 2)) (.int 0)) (.tup (.cons (.sl false (.var 3) (.int 1) .nil) .nil))) (.cons (.ix (.ix (.var 1) (.var 2)) (.int 1)) (.cons (.ix (.ix (.var 1) (.var 2)) (.int 2)) .nil)))))
  .nil)
  (.seq (.sif (.cmp .eq (.var 4) (.int 1))
  (.seq (.setIx (.var 1) (.var 2) (.tup (.cons (.ix (.ix (.var 1) (.var 2)) (.int 0)) (.cons (.ife (.cmp .eq (.var 3) (.str [45])) (.tup (.cons (.str [100, 114, 111, 112]) .nil)) (.tup (.cons (.str [116, 101, 120, 116]) (.cons (.sl false (.var 3) (.int 1) .nil) .nil)))) (.cons (.ix (.ix (.var 1) (.var 2)) (.int 2)) .nil)))))
  .nil)
  (.seq (.setIx (.var 1) (.var 2) (.tup (.cons (.ix (.ix (.var 1) (.var 2)) (.int 0)) (.cons (.ix (.ix (.var 1) (.var 2)) (.int 1)) (.cons (.bin .add false (.ix (.ix (.var 1) (.var 2)) (.int 2)) (.tup (.cons (.sl false (.var 3) (.int 1) .nil) .nil))) .nil)))))
  .nil))
  .nil))
  .nil))
  .nil)))
  (.seq (.ret (.var 1))
  .nil))))
def D__law_edits : Df := ⟨["_law_lines", "_law_edits_here", "_law_at", "_law_line_here", "_law_rank_here", "_law_k"], 1, S__law_edits⟩
def lnum (w : Tx) : Int := match numP w with
  | some n => (n : Nat)
  | none => -1
theorem lnum_ok {L : Lm} {w : Tx} (hl : w.length ≤ 3000) : runD L D__law_number [.str w] = .ok (.int (lnum w)) [] := by
  refine runD_of (fun v s => v = .int (lnum w)) [some (.str w), none] rfl rfl (fun v s h => by rw [h]; exact ret_free rfl) fun Q hr => ?_
  have hz : w.length ≤ sizeLine := Nat.le_trans hl (by decide)
  have e2 : ∀ st, lenV [.str w] st = .ok (.int w.length) st := fun st => lenV_str hz
  have bad : (w = [] ∨ ¬ w.length ≤ 60 ∨ ¬ (w.take 1 = [48] → w = [48]) ∨ isDg w = false) → lnum w = -1 := fun z => by
    unfold lnum numP
    rw [if_neg]
    intro q
    rcases z with z | z | z | z
    · rw [z] at q
      simp [isDg] at q
    · exact z q.2.1
    · exact z q.2.2
    · rw [z] at q
      simp at q
  simp -implicitDefEqProofs only [D__law_number, S__law_number, ex_seq, wp_seqs]
  refine wp_cut (fun e s => e = [some (.str w), none] ∧ w ≠ [] ∧ w.length ≤ 60 ∧ (w.take 1 = [48] → w = [48])) (fun R h _ hrt _ => ?_) ?_
  · cases w with
    | nil =>
      simp -implicitDefEqProofs [mVar]
      refine hrt _ _ (hr _ _ ?_)
      rw [bad (.inl rfl)]
    | cons c r =>
      have e3 : ∀ st, ixV (.str (c :: r)) (.int 0) st = .ok (.str [c]) st := fun st => ixV_str (i := 0) hz rfl rfl
      obtain ⟨w, hw⟩ : ∃ w, c :: r = w := ⟨_, rfl⟩
      have hne : w ≠ [] := by rw [← hw]; exact List.cons_ne_nil _ _
      have ht : w.take 1 = [c] := by rw [← hw]; rfl
      have hwl : (1 < w.length) ↔ r ≠ [] := by rw [← hw]; cases r <;> simp
      have h48 : w = [48] ↔ (c = 48 ∧ r = []) := by rw [← hw]; simp
      rw [hw] at e2 e3 bad hr h ⊢
      by_cases h60 : w.length ≤ 60
      · have h60' : ¬ (60 : Int) < (w.length : Nat) := by omega
        simp -implicitDefEqProofs [hne, h60', mVar, e2, e3]
        by_cases h1 : 1 < w.length
        · have h1' : (1 : Int) < (w.length : Nat) := by omega
          by_cases hc : c = 48
          · simp -implicitDefEqProofs [h1', hc, mVar, e3]
            refine hrt _ _ (hr _ _ ?_)
            rw [bad (.inr (.inr (.inl fun z => ?_)))]
            have := z (by rw [ht, hc])
            rw [this] at h1
            simp at h1
          · simp -implicitDefEqProofs [h1', hc, mVar, e3]
            exact h _ _ ⟨rfl, hne, h60, fun z => by rw [ht] at z; simp [hc] at z⟩
        · have h1' : ¬ (1 : Int) < (w.length : Nat) := by omega
          simp -implicitDefEqProofs [h1']
          refine h _ _ ⟨rfl, hne, h60, fun z => ?_⟩
          rw [ht] at z
          rw [h48]
          exact ⟨by simpa using z, by
            by_cases hr0 : r = []
            · exact hr0
            · exact absurd (hwl.mpr hr0) h1⟩
      · have h60' : (60 : Int) < (w.length : Nat) := by omega
        simp -implicitDefEqProofs [hne, h60', mVar, e2, e3]
        refine hrt _ _ (hr _ _ ?_)
        rw [bad (.inr (.inl h60))]
  rintro e s ⟨rfl, hne, h60, h48⟩
  simp -implicitDefEqProofs [mVar]
  refine wp_for (fun k env st => ∃ x, env = [some (.str w), x] ∧ ∀ c ∈ w.take k, dig c = true) ⟨_, rfl, fun c h => by cases h⟩ ?_ ?_
  · rintro k v env st Qb hw ⟨x, rfl, hd⟩ hnx _ hrt _
    have hv : ∃ c, w[k]? = some c ∧ v = .str [c] := by
      unfold G.signs at hw
      rw [List.getElem?_map] at hw
      obtain ⟨c, hc, rfl⟩ := Option.map_eq_some_iff.mp hw
      exact ⟨c, hc, rfl⟩
    obtain ⟨c, hc, rfl⟩ := hv
    refine ⟨rfl, _, rfl, ?_⟩
    have hin : ∀ st, inV' true (.str [c]) (.str [48, 49, 50, 51, 52, 53, 54, 55, 56, 57]) st = .ok (.bl (!dig c)) st := fun st => by
      rw [_root_.N.in_sign]
      have : decide (c ∈ [48, 49, 50, 51, 52, 53, 54, 55, 56, 57]) = dig c := by
        unfold dig
        rw [← Bool.decide_and, decide_eq_decide]
        simp only [List.mem_cons, List.not_mem_nil, or_false]
        omega
      rw [this]
      rfl
    cases hdc : dig c with
    | false =>
      simp -implicitDefEqProofs [mVar, hin, hdc]
      refine hrt _ _ (hr _ _ ?_)
      rw [bad (.inr (.inr (.inr ?_)))]
      rw [← Bool.not_eq_true]
      unfold isDg
      intro z
      simp only [Bool.and_eq_true, List.all_eq_true] at z
      have := z.2 c (List.mem_of_getElem? hc)
      rw [hdc] at this
      cases this
    | true =>
      simp -implicitDefEqProofs [mVar, hin, hdc]
      refine hnx _ _ ⟨_, rfl, fun d hdm => ?_⟩
      rw [List.take_add_one, hc] at hdm
      rcases List.mem_append.mp hdm with z | z
      · exact hd d z
      · simp at z
        rw [z, hdc]
  · rintro env st ⟨x, rfl, hd⟩
    refine ⟨rfl, ?_⟩
    have hlen : (G.signs w).length = w.length := by unfold G.signs; rw [List.length_map]
    rw [hlen, List.take_length] at hd
    have hdg : isDg w = true := by
      unfold isDg
      simp only [Bool.and_eq_true, List.all_eq_true]
      exact ⟨by cases w with
        | nil => exact absurd rfl hne
        | cons c r => rfl, hd⟩
    have hit := intText_tx hdg (show w.length ≤ 4300 by omega)
    have e4 : ∀ st, toIntV [.str w] st = .ok (.int (valD w : Nat)) st := fun st => by
      unfold toIntV
      simp only [intOf_str, strOf_str, hit]
      rw [show blOf (.str w) = none from rfl]
      simp only
      rw [if_pos (by omega)]
    simp -implicitDefEqProofs [mVar, e4]
    refine hr _ _ ?_
    unfold lnum numP
    rw [if_pos ⟨hdg, h60, h48⟩]
def lrank (t : Tx) : Int := (rank t).getD (-1)
theorem lrank_ok {L : Lm} {t : Tx} (hl : t.length ≤ 3000) : runD L D__law_rank [.str t] = .ok (.int (lrank t)) [] := by
  refine runD_of (fun v s => v = .int (lrank t)) [some (.str t)] rfl rfl (fun v s h => by rw [h]; exact ret_free rfl) fun Q hr => ?_
  have hz : t.length ≤ sizeLine := Nat.le_trans hl (by decide)
  have q1 : cut t none (some 1) = t.take 1 := _root_.N.cut_take t 1
  have e1 : ∀ st, sliceV false (.str t) none (some 1) st = .ok (.str (t.take 1)) st := fun st => by rw [_root_.N.slice_str hz, q1]
  unfold lrank rank at hr
  by_cases h45 : t = [45]
  · subst h45
    have e1' : ∀ st, sliceV false (.str [45]) none (some 1) st = .ok (.str [45]) st := e1
    simp -implicitDefEqProofs [D__law_rank, S__law_rank, mVar, e1']
    exact hr _ _ rfl
  · by_cases h1 : t.take 1 = [94]
    · simp -implicitDefEqProofs [D__law_rank, S__law_rank, mVar, e1, h45, h1]
      rw [if_pos h1] at hr
      exact hr _ _ rfl
    rw [if_neg h1] at hr
    by_cases h2 : t.take 1 = [45]
    · simp -implicitDefEqProofs [D__law_rank, S__law_rank, mVar, e1, h45, h2]
      rw [if_pos h2, if_neg h45] at hr
      exact hr _ _ rfl
    rw [if_neg h2] at hr
    by_cases h3 : t.take 1 = [126]
    · simp -implicitDefEqProofs [D__law_rank, S__law_rank, mVar, e1, h45, h3]
      rw [if_pos h3] at hr
      exact hr _ _ rfl
    rw [if_neg h3] at hr
    by_cases h4 : t.take 1 = [43]
    · simp -implicitDefEqProofs [D__law_rank, S__law_rank, mVar, e1, h45, h4]
      rw [if_pos h4] at hr
      exact hr _ _ rfl
    rw [if_neg h4] at hr
    simp -implicitDefEqProofs [D__law_rank, S__law_rank, mVar, e1, h45, h1, h3, h4]
    exact hr _ _ rfl
theorem lline_ok {L : Lm} (hd : ∀ (c : Int) (n : Nat), n < 1000 → ∃ w : Va, (∃ ds : List Int, ds.length = n ∧ w = .lst (ds.map .int)) ∧ L.fn "_law_draws" [.int c, .int n] = .ok w fresh) (ht : ∀ i : Int, ∃ t : Tx, t ∈ CHw ∧ L.fn "_law_words" [.int i] = .ok (.str t) [])
    (c : Int) (after : Nat) (ha : after ≤ 40) : ∃ w, (∃ t : Tx, (∀ c ∈ t, c < 128 ∧ c ≠ 10) ∧ t.length ≤ 100 ∧ w = .str t) ∧ runD L D__law_line [.int c, .int (after : Nat)] = .ok w [] := by
  obtain ⟨text, ht⟩ := Classical.axiomOfChoice ht
  have ht2 : ∀ i st, callP false (L.fn "_law_words") [.int i] st = .ok (.str (text i)) st := fun i st => callP_free rfl (ht i).2
  have hW : ∀ i, (∀ c ∈ text i, c < 128 ∧ c ≠ 10) ∧ (text i).length ≤ 3 := fun i => by
    have k : ∀ t ∈ CHw, (∀ c ∈ t, c < 128 ∧ c ≠ 10) ∧ t.length ≤ 3 := by decide
    exact k _ (ht i).1
  obtain ⟨w, ⟨ds, hl, rfl⟩, e⟩ := hd c 4 (by decide)
  have hd2 : ∀ st, callP false (L.fn "_law_draws") [.int c, .int 4] st = .ok (.lst (ds.map .int)) st := fun st => callP_free rfl e
  obtain ⟨dv, at_⟩ : ∃ dv : Nat → Int, ∀ (k : Nat) (st : Sto), k < 4 → ixV (.lst (ds.map .int)) (.int (k : Nat)) st = .ok (.int (dv k)) st := ⟨fun k => ds.getD k 0, fun k st hk => ixV_int (l := ds.map .int) rfl (by rw [List.getElem?_map, List.getElem?_eq_getElem (by omega)]; simp [List.getD_eq_getElem?_getD, List.getElem?_eq_getElem (show k < ds.length by omega)])⟩
  have a0 : ∀ st, ixV (.lst (ds.map .int)) (.int 0) st = .ok (.int (dv 0)) st := fun st => at_ 0 st (by decide)
  have a1 : ∀ st, ixV (.lst (ds.map .int)) (.int 1) st = .ok (.int (dv 1)) st := fun st => at_ 1 st (by decide)
  have a2 : ∀ st, ixV (.lst (ds.map .int)) (.int 2) st = .ok (.int (dv 2)) st := fun st => at_ 2 st (by decide)
  obtain ⟨k0, hk0, ek0⟩ := fmod_at (dv 0) (n := 16) (by decide)
  have ek0' : (dv 0).fmod 16 = (k0 : Int) := ek0
  obtain ⟨k1, hk1, ek1⟩ := fmod_at (dv 1) (n := 3) (by decide)
  have ek1' : (dv 1).fmod 3 = (k1 : Int) := ek1
  obtain ⟨k2, hk2, ek2⟩ := fmod_at (dv 1) (n := 12) (by decide)
  have ek2' : (dv 1).fmod 12 = (k2 : Int) := ek2
  have num : ∀ k : Nat, k < 1024 → (∀ c ∈ ([64, 32] ++ numI (k : Nat)), c < 128 ∧ c ≠ 10) ∧ ([64, 32] ++ numI (k : Nat)).length ≤ 100 ∧ (∀ st, strV [.int (k : Nat)] st = .ok (.str (numI (k : Nat))) st) ∧ ∀ st, addV false (.str [64, 32]) (.str (numI (k : Nat))) st = .ok (.str ([64, 32] ++ numI (k : Nat))) st := fun k hk => by
    have h4 := num_len hk
    refine ⟨fun c hc => ?_, by simp; omega, fun st => str_nat hk, fun st => addV_str (by simp [sizeLine]; omega)⟩
    rcases List.mem_append.mp hc with h | h
    · simp only [List.mem_cons, List.not_mem_nil, or_false] at h
      omega
    · have := numI_as k c h
      omega
  refine runD_ex [some (.int c), some (.int (after : Nat)), none, none, none] rfl rfl fun Q hr => ?_
  simp -implicitDefEqProofs only [D__law_line, S__law_line, ex_seq, wp_seqs]
  simp -implicitDefEqProofs [mVar, hd2, a0, modV_int, ek0']
  by_cases h5 : (k0 : Int) < 5
  · by_cases h7 : 0 < (dv 2).fmod 7
    · obtain ⟨n1, n2, n3, n4⟩ := num (after + k1) (by omega)
      rw [show ((after + k1 : Nat) : Int) = (after : Int) + (k1 : Int) by omega] at n1 n2 n3 n4
      simp -implicitDefEqProofs [h5, mVar, a1, a2, modV_int, h7, ek1', n3, n4]
      exact hr _ _ _ ⟨_, n1, n2, rfl⟩ (ret_free rfl)
    · obtain ⟨n1, n2, n3, n4⟩ := num k2 (by omega)
      simp -implicitDefEqProofs [h5, mVar, a1, a2, modV_int, h7, ek2', n3, n4]
      exact hr _ _ _ ⟨_, n1, n2, rfl⟩ (ret_free rfl)
  · by_cases h14 : k0 = 14
    · obtain ⟨Ls, hLs⟩ : ∃ Ls : List Tx, Ls = [[], [120], [45, 120], [64], [64, 32, 48, 49], [64, 32, 45, 49], [64, 49], [64, 32] ++ (List.replicate 60 [49]).flatten, [64, 32] ++ (List.replicate 61 [49]).flatten, [32, 45]] := ⟨_, rfl⟩
      have hall : ∀ t ∈ Ls, (∀ c ∈ t, c < 128 ∧ c ≠ 10) ∧ t.length ≤ 100 := by rw [hLs]; decide +kernel
      obtain ⟨w, hw, ew⟩ := ixV_pick (st := []) (x := .lst (Ls.map .str)) (i := dv 1) (j := 10) (n := 10) rfl (by rw [hLs]; rfl) (by decide) rfl
      obtain ⟨t, htm, rfl⟩ := List.mem_map.mp hw
      obtain ⟨p1, p2⟩ := hall t htm
      have m1 : ∀ st, mulV false (.str [49]) (.int 60) st = .ok (.str (List.replicate 60 [49]).flatten) st := fun st => _root_.N.mul_str (k := 60) (by decide) (by decide)
      have m2 : ∀ st, mulV false (.str [49]) (.int 61) st = .ok (.str (List.replicate 61 [49]).flatten) st := fun st => _root_.N.mul_str (k := 61) (by decide) (by decide)
      obtain ⟨u1, hu1⟩ : ∃ u, (List.replicate 60 [49]).flatten = u := ⟨_, rfl⟩
      obtain ⟨u2, hu2⟩ : ∃ u, (List.replicate 61 [49]).flatten = u := ⟨_, rfl⟩
      have l1 : u1.length = 60 := by rw [← hu1]; decide
      have l2 : u2.length = 61 := by rw [← hu2]; decide
      rw [hu1] at m1 hLs
      rw [hu2] at m2 hLs
      have b1 : ∀ st, addV false (.str [64, 32]) (.str u1) st = .ok (.str ([64, 32] ++ u1)) st := fun st => addV_str (by rw [l1]; simp [sizeLine])
      have b2 : ∀ st, addV false (.str [64, 32]) (.str u2) st = .ok (.str ([64, 32] ++ u2)) st := fun st => addV_str (by rw [l2]; simp [sizeLine])
      have mkl : ∀ st, mkL false (Ls.map Va.str) st = .ok (.lst (Ls.map Va.str)) st := fun st => mkL_val (by rw [hLs]; simp [sizeLine])
      have hmap : Ls.map Va.str = [.str [], .str [120], .str [45, 120], .str [64], .str [64, 32, 48, 49], .str [64, 32, 45, 49], .str [64, 49], .str ([64, 32] ++ u1), .str ([64, 32] ++ u2), .str [32, 45]] := by rw [hLs]; rfl
      rw [hmap] at mkl ew
      subst h14
      simp -implicitDefEqProofs only [show ¬ (((14 : Nat) : Int) < 5) from by decide, decide_false, Bool.false_eq_true, if_false, wp_nxs, then_nx, wp_seqs, ex_sif, ex_seq, ex_ret, ex_nil, wp_ifS, ev_cmp, ev_var, ev_int, mk_t, mTst_eq, mke_e, mBin_eq, mVar, mC_eq, G.R.bind_ok, List.getElem?_cons_succ, List.getElem?_cons_zero, cop_eq, eqV_ints, blOf_bl, bindE_ok, show decide (((14 : Nat) : Int) = 14) = true from rfl, if_true, wp_ret, ev_ix, ev_lst, mLst_eq, cons_l, nil_l, mCons_eq, mNil_eq, ev_str, ev_bin, bop_mul, bop_add, m1, m2, b1, b2, mkl, bop_mod, ev_bif, bif_int, mFn_eq, a1, toIntV_int]
      rw [modV_int (by decide), G.R.bind_ok, ew, bindE_ok, wp_rts]
      exact hr _ _ _ ⟨t, p1, p2, rfl⟩ (ret_free rfl)
    · have h14' : ¬ ((k0 : Int) = 14) := by omega
      by_cases h15 : k0 = 5 ∨ k0 = 15
      · have h15' : (k0 : Int) = 5 ∨ (k0 : Int) = 15 := by omega
        rcases h15' with h | h
        · simp -implicitDefEqProofs [h, mVar]
          exact hr _ _ _ ⟨[45], by decide, by decide, rfl⟩ (ret_free rfl)
        · simp -implicitDefEqProofs [h, mVar]
          exact hr _ _ _ ⟨[45], by decide, by decide, rfl⟩ (ret_free rfl)
      · have h15a : ¬ ((k0 : Int) = 5) := by omega
        have h15b : ¬ ((k0 : Int) = 15) := by omega
        obtain ⟨k3, hk3, ek3⟩ := fmod_at (k0 : Int) (n := 3) (by decide)
        have ek3' : (k0 : Int).fmod 3 = (k3 : Int) := ek3
        obtain ⟨g, hg, eg⟩ : ∃ g, (g = 94 ∨ g = 126 ∨ g = 43) ∧ ∀ st, ixV (.str [94, 126, 43]) (.int (k3 : Nat)) st = .ok (.str [g]) st := by
          have : k3 = 0 ∨ k3 = 1 ∨ k3 = 2 := by omega
          rcases this with rfl | rfl | rfl
          · exact ⟨94, .inl rfl, fun st => ixV_str (i := 0) (by decide) rfl rfl⟩
          · exact ⟨126, .inr (.inl rfl), fun st => ixV_str (i := 1) (by decide) rfl rfl⟩
          · exact ⟨43, .inr (.inr rfl), fun st => ixV_str (i := 2) (by decide) rfl rfl⟩
        obtain ⟨w1, w2⟩ := hW (dv 1)
        have b1 : ∀ st, addV false (.str [g]) (.str (text (dv 1))) st = .ok (.str ([g] ++ text (dv 1))) st := fun st => addV_str (by simp [sizeLine]; omega)
        simp -implicitDefEqProofs [h5, h14', h15a, h15b, mVar, modV_int, ek3', eg, a1, ht2]
        rw [b1]
        simp -implicitDefEqProofs
        refine hr _ _ _ ⟨[g] ++ text (dv 1), fun c hc => ?_, by simp; omega, rfl⟩ (ret_free rfl)
        rcases List.mem_append.mp hc with h | h
        · rw [List.mem_singleton] at h
          rw [h]
          rcases hg with hg | hg | hg <;> rw [hg] <;> decide
        · exact w1 c h
def dueV : (Nat × Tx) ⊕ List Ed → Va
  | .inl x => .tup [.int (x.1 : Nat), .str x.2]
  | .inr _ => .non
def lix (t : Tx) : Int := match idx t with
  | some i => (i : Nat)
  | none => -1
theorem ldue_ok {L : Lm} (hN : ∀ w : Tx, w.length ≤ 3000 → L.fn "_law_number" [.str w] = .ok (.int (lnum w)) []) (hR : ∀ t : Tx, t.length ≤ 3000 → L.fn "_law_rank" [.str t] = .ok (.int (lrank t)) [])
    {ls : List Tx} (h0 : ls ≠ []) (hl : ls.length ≤ 400) (hn : ∀ l ∈ ls, l.length ≤ 1000) : runD L D__law_due [.lst (ls.map .str)] = .ok (dueV (rdP ls)) [] := by
  obtain ⟨t, ts, rfl⟩ : ∃ t ts, ls = t :: ts := by cases ls with
    | nil => exact absurd rfl h0
    | cons t ts => exact ⟨t, ts, rfl⟩
  refine runD_of (fun v s => v = dueV (rdP (t :: ts))) [some (.lst ((t :: ts).map .str)), none, none, none, none, none, none, none] rfl rfl (fun v s h => by rw [h]; exact ret_free (by cases rdP (t :: ts) <;> rfl)) fun Q hr => ?_
  have ixk : ∀ (k : Nat) (u : Tx) st, (t :: ts)[k]? = some u → ixV (.lst ((t :: ts).map .str)) (.int (k : Nat)) st = .ok (.str u) st := fun k u st h => ixV_int rfl (by rw [List.getElem?_map, h]; rfl)
  have ix0 : ∀ st, ixV (.lst ((t :: ts).map .str)) (.int 0) st = .ok (.str t) st := fun st => ixk 0 t st rfl
  obtain ⟨m, hm0⟩ : ∃ m, ts.length + 1 = m := ⟨_, rfl⟩
  have hle : ∀ st, lenV [.lst ((t :: ts).map .str)] st = .ok (.int (m : Nat)) st := fun st => by rw [← hm0]; exact lenl_map .str (t :: ts) st
  obtain ⟨V, hV⟩ : ∃ V, (t :: ts).map Va.str = V := ⟨_, rfl⟩
  rw [hV] at ixk ix0 hle ⊢
  have slT : ∀ (u : Tx) (k : Nat) st, u.length ≤ 1000 → sliceV false (.str u) none (some (k : Int)) st = .ok (.str (u.take k)) st := fun u k st h => by rw [_root_.N.slice_str (by unfold sizeLine; omega), _root_.N.cut_take]
  have slD : ∀ (u : Tx) (k : Nat) st, u.length ≤ 1000 → sliceV false (.str u) (some (k : Int)) none st = .ok (.str (u.drop k)) st := fun u k st h => by rw [_root_.N.slice_str (by unfold sizeLine; omega), _root_.N.cut_drop]
  have ht := hn t List.mem_cons_self
  have t6 : ∀ st, sliceV false (.str t) none (some 6) st = .ok (.str (t.take 6)) st := fun st => slT t 6 st ht
  have d6 : ∀ st, sliceV false (.str t) (some 6) none st = .ok (.str (t.drop 6)) st := fun st => slD t 6 st ht
  have cN : ∀ (u : Tx) (k : Nat) st, u.length ≤ 1000 → callP false (L.fn "_law_number") [.str (u.drop k)] st = .ok (.int (lnum (u.drop k))) st := fun u k st h => callP_free rfl (hN _ (by rw [List.length_drop]; omega))
  have cR : ∀ (u : Tx) st, u.length ≤ 1000 → callP false (L.fn "_law_rank") [.str u] st = .ok (.int (lrank u)) st := fun u st h => callP_free rfl (hR _ (by omega))
  -- the count
  have hcnt : cntP t = if t.take 6 = editsT then (if 0 ≤ lnum (t.drop 6) ∧ lnum (t.drop 6) ≤ 2000 then some (lnum (t.drop 6)).toNat else none) else none := by
    unfold cntP lnum
    by_cases h : t.take 6 = editsT
    · rw [if_pos h, if_pos h]
      cases numP (t.drop 6) with
      | none => rfl
      | some n =>
        simp only [Int.toNat_natCast]
        by_cases hh : n ≤ 2000
        · rw [if_pos hh, if_pos ⟨by omega, by omega⟩]
        · rw [if_neg hh, if_neg (fun z => hh (by omega))]
    · rw [if_neg h, if_neg h]
  simp -implicitDefEqProofs only [D__law_due, S__law_due, ex_seq, wp_seqs]
  cases hcp : cntP t with
  | none =>
    have hrd : rdP (t :: ts) = .inl (1, countT) := by simp only [rdP, hcp]
    rw [hrd] at hr
    rw [hcp] at hcnt
    by_cases h6 : t.take 6 = editsT
    · have h6' : t.take 6 = [101, 100, 105, 116, 115, 32] := h6
      rw [if_pos h6] at hcnt
      have hb : lnum (t.drop 6) < 0 ∨ ¬ lnum (t.drop 6) ≤ 2000 := by
        by_cases h : 0 ≤ lnum (t.drop 6) ∧ lnum (t.drop 6) ≤ 2000
        · rw [if_pos h] at hcnt; cases hcnt
        · omega
      by_cases hb1 : lnum (t.drop 6) < 0
      · simp -implicitDefEqProofs [mVar, ix0, t6, d6, h6', cN t 6 _ ht, hb1, mkT, sizeLine]
        exact hr _ _ rfl
      · have hb2 : 2000 < lnum (t.drop 6) := by omega
        simp -implicitDefEqProofs [mVar, ix0, t6, d6, h6', cN t 6 _ ht, hb1, hb2, mkT, sizeLine]
        exact hr _ _ rfl
    · have h6' : ¬ t.take 6 = [101, 100, 105, 116, 115, 32] := h6
      simp -implicitDefEqProofs [mVar, ix0, t6, h6', mkT, sizeLine]
      exact hr _ _ rfl
  | some cnt =>
    have hrd : rdP (t :: ts) = finX cnt (rdL cnt r0 ts) := by simp only [rdP, hcp]
    rw [hrd] at hr
    rw [hcp] at hcnt
    have h6 : t.take 6 = editsT := by
      by_cases h : t.take 6 = editsT
      · exact h
      · rw [if_neg h] at hcnt; cases hcnt
    have h6' : t.take 6 = [101, 100, 105, 116, 115, 32] := h6
    rw [if_pos h6] at hcnt
    have hb : 0 ≤ lnum (t.drop 6) ∧ lnum (t.drop 6) ≤ 2000 := by
      by_cases h : 0 ≤ lnum (t.drop 6) ∧ lnum (t.drop 6) ≤ 2000
      · exact h
      · rw [if_neg h] at hcnt; cases hcnt
    rw [if_pos hb, Option.some.injEq] at hcnt
    have hce : lnum (t.drop 6) = (cnt : Nat) := by omega
    have hb1 : ¬ ((cnt : Nat) : Int) < 0 := by omega
    have hb2 : ¬ (2000 : Int) < ((cnt : Nat) : Int) := by omega
    have cN6 := fun st => cN t 6 st ht
    rw [hce] at cN6
    have hi1 : i62 (1 : Int) = true := by decide
    have hi2 : i62 ((m : Nat) : Int) = true := rep_lt (by rw [List.length_cons] at hl; omega)
    have hlen : (((m : Nat) : Int) - 1).toNat = ts.length := by omega
    simp -implicitDefEqProofs [mVar, ix0, t6, d6, h6', cN6, hb1, hb2, hle, rng2 hi1 hi2, hlen]
    refine wp_for (fun k env st => ∃ r x4 x5 x6 x7, env = [some (.lst V), some (.int (cnt : Nat)), some (.int r.at'), some (.int r.rk), x4, x5, x6, x7] ∧ r.num = k + 1 ∧ rdL cnt r0 ts = rdL cnt r (ts.drop k)) ⟨r0, _, _, _, _, rfl, rfl, rfl⟩ ?_ ?_
    · rintro k w env st Qb hw ⟨r, x4, x5, x6, x7, rfl, hrn, hq⟩ hnx _ hrt _
      obtain ⟨hkl, hw'⟩ := rints_get hw
      obtain ⟨j, hj⟩ : ∃ j : Nat, j = k + 1 := ⟨_, rfl⟩
      have hw2 : w = .int (j : Nat) := by
        rw [hw']
        exact congrArg Va.int (by omega)
      subst hw2
      obtain ⟨u, hu⟩ : ∃ u, ts[k]? = some u := ⟨_, List.getElem?_eq_getElem hkl⟩
      have hm : u ∈ t :: ts := List.mem_cons_of_mem _ (List.mem_of_getElem? hu)
      have hul := hn u hm
      have hdr : ts.drop k = u :: ts.drop (k + 1) := by
        rw [List.drop_eq_getElem_cons hkl, (List.getElem?_eq_some_iff.mp hu).2]
      rw [hdr, rdL] at hq
      have ixu : ∀ st, ixV (.lst V) (.int (j : Nat)) st = .ok (.str u) st := fun st => by rw [hj]; exact ixk (k + 1) u st hu
      have t2 : ∀ st, sliceV false (.str u) none (some 2) st = .ok (.str (u.take 2)) st := fun st => slT u 2 st hul
      have d2 : ∀ st, sliceV false (.str u) (some 2) none st = .ok (.str (u.drop 2)) st := fun st => slD u 2 st hul
      refine ⟨rfl, _, rfl, ?_⟩
      simp -implicitDefEqProofs only [wp_seqs]
      have hk1 : (j : Int) + 1 = ((r.num + 1 : Nat) : Int) := by rw [hrn]; omega
      refine wp_cut (fun e s => e = [some (.lst V), some (.int (cnt : Nat)), some (.int r.at'), some (.int r.rk), some (.int (j : Nat)), some (.str u), x6, x7]) (fun R h _ _ _ => ?_) ?_
      · simp -implicitDefEqProofs only [wp_set, ev_ix, mke_e, mBin_eq, ev_var, mVar, G.R.bind_ok, List.getElem?_cons_succ, List.getElem?_cons_zero, List.set_cons_succ, List.set_cons_zero, ixu, bindE_ok, tgV_one, wp_nxs, ex_set]
        exact h _ _ rfl
      rintro e s rfl
      rw [wp_seqs]
      refine wp_cut (fun e s => e = [some (.lst V), some (.int (cnt : Nat)), some (.int r.at'), some (.int r.rk), some (.int (j : Nat)), some (.str u), some (.int (lix u)), x7]) (fun R h _ _ _ => ?_) ?_
      · by_cases h2 : u.take 2 = atT
        · have h2' : u.take 2 = [64, 32] := h2
          have hlx : lix u = lnum (u.drop 2) := by unfold lix idx lnum; rw [if_pos h2]
          simp -implicitDefEqProofs [mVar, t2, d2, h2', cN u 2 _ hul]
          exact h _ _ (by rw [hlx])
        · have h2' : ¬ u.take 2 = [64, 32] := h2
          have hlx : lix u = -1 := by unfold lix idx; rw [if_neg h2]
          simp -implicitDefEqProofs [mVar, t2, h2']
          exact h _ _ (by rw [hlx])
      rintro e s rfl
      rw [wp_seqs]
      have hst := hq
      unfold stepL at hst
      have dist : ∀ (w : Tx), rdL cnt r0 ts = .inl (r.num + 1, w) → ∀ s, Q.rt (.tup [.int ((j : Int) + 1), .str w]) s := fun w h s => hr _ _ (by rw [h, hk1]; rfl)
      have nxt : ∀ (r' : Rd) (x7 : Option Va) s, r'.num = r.num + 1 → rdL cnt r0 ts = rdL cnt r' (ts.drop (k + 1)) → Qb.nx [some (.lst V), some (.int (cnt : Nat)), some (.int r'.at'), some (.int r'.rk), some (.int (j : Nat)), some (.str u), some (.int (lix u)), x7] s := fun r' x7 s h1 h2 => hnx _ _ ⟨r', _, _, _, _, rfl, by omega, h2⟩
      cases hi : idx u with
      | some i =>
        rw [hi] at hst
        simp only [rIdx] at hst
        have hlx : lix u = (i : Nat) := by unfold lix; rw [hi]
        rw [hlx] at nxt ⊢
        have hlx0 : ¬ ((i : Nat) : Int) < 0 := by omega
        by_cases c1 : 0 ≤ r.at' ∧ r.rk < 0
        · rw [if_pos c1] at hst
          have hf := dist _ hst
          obtain ⟨c11, c12⟩ := c1
          simp -implicitDefEqProofs [mVar, c11, c12, mkT, sizeLine]
          exact hrt _ _ (hf _)
        rw [if_neg c1] at hst
        simp -implicitDefEqProofs [mVar]
        refine wp_cut (fun e s => e = [some (.lst V), some (.int (cnt : Nat)), some (.int r.at'), some (.int r.rk), some (.int (j : Nat)), some (.str u), some (.int (i : Nat)), x7]) (fun R h _ _ _ => ?_) ?_
        · by_cases c11 : 0 ≤ r.at'
          · simp -implicitDefEqProofs [mVar, c11, show ¬ r.rk < 0 from fun z => c1 ⟨c11, z⟩]
            exact h _ _ rfl
          · simp -implicitDefEqProofs [mVar, c11]
            exact h _ _ rfl
        rintro e s rfl
        by_cases c2 : (i : Int) ≤ r.at'
        · rw [if_pos c2] at hst
          have hf := dist _ hst
          simp -implicitDefEqProofs [mVar, c2, mkT, sizeLine]
          exact hrt _ _ (hf _)
        rw [if_neg c2] at hst
        by_cases c3 : cnt ≤ i
        · rw [if_pos c3] at hst
          have hf := dist _ hst
          simp -implicitDefEqProofs [mVar, c2, c3, mkT, sizeLine]
          exact hrt _ _ (hf _)
        rw [if_neg c3] at hst
        simp -implicitDefEqProofs [mVar, c2, c3]
        exact nxt (newE { r with num := r.num + 1 } i) _ _ rfl hst
      | none =>
        rw [hi] at hst
        simp only at hst
        have hlx : lix u = -1 := by unfold lix; rw [hi]
        rw [hlx] at nxt ⊢
        by_cases c1 : r.at' < 0
        · rw [if_pos c1] at hst
          have hf := dist _ hst
          simp -implicitDefEqProofs [mVar, c1, mkT, sizeLine]
          exact hrt _ _ (hf _)
        rw [if_neg c1] at hst
        have cRu : ∀ st, callP false (L.fn "_law_rank") [.str u] st = .ok (.int (lrank u)) st := fun st => cR u st hul
        unfold rPart at hst
        unfold lrank at cRu
        cases hk : rank u with
        | none =>
          rw [hk] at hst cRu
          have hf := dist _ hst
          simp -implicitDefEqProofs [mVar, c1, cRu, mkT, sizeLine]
          exact hrt _ _ (hf _)
        | some q =>
          rw [hk] at hst cRu
          simp only [Option.getD_some] at hst cRu
          have hq0 := (rank_some hk).2.2
          have hqn : ¬ q < 0 := by omega
          by_cases c2 : q < r.rk ∨ (q = 1 ∧ r.rk = 1)
          · rw [if_pos c2] at hst
            have hf := dist _ hst
            rcases c2 with c2 | ⟨c2, c3⟩
            · simp -implicitDefEqProofs [mVar, c1, cRu, hqn, c2, mkT, sizeLine]
              exact hrt _ _ (hf _)
            · simp -implicitDefEqProofs [mVar, c1, cRu, c2, c3, mkT, sizeLine]
              exact hrt _ _ (hf _)
          · rw [if_neg c2] at hst
            have c4 : ¬ q < r.rk := fun z => c2 (.inl z)
            by_cases c5 : q = 1
            · have c6 : ¬ r.rk = 1 := fun z => c2 (.inr ⟨c5, z⟩)
              subst c5
              simp -implicitDefEqProofs [mVar, c1, cRu, c4, c6]
              exact nxt { r with num := r.num + 1, rk := 1, es := r.es.dropLast ++ (r.es.getLast?.map fun e => modE e 1 u).toList } _ _ rfl hst
            · simp -implicitDefEqProofs [mVar, c1, cRu, hqn, c4, c5]
              exact nxt { r with num := r.num + 1, rk := q, es := r.es.dropLast ++ (r.es.getLast?.map fun e => modE e q u).toList } _ _ rfl hst
    · rintro env st ⟨r, x4, x5, x6, x7, rfl, hrn, hq⟩
      refine ⟨rfl, ?_⟩
      have hz : ts.drop (rints 1 ts.length).length = [] := by rw [rints_length]; exact List.drop_length
      rw [hz] at hq
      have hfx : finX cnt (rdL cnt r []) = finL cnt r := rfl
      rw [hq, hfx] at hr
      unfold finL at hr
      rw [rints_length] at hrn
      have hmn : ((m : Nat) : Int) = ((r.num : Nat) : Int) := by omega
      by_cases c1 : 0 ≤ r.at' ∧ r.rk < 0
      · rw [if_pos c1] at hr
        obtain ⟨c11, c12⟩ := c1
        simp -implicitDefEqProofs [mVar, c11, c12, hle, mkT, sizeLine]
        refine hr _ _ ?_
        rw [hmn]
        rfl
      · rw [if_neg c1] at hr
        by_cases c11 : 0 ≤ r.at'
        · simp -implicitDefEqProofs [mVar, c11, show ¬ r.rk < 0 from fun z => c1 ⟨c11, z⟩]
          exact hr _ _ rfl
        · simp -implicitDefEqProofs [mVar, c11]
          exact hr _ _ rfl

end PA

set_option Elab.async false
set_option linter.all false
set_option maxRecDepth 100000
set_option maxHeartbeats 4000000
/-! patches: the edits that the law tells -/
namespace PA
open PySem PySem.Spec PyProof.Rows L2 G C DI
theorem toInt_num {w : Tx} {n : Nat} (h : numP w = some n) (st : Sto) : toIntV [.str w] st = .ok (.int (n : Nat)) st := by
  unfold numP at h
  by_cases c : isDg w = true ∧ w.length ≤ 60 ∧ (w.take 1 = [48] → w = [48])
  · rw [if_pos c, Option.some.injEq] at h
    have hit := intText_tx c.1 (show w.length ≤ 4300 by omega)
    unfold toIntV
    simp only [intOf_str, strOf_str, hit]
    rw [show blOf (.str w) = none from rfl]
    simp only
    rw [if_pos (by omega), h]
  · rw [if_neg c] at h
    cases h
theorem edOf_app (A : List En) (x : En) (h : x.k ∉ A.map (·.k)) (j : Int) : edOf (A ++ [x]) j = if j = x.k then ⟨x.a, x.c, x.b⟩ else edOf A j := by
  unfold edOf
  rw [List.find?_append]
  by_cases hj : j = x.k
  · rw [if_pos hj]
    have : A.find? (fun e => decide (e.k = j)) = none := List.find?_eq_none.mpr fun y hy z => by
      have z := of_decide_eq_true z
      exact h (List.mem_map.mpr ⟨y, hy, z.trans hj⟩)
    rw [this, hj]
    simp
  · rw [if_neg hj]
    cases hf : A.find? (fun e => decide (e.k = j)) with
    | some y => rfl
    | none =>
      have : ([x] : List En).find? (fun e => decide (e.k = j)) = none := List.find?_eq_none.mpr fun y hy z => by
        rw [List.mem_singleton] at hy
        have z := of_decide_eq_true z
        rw [hy] at z
        exact hj z.symm
      rw [this]
      rfl
theorem edOf_new {A : List En} {i : Nat} (h : (i : Int) ∉ A.map (·.k)) (j : Int) : edOf (A ++ [⟨i, [], [keepT], []⟩]) j = edOf A j := by
  rw [edOf_app A ⟨i, [], [keepT], []⟩ h]
  split
  · rename_i hj
    have hj : j = (i : Nat) := hj
    unfold edOf
    have : A.find? (fun e => decide (e.k = j)) = none := List.find?_eq_none.mpr fun y hy z => by
      have z := of_decide_eq_true z
      exact h (List.mem_map.mpr ⟨y, hy, z.trans hj⟩)
    rw [this]
    rfl
  · rfl
def mdL (cnt : Nat) (es : List En) : List Va := (List.range cnt).map fun j => vEd (edOf es (j : Nat))
theorem mdL_set {cnt p : Nat} {es es' : List En} {v : Va} (hp : p < cnt) (h : ∀ j : Nat, vEd (edOf es' (j : Nat)) = if j = p then v else vEd (edOf es (j : Nat))) : (mdL cnt es).set p v = mdL cnt es' := by
  unfold mdL
  apply List.ext_getElem
  · simp
  · intro i h1 h2
    rw [List.getElem_set, List.getElem_map, List.getElem_map, List.getElem_range, h i]
    by_cases c : i = p
    · rw [if_pos c, if_pos c.symm]
    · rw [if_neg c, if_neg fun z => c z.symm]
theorem idx_rank {u : Tx} {i : Nat} (h : idx u = some i) : rank u = none ∧ numP (u.drop 2) = some i := by
  unfold idx at h
  by_cases c : u.take 2 = atT
  · rw [if_pos c] at h
    refine ⟨?_, h⟩
    have h1 : u.take 1 = [64] := by
      have : (u.take 2).take 1 = [64] := by rw [c]; rfl
      rw [List.take_take] at this
      exact this
    unfold rank
    rw [h1, if_neg (by decide), if_neg (by decide), if_neg (by decide), if_neg (by decide)]
  · rw [if_neg c] at h
    cases h
theorem setV_lst {p i : Nat} {l : List Va} {v : Va} {st : Sto} (h : st[p]? = some (some (.lst l))) (hi : i < l.length) : setV (.ref p) (.int (i : Nat)) v st = some (st.set p (some (.lst (l.set i v)))) := by
  have e : ixN l.length (i : Nat) = some i := by
    unfold ixN
    rw [if_pos (by omega), if_pos (by omega)]
    simp
  unfold setV
  simp only [h, intOf_int, e]
theorem step_inr {cnt : Nat} {r r' : Rd} {u : Tx} (h : stepL cnt r u = .inr r') (hr : RdI r) : (∃ i, idx u = some i ∧ r' = newE { r with num := r.num + 1 } i ∧ r.at' < i ∧ i < cnt) ∨
    ∃ k A x, idx u = none ∧ rank u = some k ∧ r.es = A ++ [x] ∧ x.k = r.at' ∧ 0 ≤ r.at' ∧ r' = { r with num := r.num + 1, rk := k, es := A ++ [modE x k u] } := by
  unfold stepL at h
  cases hi : idx u with
  | some i =>
    rw [hi] at h
    simp only [rIdx] at h
    left
    refine ⟨i, rfl, ?_⟩
    by_cases c1 : 0 ≤ r.at' ∧ r.rk < 0
    · rw [if_pos c1] at h; cases h
    rw [if_neg c1] at h
    by_cases c2 : (i : Int) ≤ r.at'
    · rw [if_pos c2] at h; cases h
    rw [if_neg c2] at h
    by_cases c3 : cnt ≤ i
    · rw [if_pos c3] at h; cases h
    rw [if_neg c3] at h
    simp only [Sum.inr.injEq] at h
    exact ⟨h.symm, by omega, by omega⟩
  | none =>
    rw [hi] at h
    simp only at h
    right
    by_cases c1 : r.at' < 0
    · rw [if_pos c1] at h; cases h
    rw [if_neg c1] at h
    unfold rPart at h
    cases hk : rank u with
    | none => rw [hk] at h; cases h
    | some k =>
      rw [hk] at h
      simp only at h
      by_cases c2 : k < r.rk ∨ (k = 1 ∧ r.rk = 1)
      · rw [if_pos c2] at h; cases h
      rw [if_neg c2] at h
      simp only [Sum.inr.injEq] at h
      obtain ⟨A, x, he, hx⟩ := hr.yes (by omega)
      refine ⟨k, A, x, rfl, rfl, he, hx, by omega, ?_⟩
      rw [← h, he]
      simp only [List.dropLast_concat, List.getLast?_concat, Option.map_some, Option.toList_some]
theorem ledits_ok {L : Lm} (hR : ∀ t : Tx, t.length ≤ 3000 → L.fn "_law_rank" [.str t] = .ok (.int (lrank t)) [])
    {ls : List Tx} {es : List Ed} (hrd : rdP ls = .inr es) (hl : ls.length ≤ 400) (hn : ∀ l ∈ ls, l.length ≤ 1000) : runD L D__law_edits [.lst (ls.map .str)] = .ok (.lst (es.map vEd)) fresh := by
  obtain ⟨t, ts, rfl⟩ : ∃ t ts, ls = t :: ts := by cases ls with
    | nil => cases hrd
    | cons t ts => exact ⟨t, ts, rfl⟩
  obtain ⟨cnt, hcp⟩ : ∃ cnt, cntP t = some cnt := by
    cases h : cntP t with
    | none => simp only [rdP, h] at hrd; cases hrd
    | some c => exact ⟨c, rfl⟩
  simp only [rdP, hcp] at hrd
  have hc2 := cnt_le hcp
  have hnum : numP (t.drop 6) = some cnt := by
    unfold cntP at hcp
    by_cases h : t.take 6 = editsT
    · rw [if_pos h] at hcp
      cases hx : numP (t.drop 6) with
      | none => rw [hx] at hcp; cases hcp
      | some n =>
        rw [hx] at hcp
        simp only at hcp
        by_cases hh : n ≤ 2000
        · rw [if_pos hh] at hcp; exact hcp
        · rw [if_neg hh] at hcp; cases hcp
    · rw [if_neg h] at hcp; cases hcp
  refine runD_of (fun v s => v = .ref 0 ∧ s = [some (.lst (es.map vEd))]) [some (.lst ((t :: ts).map .str)), none, none, none, none, none] rfl rfl (fun v s ⟨h1, h2⟩ => by rw [h1, h2]; exact ret_lst rfl (frees_map free_vEd)) fun Q hr => ?_
  have ht := hn t List.mem_cons_self
  have ix0 : ∀ st, ixV (.lst ((t :: ts).map .str)) (.int 0) st = .ok (.str t) st := fun st => by rw [List.map_cons]; exact ix_lst0 _ _
  have sl1 : ∀ st, sliceV false (.lst ((t :: ts).map .str)) (some 1) none st = .ok (.lst (ts.map .str)) st := fun st => by
    unfold sliceV
    simp only [strOf_lst, tupOf_lst, lstOf_lst]
    have h1 : ((t :: ts).map Va.str).length ≤ sizeLine := by rw [List.length_map]; unfold sizeLine; omega
    rw [if_pos h1, show cut ((t :: ts).map Va.str) (some 1) none = ((t :: ts).map Va.str).drop 1 from _root_.N.cut_drop _ 1]
    rw [mkL_val (by rw [List.length_drop, List.length_map]; unfold sizeLine; omega)]
    rfl
  obtain ⟨V, hV⟩ : ∃ V, (t :: ts).map Va.str = V := ⟨_, rfl⟩
  rw [hV] at ix0 sl1 ⊢
  have slD : ∀ (u : Tx) (k : Nat) st, u.length ≤ 1000 → sliceV false (.str u) (some (k : Int)) none st = .ok (.str (u.drop k)) st := fun u k st h => by rw [_root_.N.slice_str (by unfold sizeLine; omega), _root_.N.cut_drop]
  have d6 : ∀ st, sliceV false (.str t) (some 6) none st = .ok (.str (t.drop 6)) st := fun st => slD t 6 st ht
  have ti := toInt_num hnum
  have cR : ∀ (u : Tx) st, u.length ≤ 1000 → callP false (L.fn "_law_rank") [.str u] st = .ok (.int (lrank u)) st := fun u st h => callP_free rfl (hR _ (by omega))
  have hi62 : i62 ((cnt : Nat) : Int) = true := by unfold i62; exact decide_eq_true ⟨by omega, by omega⟩
  have h0 : mdL cnt [] = (List.range cnt).map fun _ => vEd keepE := by
    unfold mdL
    rfl
  simp -implicitDefEqProofs only [D__law_edits, S__law_edits, ex_seq, wp_seqs]
  refine wp_cut (fun e s => e = [some (.lst V), some (.ref 0), none, none, none, none] ∧ s = [some (.lst (mdL cnt []))]) (fun R h _ _ _ => ?_) ?_
  · simp -implicitDefEqProofs
    rw [mLc_rng (env1 := [some (.lst V), none, none, none, none, none]) cnt (fun _ => vEd keepE) (by simp -implicitDefEqProofs [mVar, ix0, d6, ti, rng1 hi62]) rfl (fun i hi => ⟨_, rfl, rfl, by simp -implicitDefEqProofs [mkT, sizeLine, vEd, vTs, keepE, keepT]⟩), mkL_ref (by simp [sizeLine]; omega)]
    simp -implicitDefEqProofs
    exact h _ _ ⟨rfl, by rw [h0]⟩
  rintro e s ⟨rfl, rfl⟩
  simp -implicitDefEqProofs [mVar, sl1]
  refine wp_for (fun k env st => ∃ r a x3 x4 x5, env = [some (.lst V), some (.ref 0), some (.int a), x3, x4, x5] ∧ st = [some (.lst (mdL cnt r.es))] ∧ RdI r ∧ r.num = k + 1 ∧ r.at' < cnt ∧ (0 ≤ r.at' → a = r.at') ∧ rdL cnt r0 ts = rdL cnt r (ts.drop k)) ⟨r0, 0, _, _, _, rfl, rfl, r0_ok, rfl, show (-1 : Int) < (cnt : Nat) by omega, fun h => absurd h (by decide), rfl⟩ ?_ ?_
  · rintro k w env st Qb hw ⟨r, a, x3, x4, x5, rfl, rfl, hri, hrn, hac, haa, hq⟩ hnx _ _ _
    rw [List.getElem?_map] at hw
    obtain ⟨u, hu, rfl⟩ := Option.map_eq_some_iff.mp hw
    have hm : u ∈ t :: ts := List.mem_cons_of_mem _ (List.mem_of_getElem? hu)
    have hul := hn u hm
    have hkl := (List.getElem?_eq_some_iff.mp hu).1
    have hdr : ts.drop k = u :: ts.drop (k + 1) := by
      rw [List.drop_eq_getElem_cons hkl, (List.getElem?_eq_some_iff.mp hu).2]
    rw [hdr, rdL] at hq
    simp only [List.length_cons] at hl
    refine ⟨rfl, _, rfl, ?_⟩
    cases hs : stepL cnt r u with
    | inl x =>
      rw [hs] at hq
      rw [hq] at hrd
      cases hrd
    | inr r' =>
      rw [hs] at hq
      obtain ⟨p1, p2⟩ := step_ok hri (by omega) hs
      rcases step_inr hs hri with ⟨i, hi, hr', h1, h2⟩ | ⟨q, A, x, hi, hk, he, hx, h1, hr'⟩
      · obtain ⟨g1, g2⟩ := idx_rank hi
        have hlr : lrank u = -1 := by unfold lrank; rw [g1]; rfl
        have d2 : ∀ st, sliceV false (.str u) (some 2) none st = .ok (.str (u.drop 2)) st := fun st => slD u 2 st hul
        simp -implicitDefEqProofs [mVar, cR u _ hul, hlr, d2, toInt_num g2]
        refine hnx _ _ ⟨r', _, _, _, _, rfl, ?_, p1, by rw [p2, hrn], by rw [hr']; show ((i : Nat) : Int) < _; omega, fun _ => by rw [hr']; rfl, hq⟩
        have hni : (i : Int) ∉ r.es.map (·.k) := fun z => by
          obtain ⟨y, hy, hyk⟩ := List.mem_map.mp z
          have := hri.ok.le y hy
          omega
        have : mdL cnt r'.es = mdL cnt r.es := by
          unfold mdL
          rw [hr']
          apply List.map_congr_left
          intro j _
          show vEd (edOf (r.es ++ [⟨i, [], [keepT], []⟩]) _) = _
          rw [edOf_new hni]
        rw [this]
      · obtain ⟨p, hp⟩ : ∃ p : Nat, r.at' = (p : Nat) := ⟨r.at'.toNat, by omega⟩
        have hap : a = (p : Nat) := by rw [haa h1, hp]
        subst hap
        have hpc : p < cnt := by omega
        have hnd : x.k ∉ A.map (·.k) := by
          have := hri.ok.nd
          rw [he, List.map_append, List.nodup_append] at this
          intro z
          exact this.2.2 _ z _ (by simp) rfl
        have hxe : edOf r.es ((p : Nat) : Int) = ⟨x.a, x.c, x.b⟩ := by
          rw [he, edOf_app A x hnd, if_pos (by rw [hx, hp])]
        have hlen : (mdL cnt r.es).length = cnt := by simp [mdL]
        have hix : ∀ st', ixV (.ref 0) (.int (p : Nat)) (some (.lst (mdL cnt r.es)) :: st') = .ok (vEd ⟨x.a, x.c, x.b⟩) (some (.lst (mdL cnt r.es)) :: st') := fun st' => by
          refine ixV_int (l := mdL cnt r.es) (seqOf_ref rfl) ?_
          unfold mdL
          rw [List.getElem?_map, List.getElem?_range hpc, Option.map_some, hxe]
        have x0 : ∀ st, ixV (vEd ⟨x.a, x.c, x.b⟩) (.int 0) st = .ok (vTs x.a) st := fun st => ix_tup0 _ _
        have x1 : ∀ st, ixV (vEd ⟨x.a, x.c, x.b⟩) (.int 1) st = .ok (vTs x.c) st := fun st => ix_tup1 _ _ _
        have x2 : ∀ st, ixV (vEd ⟨x.a, x.c, x.b⟩) (.int 2) st = .ok (vTs x.b) st := fun st => ix_tup2 _ _ _ _
        have hkm : (modE x q u).k = x.k := by
          unfold modE
          split
          · rfl
          · split <;> rfl
        have hset : ∀ v, v = vEd ⟨(modE x q u).a, (modE x q u).c, (modE x q u).b⟩ → setV (.ref 0) (.int (p : Nat)) v [some (.lst (mdL cnt r.es))] = some [some (.lst (mdL cnt r'.es))] := fun v hv => by
          rw [setV_lst (l := mdL cnt r.es) rfl (by rw [hlen]; exact hpc), mdL_set (es' := r'.es) hpc]
          · rfl
          · intro j
            rw [hr']
            show vEd (edOf (A ++ [modE x q u]) _) = _
            rw [edOf_app A (modE x q u) (by rw [hkm]; exact hnd), hkm, hx, hp]
            by_cases hj : j = p
            · rw [if_pos (by rw [hj]), if_pos hj, hv]
            · rw [if_neg (by omega), if_neg hj, he, edOf_app A x hnd, if_neg (by rw [hx, hp]; omega)]
        have hsz := hri.sz x (by rw [he]; exact List.mem_append_right _ (List.mem_singleton.mpr rfl))
        obtain ⟨ud, hud⟩ : ∃ ud, u.drop 1 = ud := ⟨_, rfl⟩
        have d1 : ∀ st, sliceV false (.str u) (some 1) none st = .ok (.str ud) st := fun st => by rw [← hud]; exact slD u 1 st hul
        have hlr : lrank u = q := by unfold lrank; rw [hk]; rfl
        have hk3 := (rank_some hk).2.2
        have fin : ∀ x3 x4 x5, Qb.nx [some (.lst V), some (.ref 0), some (.int (p : Nat)), x3, x4, x5] [some (.lst (mdL cnt r'.es))] := fun x3 x4 x5 => hnx _ _ ⟨r', _, _, _, _, rfl, rfl, p1, by rw [p2, hrn], by rw [hr']; exact hac, fun _ => by rw [hr']; exact hp.symm, hq⟩
        rcases hk3 with rfl | rfl | rfl
        · have hat : ∀ st, addV false (vTs x.a) (.tup [.str ud]) st = .ok (vTs (x.a ++ [ud])) st := fun st => by
            unfold vTs
            rw [addV_tup, mkT_val (by simp [sizeLine]; omega)]
            simp
          simp -implicitDefEqProofs [mVar, cR u _ hul, hlr, mSetIx, hix, x0, x1, x2, d1, mkT, sizeLine, hat]
          rw [hset _ (by rw [show modE x 0 u = { x with a := x.a ++ [u.drop 1] } from rfl, hud]; rfl)]
          simp -implicitDefEqProofs
          exact fin _ _ _
        · by_cases h45 : u = [45]
          · subst h45
            simp -implicitDefEqProofs [mVar, cR _ _ hul, hlr, mSetIx, hix, x0, x1, x2, mkT, sizeLine]
            rw [hset (.tup [vTs x.a, .tup [.str [100, 114, 111, 112]], vTs x.b]) rfl]
            simp -implicitDefEqProofs
            exact fin _ _ _
          · have ht1 : ¬ u.take 1 = [45] := fun z => h45 ((rank_some hk).2.1 z)
            simp -implicitDefEqProofs [mVar, cR u _ hul, hlr, mSetIx, hix, x0, x1, x2, d1, h45, mkT, sizeLine]
            rw [hset _ (by
              have : modE x 1 u = { x with c := [textT, u.drop 1] } := by unfold modE; rw [if_neg (by decide), if_neg (by decide), if_neg ht1]
              rw [this, hud]
              rfl)]
            simp -implicitDefEqProofs
            exact fin _ _ _
        · have hat : ∀ st, addV false (vTs x.b) (.tup [.str ud]) st = .ok (vTs (x.b ++ [ud])) st := fun st => by
            unfold vTs
            rw [addV_tup, mkT_val (by simp [sizeLine]; omega)]
            simp
          simp -implicitDefEqProofs [mVar, cR u _ hul, hlr, mSetIx, hix, x0, x1, x2, d1, mkT, sizeLine, hat]
          rw [hset _ (by rw [show modE x 2 u = { x with b := x.b ++ [u.drop 1] } from rfl, hud]; rfl)]
          simp -implicitDefEqProofs
          exact fin _ _ _
  · rintro env st ⟨r, a, x3, x4, x5, rfl, rfl, hri, hrn, hac, haa, hq⟩
    refine ⟨rfl, ?_⟩
    have hz : ts.drop (ts.map Va.str).length = [] := by rw [List.length_map]; exact List.drop_length
    rw [hz] at hq
    rw [hq] at hrd
    have hfl : finL cnt r = .inr es := hrd
    unfold finL at hfl
    have : es.map vEd = mdL cnt r.es := by
      split at hfl
      · cases hfl
      · simp only [Sum.inr.injEq] at hfl
        rw [← hfl]
        simp [mdL]
    simp -implicitDefEqProofs [mVar]
    exact hr _ _ ⟨rfl, by rw [this]⟩
end PA

set_option Elab.async false
set_option linter.all false
set_option maxRecDepth 100000
set_option maxHeartbeats 4000000
namespace K84_BAD_PATCHES
open PySem PySem.Spec PyProof.Rows L2 G C PA
theorem runD_nm {L : Lm} {N N' : List Str} {n : Nat} {S : S} {ws : List Va} (h : N.length = N'.length) : runD L ⟨N, n, S⟩ ws = runD L ⟨N', n, S⟩ ws := by
  unfold runD runB
  simp only [h]
theorem flat_vEd (e : Ed) : flat (vEd e) = true := by
  have : ∀ l : List Tx, flats (l.map Va.str) = true := fun l => by
    induction l with
    | nil => rfl
    | cons a l ih => simp [flats, flat, ih]
  simp [vEd, vTs, flat, flats, this]
theorem flats_vEd : ∀ es : List Ed, flats (es.map vEd) = true
  | [] => rfl
  | e :: es => by simp [flats, flat_vEd, flats_vEd es]
def Gd (t : Tx) : Prop := (∀ c ∈ t, c < 128 ∧ c ≠ 10) ∧ t.length ≤ 100
theorem lent1 {φ : Fn} {l : List Va} {w : Va} {s : Sto} (hf : frees l = true) (h : φ [.lst l] = .ok w s) (hw : flatF w s = true) : callP false φ [.ref 0] [some (.lst l)] = .ok w [some (.lst l)] := by
  refine callP_lent (ws' := [.lst l]) (st' := [none]) (by simp [frees, free]) ?_ h hw
  unfold mapS
  rw [freeze_lst (p := 0) rfl hf]
  rfl
theorem law_ok {L : Lm} (ns : List Int) (hc : ∀ (k : Nat), L.fn "_law_cell" [.scr (ns.map .int), .int k] = .ok (.int (cell ns k)) [])
    (hln : ∀ (c : Int) (after : Nat), after ≤ 40 → ∃ w : Va, (∃ t : Tx, (∀ c ∈ t, c < 128 ∧ c ≠ 10) ∧ t.length ≤ 100 ∧ w = .str t) ∧ L.fn "_law_line" [.int c, .int (after : Nat)] = .ok w [])
    (hN : ∀ w : Tx, w.length ≤ 3000 → L.fn "_law_number" [.str w] = .ok (.int (lnum w)) [])
    (hdue : ∀ {ls : List Tx}, ls ≠ [] → ls.length ≤ 400 → (∀ l ∈ ls, l.length ≤ 1000) → L.fn "_law_due" [.lst (ls.map .str)] = .ok (dueV (rdP ls)) [])
    (hed : ∀ {ls : List Tx} {es : List Ed}, rdP ls = .inr es → ls.length ≤ 400 → (∀ l ∈ ls, l.length ≤ 1000) → L.fn "_law_edits" [.lst (ls.map .str)] = .ok (.lst (es.map vEd)) fresh)
    (hr : ∀ {ls : List Tx}, ls ≠ [] → ls.length ≤ 400 → (∀ l ∈ ls, l.length ≤ 1000) → (∀ l ∈ ls, 10 ∉ l) → (∀ l ∈ ls, As l) → L.fn "read_patch" [.str (PA.txOf ls)] = match rdP ls with
      | .inl x => .err (xBP x.1 x.2) []
      | .inr es => .ok (.lst (es.map vEd)) fresh)
    (hae : ∀ {es : List Ed} {n : Nat}, es.length = n → L.fn "_law_are_edits" [.lst (es.map vEd), .int n] = .ok (.bl true) [])
    (s1 : L.xs.sub bpT "BadPatch" = some true) (s2 : L.xs.sub bpT "WeftError" = some true) (f1 : L.xs.fld bpT "line" = true) (f2 : L.xs.fld bpT "what" = true) : runD L D_law [.scr (ns.map .int)] = .ok (.bl true) [] := by
  have hsc : frees (ns.map Va.int) = true := frees_map fun _ => rfl
  have hcc : ∀ (k : Nat) st, callP false (L.fn "_law_cell") [.scr (ns.map .int), .int (k : Nat)] st = .ok (.int (cell ns k)) st := fun k st => callP_free (by simp [hsc]) (hc k)
  have hc0 : ∀ st, callP false (L.fn "_law_cell") [.scr (ns.map .int), .int 0] st = .ok (.int (cell ns 0)) st := hcc 0
  have hc1 : ∀ st, callP false (L.fn "_law_cell") [.scr (ns.map .int), .int 1] st = .ok (.int (cell ns 1)) st := hcc 1
  have fE : ∀ es : List Ed, frees (es.map vEd) = true := fun es => frees_map free_vEd
  obtain ⟨n40, hn40, e40⟩ := fmod_at ((cell ns 0).fdiv 8) (n := 40) (by decide)
  have e40' : ((cell ns 0).fdiv 8).fmod 40 = (n40 : Int) := e40
  obtain ⟨n31, hn31, e31⟩ := fmod_at (cell ns 1) (n := 31) (by decide)
  have e31' : (cell ns 1).fmod 31 = (n31 : Int) := e31
  refine runD_of (fun v s => v = .bl true) [some (.scr (ns.map .int)), none, none, none, none, none, none, none, none, none, none, none] rfl rfl (fun v s h => by rw [h]; exact ret_free rfl) fun Q hq => ?_
  obtain ⟨SC, hSC⟩ : ∃ SC, Va.scr (ns.map Va.int) = SC := ⟨_, rfl⟩
  rw [hSC] at hcc hc0 hc1 ⊢
  simp -implicitDefEqProofs only [D_law, S_law, ex_seq, wp_seqs]
  have hnum := num_len (k := n40) (by omega)
  have hst : ∀ st, strV [.int (n40 : Nat)] st = .ok (.str (numI (n40 : Nat))) st := fun st => str_nat (by omega)
  have had : ∀ st, addV false (.str [101, 100, 105, 116, 115, 32]) (.str (numI (n40 : Nat))) st = .ok (.str (editsT ++ numI (n40 : Nat))) st := fun st => addV_str (by simp [sizeLine]; omega)
  refine wp_cut (fun e s => e = [some SC, some (.int (cell ns 0)), none, none, none, none, none, none, none, none, none, none] ∧ s = []) (fun R h _ _ _ => ?_) ?_
  · simp -implicitDefEqProofs [mVar, hc0]
    exact h _ _ ⟨rfl, rfl⟩
  rintro e s ⟨rfl, rfl⟩
  rw [wp_seqs]
  refine wp_cut (fun e s => e = [some SC, some (.int (cell ns 0)), some (.str (editsT ++ numI (n40 : Nat))), none, none, none, none, none, none, none, none, none] ∧ s = []) (fun R h _ _ _ => ?_) ?_
  · simp -implicitDefEqProofs [mVar, fdivV_int, modV_int, e40', hst, had]
    exact h _ _ ⟨rfl, rfl⟩
  rintro e s ⟨rfl, rfl⟩
  rw [wp_seqs]
  refine wp_cut (fun e s => ∃ f : Tx, Gd f ∧ e = [some SC, some (.int (cell ns 0)), some (.str f), none, none, none, none, none, none, none, none, none] ∧ s = []) (fun R h _ _ _ => ?_) ?_
  · obtain ⟨Ls, hLs⟩ : ∃ Ls : List Tx, Ls = [[101, 100, 105, 116, 115], [101, 100, 105, 116, 115, 32, 32, 49], [101, 100, 105, 116, 115, 32, 48, 49], [101, 100, 105, 116, 32, 49], [101, 100, 105, 116, 115, 32, 50, 48, 48, 49], [101, 100, 105, 116, 115, 32, 50, 48, 48, 48], [], [101, 100, 105, 116, 115, 32, 120]] := ⟨_, rfl⟩
    have hall : ∀ t ∈ Ls, (∀ c ∈ t, c < 128 ∧ c ≠ 10) ∧ t.length ≤ 100 := by rw [hLs]; decide +kernel
    obtain ⟨w, hw, ew⟩ := ixV_pick (st := []) (x := .lst (Ls.map .str)) (i := (cell ns 0).fdiv 8) (j := 8) (n := 8) rfl (by rw [hLs]; rfl) (by decide) rfl
    obtain ⟨t, htm, rfl⟩ := List.mem_map.mp hw
    have hmap : Ls.map Va.str = [.str [101, 100, 105, 116, 115], .str [101, 100, 105, 116, 115, 32, 32, 49], .str [101, 100, 105, 116, 115, 32, 48, 49], .str [101, 100, 105, 116, 32, 49], .str [101, 100, 105, 116, 115, 32, 50, 48, 48, 49], .str [101, 100, 105, 116, 115, 32, 50, 48, 48, 48], .str [], .str [101, 100, 105, 116, 115, 32, 120]] := by rw [hLs]; rfl
    rw [hmap] at ew
    have mkl : ∀ (l : List Va) st, l.length ≤ 8 → mkL false l st = .ok (.lst l) st := fun l st hl => mkL_val (Nat.le_trans hl (by decide))
    simp -implicitDefEqProofs [mVar, modV_int]
    split
    · have mk8 := mkl (Ls.map Va.str) [] (by rw [hmap]; decide)
      rw [hmap] at mk8
      simp -implicitDefEqProofs [mVar, fdivV_int, modV_int, mk8, ew]
      exact h _ _ ⟨t, hall t htm, rfl, rfl⟩
    · rw [wp_nxs]
      refine h _ _ ⟨editsT ++ numI (n40 : Nat), ⟨fun c hc => ?_, ?_⟩, rfl, rfl⟩
      · rcases List.mem_append.mp hc with h | h
        · have : ∀ c ∈ editsT, c < 128 ∧ c ≠ 10 := by decide
          exact this c h
        · have := numI_as n40 c h
          omega
      · rw [List.length_append]
        have : editsT.length = 6 := rfl
        omega
  rintro e s ⟨f, hf, rfl, rfl⟩
  have mk1 : ∀ (x : Va) st, mkL true [x] st = .ok (.ref st.length) (st ++ [some (.lst [x])]) := fun x st => mkL_ref (by show 1 ≤ 16777216; decide)
  have hi62 : i62 ((n31 : Nat) : Int) = true := rep_lt (by omega)
  rw [wp_seqs]
  refine wp_cut (fun e s => e = [some SC, some (.int (cell ns 0)), some (.str f), some (.ref 0), none, none, none, none, none, none, none, none] ∧ s = [some (.lst [.str f])]) (fun R h _ _ _ => ?_) ?_
  · simp -implicitDefEqProofs [mVar, mk1]
    exact h _ _ ⟨rfl, rfl⟩
  rintro e s ⟨rfl, rfl⟩
  rw [wp_seqs]
  refine wp_cut (fun e s => e = [some SC, some (.int (cell ns 0)), some (.str f), some (.ref 0), some (.int 0), none, none, none, none, none, none, none] ∧ s = [some (.lst [.str f])]) (fun R h _ _ _ => ?_) ?_
  · simp -implicitDefEqProofs
    exact h _ _ ⟨rfl, rfl⟩
  rintro e s ⟨rfl, rfl⟩
  rw [wp_seqs]
  refine wp_cut (fun e s => ∃ (ls : List Tx) (x4 x5 x11 : Option Va), (ls ≠ [] ∧ ls.length ≤ 40 ∧ ∀ l ∈ ls, Gd l) ∧ e = [some SC, some (.int (cell ns 0)), some (.str f), some (.ref 0), x4, x5, none, none, none, none, none, x11] ∧ s = [some (.lst (ls.map .str))]) (fun R h _ _ _ => ?_) ?_
  · simp -implicitDefEqProofs [mVar, hc1, modV_int, e31', rng1 hi62]
    refine wp_for (fun k env st => ∃ (ls : List Tx) (after : Nat) (x5 x11 : Option Va), ls.length = k + 1 ∧ (∀ l ∈ ls, Gd l) ∧ after ≤ 40 ∧ env = [some SC, some (.int (cell ns 0)), some (.str f), some (.ref 0), some (.int (after : Nat)), x5, none, none, none, none, none, x11] ∧ st = [some (.lst (ls.map .str))]) ⟨[f], 0, none, none, rfl, fun l h => by rw [List.mem_singleton] at h; rw [h]; exact hf, by decide, rfl, rfl⟩ ?_ ?_
    · rintro k w env st Qb hw ⟨ls, after, x5, x11, hl, hg, ha, rfl, rfl⟩ hnx _ _ _
      obtain ⟨hk, hw'⟩ := rints_get hw
      have hw2 : w = .int (k : Nat) := by
        rw [hw']
        exact congrArg Va.int (by omega)
      subst hw2
      obtain ⟨w, ⟨t, t1, t2, rfl⟩, et⟩ := hln (cell ns (2 + k)) after ha
      have cL : ∀ st, callP false (L.fn "_law_line") [.int (cell ns (2 + k)), .int (after : Nat)] st = .ok (.str t) st := fun st => callP_free rfl et
      have hck : ∀ st, callP false (L.fn "_law_cell") [SC, .int ((2 : Int) + (k : Nat))] st = .ok (.int (cell ns (2 + k))) st := fun st => by
        rw [show (2 : Int) + (k : Nat) = ((2 + k : Nat) : Int) by omega]
        exact hcc (2 + k) st
      have htz : t.length ≤ sizeLine := by unfold sizeLine; omega
      have q1 : cut t none (some 2) = t.take 2 := _root_.N.cut_take t 2
      have q2 : cut t (some 2) none = t.drop 2 := _root_.N.cut_drop t 2
      have e1 : ∀ st, sliceV false (.str t) none (some 2) st = .ok (.str (t.take 2)) st := fun st => by rw [_root_.N.slice_str htz, q1]
      have e2 : ∀ st, sliceV false (.str t) (some 2) none st = .ok (.str (t.drop 2)) st := fun st => by rw [_root_.N.slice_str htz, q2]
      have cN : ∀ st, callP false (L.fn "_law_number") [.str (t.drop 2)] st = .ok (.int (lnum (t.drop 2))) st := fun st => callP_free rfl (hN _ (by rw [List.length_drop]; omega))
      refine ⟨rfl, _, rfl, ?_⟩
      simp -implicitDefEqProofs only [wp_seqs]
      refine wp_cut (fun e s => e = [some SC, some (.int (cell ns 0)), some (.str f), some (.ref 0), some (.int (after : Nat)), some (.int (k : Nat)), none, none, none, none, none, some (.str t)] ∧ s = [some (.lst (ls.map .str))]) (fun R h _ _ _ => ?_) ?_
      · simp -implicitDefEqProofs [mVar, hck, cL]
        exact h _ _ ⟨rfl, rfl⟩
      rintro e s ⟨rfl, rfl⟩
      rw [wp_seqs]
      refine wp_cut (fun e s => ∃ after : Nat, after ≤ 40 ∧ e = [some SC, some (.int (cell ns 0)), some (.str f), some (.ref 0), some (.int (after : Nat)), some (.int (k : Nat)), none, none, none, none, none, some (.str t)] ∧ s = [some (.lst (ls.map .str))]) (fun R h _ _ _ => ?_) ?_
      · by_cases h2 : t.take 2 = [64, 32]
        · cases hn : numP (t.drop 2) with
          | none =>
            have hl : lnum (t.drop 2) = -1 := by unfold lnum; rw [hn]
            rw [hl] at cN
            simp -implicitDefEqProofs [mVar, e1, e2, h2, cN]
            exact h _ _ ⟨after, ha, rfl, rfl⟩
          | some i =>
            have hl : lnum (t.drop 2) = (i : Nat) := by unfold lnum; rw [hn]
            rw [hl] at cN
            by_cases hi : (i : Int) + 1 < 40
            · simp -implicitDefEqProofs [mVar, e1, e2, h2, cN, toInt_num hn, hi]
              exact h _ _ ⟨i + 1, by omega, rfl, rfl⟩
            · simp -implicitDefEqProofs [mVar, e1, e2, h2, cN, toInt_num hn, hi]
              exact h _ _ ⟨40, by decide, rfl, rfl⟩
        · simp -implicitDefEqProofs [mVar, e1, h2]
          exact h _ _ ⟨after, ha, rfl, rfl⟩
      rintro e s ⟨after, ha, rfl, rfl⟩
      have ap : appendV (.ref 0) [.str t] [some (.lst (ls.map .str))] = .ok .non [some (.lst ((ls ++ [t]).map .str))] := by rw [append0 (by rw [List.length_map]; unfold sizeLine; omega)]; simp
      have ty : tyB "list" (.ref 0) [some (.lst (ls.map .str))] = true := rfl
      simp -implicitDefEqProofs only [wp_seqs, wp_expr, ex_expr, ev_mth, mke_e, ev_var, mMth_eq, mVar, G.R.bind_ok, List.getElem?_cons_succ, List.getElem?_cons_zero, mthT_append, mth_append, ty, if_true, cons_l, nil_l, mCons_eq, mNil_eq, ap, bindE_ok, wp_nxs, then_nx, ex_nil, ex_seq]
      refine hnx _ _ ⟨ls ++ [t], after, _, _, by rw [List.length_append, hl]; rfl, fun l hl => ?_, ha, rfl, rfl⟩
      rcases List.mem_append.mp hl with z | z
      · exact hg l z
      · rw [List.mem_singleton] at z
        rw [z]
        exact ⟨t1, t2⟩
    · rintro env st ⟨ls, after, x5, x11, hl, hg, ha, rfl, rfl⟩
      refine ⟨rfl, ?_⟩
      rw [rints_length] at hl
      exact h _ _ ⟨ls, _, _, _, ⟨fun z => (by rw [z] at hl; cases hl), by omega, hg⟩, rfl, rfl⟩
  rintro e s ⟨ls, x4, x5, x11, ⟨hls0, hlsl, hlsg⟩, rfl, rfl⟩
  have hL : ∀ l ∈ ls, l.length ≤ 1000 := fun l h => by have := (hlsg l h).2; omega
  have cD : callP false (L.fn "_law_due") [.ref 0] [some (.lst (ls.map .str))] = .ok (dueV (rdP ls)) [some (.lst (ls.map .str))] := lent1 (frees_map fun _ => rfl) (hdue hls0 (by omega) hL) (by cases rdP ls <;> rfl)
  rw [wp_seqs]
  refine wp_cut (fun e s => e = [some SC, some (.int (cell ns 0)), some (.str f), some (.ref 0), x4, x5, some (dueV (rdP ls)), none, none, none, none, x11] ∧ s = [some (.lst (ls.map .str))]) (fun R h _ _ _ => ?_) ?_
  · simp -implicitDefEqProofs [mVar, cD]
    exact h _ _ ⟨rfl, rfl⟩
  rintro e s ⟨rfl, rfl⟩
  have hj : joinV (.str [10]) [.ref 0] [some (.lst (ls.map .str))] = .ok (.str (PA.txOf ls)) [some (.lst (ls.map .str))] := join_ref rfl (by
    have := sum_le fun t h => hL t h
    have h2 : ls.length * 1000 ≤ 40 * 1000 := Nat.mul_le_mul_right _ hlsl
    simp only [List.length_cons, List.length_nil]
    omega)
  have rr := hr hls0 (by omega) hL (fun l h z => ((hlsg l h).1 10 z).2 rfl) (fun l h c hc => ((hlsg l h).1 c hc).1)
  have dd : dat 40 (dueV (rdP ls)) = true := by cases rdP ls <;> simp [dueV]
  have qD : ∀ st, G.eqV true (dueV (rdP ls)) (dueV (rdP ls)) st = .ok (.bl false) st := fun st => eqV_self dd
  cases hrd : rdP ls with
  | inl x =>
    rw [hrd] at rr qD
    have cR : ∀ st, callP false (L.fn "read_patch") [.str (PA.txOf ls)] st = .err (xBP x.1 x.2) st := fun st => callP_err rfl rr
    have t1 : L.xs.sub (xBP x.1 x.2).cls "BadPatch" = some true := s1
    have t2 : L.xs.sub (xBP x.1 x.2).cls "WeftError" = some true := s2
    have t3 : L.xs.fld (xBP x.1 x.2).cls "line" = true := f1
    have t4 : L.xs.fld (xBP x.1 x.2).cls "what" = true := f2
    have l1 : (xBP x.1 x.2).fs.lookup ("line" : Str).cps.toList = some (.int (x.1 : Nat)) := rfl
    have l2 : (xBP x.1 x.2).fs.lookup ("what" : Str).cps.toList = some (.str x.2) := rfl
    have i1 : ∀ st, isiV "int" [.int (x.1 : Nat)] st = .ok (.bl true) st := fun st => isi_of rfl (by decide +kernel)
    have i2 : ∀ st, isiV "bool" [.int (x.1 : Nat)] st = .ok (.bl false) st := fun st => isi_of rfl (by decide +kernel)
    have fx : ((xBP x.1 x.2).fs.all fun p => free p.2) = true := rfl
    obtain ⟨X, hX⟩ : ∃ X, xBP x.1 x.2 = X := ⟨_, rfl⟩
    rw [hX] at cR t1 t2 t3 t4 l1 l2 fx
    have hdv : dueV (.inl x) = .tup [.int (x.1 : Nat), .str x.2] := rfl
    rw [hdv] at qD ⊢
    simp -implicitDefEqProofs [mVar, hj, cR, t1, t2, t3, t4, l1, l2, fx, i1, i2, mkT, sizeLine, qD, G.isNon]
    exact hq _ _ rfl
  | inr es =>
    rw [hrd] at rr qD
    have cR : ∀ st, callP false (L.fn "read_patch") [.str (PA.txOf ls)] st = .ok (.lst (es.map vEd)) st := fun st => callP_free rfl rr
    have hfl : flatF (.lst (es.map vEd)) fresh = true := by
      show flats (es.map vEd) = true
      exact flats_vEd es
    have cE : callP false (L.fn "_law_edits") [.ref 0] [some (.lst (ls.map .str))] = .ok (.lst (es.map vEd)) [some (.lst (ls.map .str))] := lent1 (frees_map fun _ => rfl) (hed hrd (by omega) hL) hfl
    have cA : ∀ st, callP false (L.fn "_law_are_edits") [.lst (es.map vEd), .int (es.length : Nat)] st = .ok (.bl true) st := fun st => callP_free (by simp [fE]) (hae rfl)
    have qE : ∀ (neg : Bool) (st : Sto), G.eqV neg (.lst (es.map vEd)) (.lst (es.map vEd)) st = .ok (.bl (!neg)) st := fun neg st => eqV_self (by rw [dat_lst]; exact dats_map fun e => dat_vEd e _)
    have hle : ∀ st, lenV [.lst (es.map vEd)] st = .ok (.int (es.length : Nat)) st := fun st => lenl_map vEd es st
    have hdv : dueV (.inr es) = .non := rfl
    rw [hdv] at qD ⊢
    simp -implicitDefEqProofs [mVar, hj, cR, qD, qE, hle, cE, cA, G.isNon]
    exact hq _ _ rfl
end K84_BAD_PATCHES

set_option Elab.async false
set_option linter.all false
set_option maxRecDepth 100000
set_option maxHeartbeats 8000000
namespace K84_BAD_PATCHES
open PySem PySem.Spec PyProof.Rows L2 G PA
def depth : Nat := 6
def Lf (n : Nat) : Lm := ⟨glOf cs, den (glOf cs) xt.xsC (tabOf es) n, xt.xsC, none, denI (glOf cs) xt.xsC (tabOf es) n⟩
theorem lkI {f : Str} {d : Df} (n : Nat) (h : (tabOf es).lookup f = some d) : (Lf (n + 1)).fi f = runI (Lf n) d := denI_succ h
theorem lk {f : Str} {d : Df} (n : Nat) (h : (tabOf es).lookup f = some d) (hm : Nat.ble 1000 d.np = false := by rfl) : (Lf (n + 1)).fn f = runD (Lf n) d := den_succ h hm
theorem rdl (n : Nat) : PA.RdL (Lf n) where
  o1 := by show xt.xsC.ofl _ _ = true; decide +kernel
  o2 := by show xt.xsC.ofl _ _ = true; decide +kernel
  o3 := by show xt.xsC.ofl _ _ = true; decide +kernel
  o4 := by show xt.xsC.ofl _ _ = true; decide +kernel
  o5 := by show xt.xsC.ofl _ _ = true; decide +kernel
  ow := rfl
  kd := rfl
  gK := rfl
  gD := rfl
theorem law_is (ns : List Int) (h : ns.length ≤ 63) : runD ⟨glOf cs, den (glOf cs) xt.xsC (tabOf es) depth, xt.xsC, none, denI (glOf cs) xt.xsC (tabOf es) depth⟩ e_law.d [.scr (ns.map Va.int)] = .ok (.bl true) [] := by
  show runD (Lf 6) D_law [.scr (ns.map Va.int)] = .ok (.bl true) []
  have hN : ∀ n, NumH (Lf (n + 1)) := fun n w h1 h2 => ⟨[], by rw [lk n ok_number_of.lk]; exact number_ok rfl h1 h2⟩
  have hLN : ∀ n (w : Tx), w.length ≤ 3000 → (Lf (n + 1)).fn "_law_number" [.str w] = .ok (.int (lnum w)) [] := fun n w h => by rw [lk n ok__law_number.lk]; exact lnum_ok h
  have hLR : ∀ n (w : Tx), w.length ≤ 3000 → (Lf (n + 1)).fn "_law_rank" [.str w] = .ok (.int (lrank w)) [] := fun n w h => by rw [lk n ok__law_rank.lk]; exact lrank_ok h
  refine law_ok ns ?_ ?_ (hLN 5) ?_ ?_ ?_ ?_ rfl rfl rfl rfl
  · intro k
    rw [lk 5 ok__law_cell.lk]
    exact C.cell_ok ns k
  · intro c after ha
    rw [lk 5 ok__law_line.lk]
    refine lline_ok (fun c n hn => ?_) (fun i => ?_) c after ha
    · rw [lk 4 ok__law_draws.lk]
      exact C.draws_ok c n hn
    · rw [lk 4 ok__law_words.lk]
      exact C.words_ok i
  · intro ls h0 h1 h2
    rw [lk 5 ok__law_due.lk]
    exact ldue_ok (hLN 4) (hLR 4) h0 h1 h2
  · intro ls es h0 h1 h2
    rw [lk 5 ok__law_edits.lk]
    exact ledits_ok (hLR 4) h0 h1 h2
  · intro ls h0 h1 h2 h3 h4
    rw [lk 5 ok_read_patch.lk]
    exact read_all (fun n => rdl n) (fun n => hN n) (fun n => rfl) (fun n => lkI n ok_PatchReader_stop.lk) (fun n => lkI n ok_PatchReader_read_index.lk) (fun n => lkI n ok_PatchReader_read_part.lk) (fun n => lkI n ok_PatchReader_read_line.lk) (fun n => lkI n ok_PatchReader_finished.lk) (fun n => lkI n ok_PatchReader___init__.lk) (fun n => lk n ok_read_count.lk) 0 h0 h1 h2 h3 h4
  · intro es n hn
    rw [lk 5 ok__law_are_edits.lk]
    have := C.are_edits_ok (L := Lf 5) hn
    unfold C.D__law_are_edits at this
    refine Eq.trans (runD_nm (L := Lf 5) (N := ["_law_edits_here", "_law_count", "_law_edit"]) (N' := ["_law_edits", "_law_count", "_law_edit"]) (n := 2) (S := S__law_are_edits) rfl) ?_
    exact this
end K84_BAD_PATCHES

open PySem PySem.W PySem.Calls PyProof.Rows
set_option maxHeartbeats 0 in
theorem PySem.Challenge.cw_weft_k84_bad_patches_holds : PySem.Challenge.rw_weft_k84_bad_patches.Holds := by
  w_on; o_law
  refine HandSHeadRun.head_any (r := OpenLaw.row PySem.Challenge.rw_weft_k84_bad_patches) (q := view (OpenLaw.row PySem.Challenge.rw_weft_k84_bad_patches).prog [27]) (H := K84_BAD_PATCHES.hk) (ob := K84_BAD_PATCHES.ob) (M := 4000) (loose := K84_BAD_PATCHES.loose) (d := HandSHeadRun.topDef (OpenLaw.row PySem.Challenge.rw_weft_k84_bad_patches).prog 27) (kwd := []) K84_BAD_PATCHES.ob_eq
    (by kernel_rfl) (fun s => by kernel_rfl) K84_BAD_PATCHES.run (by kernel_rfl) (by kernel_rfl) (by kernel_rfl) (by rfl) (by first | assumption | decide +kernel) (by decide +kernel) ⟨rfl, rfl, rfl, rfl, rfl, by decide +kernel⟩ ?hw ?hc
  case hw => w_witness2
  case hc =>
    refine G.walk_g (l := PySem.Challenge.rw_weft_k84_bad_patches) (n := 63) (k := 3 * K84_BAD_PATCHES.depth + 3) (x := "_law_script") (CX := fun w => L2.CX (PySem.Challenge.rw_weft_k84_bad_patches).prog w) rfl (by decide) (by kernel_rfl) ⟨rfl, by decide, by decide⟩ ?F G.noCX
    intro w mg fa h Y N hmg0
    obtain ⟨K, KX, c⟩ := Y
    have hmg : mg ("law" : PySem.Str) = some (.ref fa) := by
      have e : (HandSHeadRun.topDef (OpenLaw.row PySem.Challenge.rw_weft_k84_bad_patches).prog 27).name = ("law" : PySem.Str) := by kernel_rfl
      rw [← e]
      exact hmg0
    exact G.law_end (es := K84_BAD_PATCHES.es) (law := K84_BAD_PATCHES.e_law) (cs := K84_BAD_PATCHES.cs) (xt := K84_BAD_PATCHES.xt) (bs := K84_BAD_PATCHES.bs) (n := K84_BAD_PATCHES.depth) (P := PySem.Challenge.pw_weft_k84_bad_patches) c K84_BAD_PATCHES.allI KX N hmg rfl K84_BAD_PATCHES.all ⟨rfl, rfl, rfl, by decide +kernel, rfl, by decide +kernel, by decide +kernel⟩ rfl (fun _ _ _ _ _ _ us hl => match us, hl with | [_], _ => rfl) (by decide +kernel) K84_BAD_PATCHES.sg_ok (by decide +kernel) rfl K84_BAD_PATCHES.law_is
