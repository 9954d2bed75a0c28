import PyProof.Rows.All
import Wide.All
import OpenK.AllK
import Wide.FinOn
import HandS.ForMost
import HandS.ForExc
import HandS.Lambda
import HandS.Wide
import HandS.TupAny
import HandS.IsInst
import HandS.Style
import HandS.Deep
import HandS.ExcCtx
import HandS.HotCalls
import HandS.TupLe
import HandS.Conv
import PyProof.ZipIter
import HandS.Hot
import HandS.Iter
import HandS.ExcIs
import HandS.ExcField
import HandS.EndTab
import KE.KExcIs
import HandS.EndBits
import KE.KNestM
import KE.KDictPairs
import HandS.CallLocal
import HandS.FltList
import HandS.ExcInit
import HandS.ExcInitHot
import HandS.ClsMeth
import HandS.TupMul
import HandS.Text
import PyProof.StrBlock2
import PyProof.DictMoreH
import HandS.TupSets
import PyProof.Rows.IntBool
import HandS.Flow
import PySem.Challenge.RW_glueloops_k01_loops_wishes_and_slits
set_option Elab.async false
set_option linter.all false
set_option maxRecDepth 100000
set_option maxHeartbeats 4000000
/-! L3A: pure data over the hand layer: D, the store, the relations to the abstract heap, the judgements. -/
namespace L3
open PySem PySem.Spec PyProof.Rows L2

/-! ### data -/
inductive D where
  | non | bl (b : Bool) | int (i : Int) | str (x : Str)
  | tup (ds : List D) | lst (ds : List D) | dic (kvs : List (List Key × D))
  | ref (i : Nat) | adr (a : Addr) | scr (ns : List Int) | kup (ds : List D)
/-- a mutable object of the store -/
inductive MObj where
  | gone | lst (ds : List D) | dic (kvs : List (List Key × D))
abbrev Mem := List MObj
/-- the world: the frozen part of the abstract heap, the addresses of the store's objects -/
structure Wd where
  fz : Hp
  ro : List Addr

mutual
inductive Rep (K : PySem.W.Frag) (W : Wd) : V → D → Prop
  | non : Rep K W .non .non
  | bl (b : Bool) : Rep K W (.bl b) (.bl b)
  | int (i : Int) : Rep K W (.int i) (.int i)
  | str (x : Str) : Rep K W (.str x) (.str x)
  | tup {a : Addr} {xs : List V} {ds : List D} (h : W.fz a = some (.tup xs)) (r : Reps K W xs ds) : Rep K W (.ref a) (.tup ds)
  | lst {a : Addr} {xs : List V} {ds : List D} (h : W.fz a = some (.lst xs)) (r : Reps K W xs ds) : Rep K W (.ref a) (.lst ds)
  | dic {a : Addr} {od : Obj} {ys : List (List Key × V)} {kvs : List (List Key × D)} (h : W.fz a = some (.frz od (.dT ys))) (r : RepK K W ys kvs) : Rep K W (.ref a) (.dic kvs)
  | ref {i : Nat} {a : Addr} (h : W.ro[i]? = some a) : Rep K W (.ref a) (.ref i)
  | adr (a : Addr) : Rep K W (.ref a) (.adr a)
  | scr {a : Addr} {ns : List Int} (h : SqL K W.fz a (ns.map V.int)) : Rep K W (.ref a) (.scr ns)
  | kup {a : Addr} {xs : List V} {ds : List D} (h : SqT K W.fz a xs) (r : Reps K W xs ds) : Rep K W (.ref a) (.kup ds)
inductive Reps (K : PySem.W.Frag) (W : Wd) : List V → List D → Prop
  | nil : Reps K W [] []
  | cons {v : V} {d : D} {vs : List V} {ds : List D} (h : Rep K W v d) (r : Reps K W vs ds) : Reps K W (v :: vs) (d :: ds)
inductive RepK (K : PySem.W.Frag) (W : Wd) : List (List Key × V) → List (List Key × D) → Prop
  | nil : RepK K W [] []
  | cons {k : List Key} {v : V} {d : D} {vs : List (List Key × V)} {ds : List (List Key × D)} (h : Rep K W v d) (r : RepK K W vs ds) : RepK K W ((k, v) :: vs) ((k, d) :: ds)
end

/-- a later world -/
structure WLe (W W' : Wd) : Prop where
  fz : ∀ a o, W.fz a = some o → W'.fz a = some o
  ro : ∃ r, W'.ro = W.ro ++ r
theorem WLe.refl (W : Wd) : WLe W W := ⟨fun _ _ h => h, [], by simp⟩
theorem WLe.trans {W W1 W2 : Wd} (a : WLe W W1) (b : WLe W1 W2) : WLe W W2 := by
  obtain ⟨r, e⟩ := a.ro
  obtain ⟨r', e'⟩ := b.ro
  exact ⟨fun x o h => b.fz x o (a.fz x o h), r ++ r', by rw [e', e, List.append_assoc]⟩
theorem WLe.at {W W' : Wd} (l : WLe W W') {i : Nat} {a : Addr} (h : W.ro[i]? = some a) : W'.ro[i]? = some a := by
  obtain ⟨r, e⟩ := l.ro
  rw [e, List.getElem?_append_left (List.getElem?_eq_some_iff.mp h).1]
  exact h
theorem sqT_mono {K : PySem.W.Frag} {H H' : Hp} {a : Addr} {xs : List V} (e : ∀ b o, H b = some o → H' b = some o) (h : SqT K H a xs) : SqT K H' a xs := by
  rcases h with (h | ⟨o, h⟩) | h
  · exact .inl (.inl (e _ _ h))
  · exact .inl (.inr ⟨o, e _ _ h⟩)
  · exact .inr h
theorem sqL_mono {K : PySem.W.Frag} {H H' : Hp} {a : Addr} {xs : List V} (e : ∀ b o, H b = some o → H' b = some o) (h : SqL K H a xs) : SqL K H' a xs := by
  rcases h with (h | ⟨o, h⟩) | h
  · exact .inl (.inl (e _ _ h))
  · exact .inl (.inr ⟨o, e _ _ h⟩)
  · exact .inr h
section
variable {K : PySem.W.Frag} {W W' : Wd}
mutual
theorem Rep.mono (l : WLe W W') : ∀ (d : D) (v : V), Rep K W v d → Rep K W' v d
  | .non, _, h => by cases h; exact .non
  | .bl _, _, h => by cases h; exact .bl _
  | .int _, _, h => by cases h; exact .int _
  | .str _, _, h => by cases h; exact .str _
  | .tup ds, _, h => by
    cases h with
    | tup h r => exact .tup (l.fz _ _ h) (Reps.mono l ds _ r)
  | .lst ds, _, h => by
    cases h with
    | lst h r => exact .lst (l.fz _ _ h) (Reps.mono l ds _ r)
  | .dic kvs, _, h => by
    cases h with
    | dic h r => exact .dic (l.fz _ _ h) (RepK.mono l kvs _ r)
  | .ref _, _, h => by
    cases h with
    | ref h => exact .ref (l.at h)
  | .adr _, _, h => by cases h; exact .adr _
  | .scr _, _, h => by
    cases h with
    | scr h => exact .scr (sqL_mono l.fz h)
  | .kup ds, _, h => by
    cases h with
    | kup h r => exact .kup (sqT_mono l.fz h) (Reps.mono l ds _ r)
theorem Reps.mono (l : WLe W W') : ∀ (ds : List D) (vs : List V), Reps K W vs ds → Reps K W' vs ds
  | [], _, h => by cases h; exact .nil
  | d :: ds, _, h => by
    cases h with
    | cons h r => exact .cons (Rep.mono l d _ h) (Reps.mono l ds _ r)
theorem RepK.mono (l : WLe W W') : ∀ (ds : List (List Key × D)) (vs : List (List Key × V)), RepK K W vs ds → RepK K W' vs ds
  | [], _, h => by cases h; exact .nil
  | (k, d) :: ds, _, h => by
    cases h with
    | cons h r => exact .cons (Rep.mono l d _ h) (RepK.mono l ds _ r)
end
theorem Reps.length : ∀ {ds : List D} {vs : List V}, Reps K W vs ds → vs.length = ds.length
  | [], _, h => by cases h; rfl
  | _ :: _, _, h => by
    cases h with
    | cons h r => exact congrArg (· + 1) (Reps.length r)
theorem RepK.length : ∀ {ds : List (List Key × D)} {vs : List (List Key × V)}, RepK K W vs ds → vs.length = ds.length
  | [], _, h => by cases h; rfl
  | _ :: _, _, h => by
    cases h with
    | cons h r => exact congrArg (· + 1) (RepK.length r)
theorem Reps.get : ∀ {ds : List D} {vs : List V} {i : Nat} {d : D}, Reps K W vs ds → ds[i]? = some d → ∃ v, vs[i]? = some v ∧ Rep K W v d
  | [], _, _, _, h, e => by simp at e
  | x :: ds, _, 0, d, h, e => by
    cases h with
    | cons h r =>
      have e' : x = d := by simpa using e
      exact ⟨_, rfl, e' ▸ h⟩
  | x :: ds, _, i + 1, d, h, e => by
    cases h with
    | cons h r =>
      obtain ⟨v, e1, e2⟩ := Reps.get (i := i) (d := d) r (by simpa using e)
      exact ⟨v, by simpa using e1, e2⟩
theorem Reps.append : ∀ {ds es : List D} {vs us : List V}, Reps K W vs ds → Reps K W us es → Reps K W (vs ++ us) (ds ++ es)
  | [], _, _, _, h, g => by cases h; exact g
  | _ :: _, _, _, _, h, g => by
    cases h with
    | cons h r => exact .cons h (Reps.append r g)
theorem Reps.take (n : Nat) : ∀ {ds : List D} {vs : List V}, Reps K W vs ds → Reps K W (vs.take n) (ds.take n) := by
  induction n with
  | zero => intro ds vs h; simpa using (Reps.nil : Reps K W [] [])
  | succ n ih =>
    intro ds vs h
    cases h with
    | nil => simpa using (Reps.nil : Reps K W [] [])
    | cons h r => simpa using Reps.cons h (ih r)
theorem Reps.drop (n : Nat) : ∀ {ds : List D} {vs : List V}, Reps K W vs ds → Reps K W (vs.drop n) (ds.drop n) := by
  induction n with
  | zero => intro ds vs h; simpa using h
  | succ n ih =>
    intro ds vs h
    cases h with
    | nil => simpa using (Reps.nil : Reps K W [] [])
    | cons h r => simpa using ih r
theorem Reps.reverse : ∀ {ds : List D} {vs : List V}, Reps K W vs ds → Reps K W vs.reverse ds.reverse
  | [], _, h => by cases h; exact .nil
  | _ :: _, _, h => by
    cases h with
    | cons h r =>
      rw [List.reverse_cons, List.reverse_cons]
      exact Reps.append (Reps.reverse r) (.cons h .nil)
theorem Reps.set {v : V} {d : D} (h : Rep K W v d) : ∀ {ds : List D} {vs : List V} (i : Nat), Reps K W vs ds → Reps K W (vs.set i v) (ds.set i d)
  | [], _, _, r => by cases r; exact .nil
  | _ :: _, _, 0, r => by
    cases r with
    | cons q r => exact .cons h r
  | _ :: _, _, i + 1, r => by
    cases r with
    | cons q r => exact .cons q (Reps.set h i r)
theorem Reps.dropLast : ∀ {ds : List D} {vs : List V}, Reps K W vs ds → Reps K W vs.dropLast ds.dropLast := by
  intro ds vs h
  rw [List.dropLast_eq_take, List.dropLast_eq_take, h.length]
  exact h.take _
theorem Reps.ints : ∀ {ns : List Int}, Reps K W (ns.map V.int) (ns.map D.int)
  | [] => .nil
  | n :: ns => .cons (.int n) Reps.ints
/-- what is told of a value of known data -/
theorem Reps.ints_of : ∀ {ns : List Int} {vs : List V}, Reps K W vs (ns.map D.int) → vs = ns.map V.int
  | [], _, h => by cases h; rfl
  | n :: ns, _, h => by
    cases h with
    | cons h r => cases h; rw [Reps.ints_of r]; rfl
theorem Reps.strs_of : ∀ {ns : List Str} {vs : List V}, Reps K W vs (ns.map D.str) → vs = ns.map V.str
  | [], _, h => by cases h; rfl
  | n :: ns, _, h => by
    cases h with
    | cons h r => cases h; rw [Reps.strs_of r]; rfl
theorem Reps.bls_of : ∀ {ns : List Bool} {vs : List V}, Reps K W vs (ns.map D.bl) → vs = ns.map V.bl
  | [], _, h => by cases h; rfl
  | n :: ns, _, h => by
    cases h with
    | cons h r => cases h; rw [Reps.bls_of r]; rfl
end

/-! ### the store and the frozen part stand in the abstract heap -/
def plainO : HO → Bool
  | .lst _ => true
  | .dT _ => true
  | .dK _ => true
  | .frz _ _ => true
  | _ => false
/-- a table of code objects -/
def tblO : HO → Bool
  | .tbl _ => true
  | _ => false
theorem plain_tbl {o : HO} (h : plainO o = true) : tblO o = false := by cases o <;> first | rfl | cases h
def MRep (K : PySem.W.Frag) (W : Wd) (H : Hp) (a : Addr) : MObj → Prop
  | .gone => True
  | .lst ds => W.fz a = none ∧ ∃ xs, H a = some (.lst xs) ∧ Reps K W xs ds
  | .dic kvs => W.fz a = none ∧ ∃ ys, H a = some (.dT ys) ∧ RepK K W ys kvs
structure Fits (K : PySem.W.Frag) (W : Wd) (H : Hp) (M : Mem) : Prop where
  fz : ∀ a o, W.fz a = some o → H a = some o
  len : W.ro.length = M.length
  nd : W.ro.Nodup
  obj : ∀ (i : Nat) (a : Addr) (m : MObj), W.ro[i]? = some a → M[i]? = some m → MRep K W H a m
  here : ∀ a ∈ W.ro, ∃ o, H a = some o ∧ plainO o = true
  nt : ∀ a o, W.fz a = some o → tblO o = false
structure EnvR (K : PySem.W.Frag) (W : Wd) (env : List (Option D)) (σ : L2.St) : Prop where
  len : env.length = σ.length
  get : ∀ (i : Nat) (d : D), env[i]? = some (some d) → ∃ v, σ[i]? = some (some v) ∧ Rep K W v d
theorem EnvR.mono {K : PySem.W.Frag} {W W' : Wd} {env : List (Option D)} {σ : L2.St} (r : EnvR K W env σ) (l : WLe W W') : EnvR K W' env σ :=
  ⟨r.len, fun i d e => let ⟨v, h1, h2⟩ := r.get i d e; ⟨v, h1, Rep.mono l d v h2⟩⟩
theorem EnvR.set {K : PySem.W.Frag} {W : Wd} {env : List (Option D)} {σ : L2.St} (r : EnvR K W env σ) {i : Nat} {v : V} {d : D} (h : Rep K W v d) : EnvR K W (env.set i (some d)) (σ.set i (some v)) := by
  refine ⟨by rw [List.length_set, List.length_set, r.len], fun j e q => ?_⟩
  by_cases hj : i = j
  · subst hj
    have hl : i < env.length := by
      have := (List.getElem?_eq_some_iff.mp q).1
      simpa using this
    rw [List.getElem?_set_self hl] at q
    cases q
    exact ⟨v, by rw [List.getElem?_set_self (by rw [← r.len]; exact hl)], h⟩
  · rw [List.getElem?_set_ne hj] at q
    obtain ⟨u, h1, h2⟩ := r.get j e q
    exact ⟨u, by rw [List.getElem?_set_ne hj]; exact h1, h2⟩
/-- nothing stands at a that would be told to stay; tb: the tables of code objects that may grow -/
def Fre (tb : List (Addr × Str)) (H : Hp) (a : Addr) : Prop := ∀ o, H a = some o → ¬ (tb = [] ∨ tblO o = false)
theorem fre_none {tb : List (Addr × Str)} {H : Hp} {a : Addr} (h : H a = none) : Fre tb H a := fun o e => by rw [h] at e; cases e
theorem Fre.none {H : Hp} {a : Addr} (h : Fre [] H a) : H a = none := by
  cases q : H a with
  | none => rfl
  | some u => exact absurd (.inl rfl) (h u q)
/-- from one moment to a later one -/
structure Since (tb : List (Addr × Str)) (W : Wd) (H : Hp) (W' : Wd) (H' : Hp) : Prop where
  le : WLe W W'
  keep : ∀ a o, H a = some o → a ∉ W.ro → (tb = [] ∨ tblO o = false) → H' a = some o
  newf : ∀ a o, W'.fz a = some o → W.fz a = some o ∨ Fre tb H a ∨ a ∈ W.ro ∨ ∃ xs, o = .tup xs ∧ H a = some o
  newr : ∀ a ∈ W'.ro, a ∈ W.ro ∨ Fre tb H a
  there : ∀ a o, H a = some o → (tb = [] ∨ tblO o = false) → ∃ o', H' a = some o' ∧ (tb = [] ∨ tblO o' = false)
theorem Since.refl {tb : List (Addr × Str)} {W : Wd} {H : Hp} : Since tb W H W H :=
  ⟨.refl _, fun _ _ h _ _ => h, fun _ _ h => .inl h, fun _ h => .inl h, fun _ o h n => ⟨o, h, n⟩⟩
theorem Since.frees {tb : List (Addr × Str)} {W W' : Wd} {H H' : Hp} {x : Addr} (a : Since tb W H W' H') (h : Fre tb H' x) : Fre tb H x := fun u q n => by
  obtain ⟨o, e, n'⟩ := a.there x u q n
  exact h o e n'
theorem Since.trans {tb : List (Addr × Str)} {W W1 W2 : Wd} {H H1 H2 : Hp} (a : Since tb W H W1 H1) (b : Since tb W1 H1 W2 H2) : Since tb W H W2 H2 where
  le := a.le.trans b.le
  keep := fun x o h n t => b.keep x o (a.keep x o h n t) (fun m => (a.newr x m).elim n fun z => z o h t) t
  newf := fun x o h => by
    rcases b.newf x o h with h | h | h | ⟨xs, ho, h⟩
    · exact a.newf x o h
    · exact .inr (.inl (a.frees h))
    · rcases a.newr x h with h | h
      · exact .inr (.inr (.inl h))
      · exact .inr (.inl h)
    · by_cases hr : x ∈ W.ro
      · exact .inr (.inr (.inl hr))
      · by_cases hf : Fre tb H x
        · exact .inr (.inl hf)
        · obtain ⟨u, hu, hn⟩ : ∃ u, H x = some u ∧ (tb = [] ∨ tblO u = false) := by
            cases q : H x with
            | none => exact absurd (fre_none q) hf
            | some u =>
              by_cases hn : tb = [] ∨ tblO u = false
              · exact ⟨u, rfl, hn⟩
              · exact absurd (fun u' e => by rw [q] at e; cases e; exact hn) hf
          have := a.keep x u hu hr hn
          rw [h] at this
          cases this
          exact .inr (.inr (.inr ⟨xs, ho, hu⟩))
  newr := fun x h => by
    rcases b.newr x h with h | h
    · exact a.newr x h
    · exact .inr (a.frees h)
  there := fun x o h n => by
    obtain ⟨o', e, n'⟩ := a.there x o h n
    exact b.there x o' e n'
/-- the base: the moment of the def's entry -/
structure Bs where
  tb : List (Addr × Str)
  W : Wd
  H : Hp
structure Rl (B : Bs) (K : PySem.W.Frag) (env : List (Option D)) (σ : L2.St) (W : Wd) (H : Hp) (M : Mem) : Prop where
  fit : Fits K W H M
  env : EnvR K W env σ
  sin : Since B.tb B.W B.H W H
  tabs : LamX.Tabs B.tb H

section
variable {K : PySem.W.Frag} {W W' : Wd} {H H' : Hp} {M : Mem} {p a : Addr} {o : HO} {tb : List (Addr × Str)}
theorem MRep.stay {m : MObj} (h : MRep K W H a m) (l : WLe W W') (hz : W.fz a = none → W'.fz a = none) (hh : ∀ o, H a = some o → H' a = some o) : MRep K W' H' a m := by
  cases m with
  | gone => trivial
  | lst ds => obtain ⟨z, xs, e, r⟩ := h; exact ⟨hz z, xs, hh _ e, Reps.mono l _ _ r⟩
  | dic ds => obtain ⟨z, xs, e, r⟩ := h; exact ⟨hz z, xs, hh _ e, RepK.mono l _ _ r⟩
abbrev Wd.add (W : Wd) (p : Addr) (o : HO) : Wd := ⟨upd W.fz p o, W.ro⟩
abbrev Wd.more (W : Wd) (p : Addr) : Wd := ⟨W.fz, W.ro ++ [p]⟩
theorem Fits.fzn (f : Fits K W H M) (h : H p = none) : W.fz p = none := by
  cases q : W.fz p with
  | none => rfl
  | some u => rw [f.fz p u q] at h; cases h
theorem Fits.ron (f : Fits K W H M) (h : H p = none) : p ∉ W.ro := fun m => by
  obtain ⟨o, e, _⟩ := f.here p m
  rw [h] at e; cases e
theorem WLe.add (h : W.fz p = none) : WLe W (W.add p o) := ⟨fun b u q => by show upd W.fz p o b = some u; rw [upd_ne (ne_of_none q h)]; exact q, [], by simp⟩
theorem WLe.more : WLe W (W.more p) := ⟨fun _ _ q => q, [p], rfl⟩
theorem Fits.laid (f : Fits K W H M) (h : H p = none) (ht : tblO o = false := by rfl) : Fits K (W.add p o) (upd H p o) M where
  nt := fun b u q => by
    by_cases e : b = p
    · subst e; rw [show (W.add b o).fz b = some o from upd_same] at q; cases q; exact ht
    · rw [show (W.add p o).fz b = W.fz b from upd_ne e] at q; exact f.nt b u q
  fz := fun b u q => by
    by_cases e : b = p
    · subst e; rw [show (W.add b o).fz b = some o from upd_same] at q; cases q; exact upd_same
    · rw [show (W.add p o).fz b = W.fz b from upd_ne e] at q; rw [upd_ne e]; exact f.fz b u q
  len := f.len
  nd := f.nd
  obj := fun i b m q q2 => by
    have hb : b ≠ p := fun z => f.ron h (z ▸ List.mem_of_getElem? q)
    exact (f.obj i b m q q2).stay (.add (f.fzn h)) (fun z => by show upd W.fz p o b = none; rw [upd_ne hb]; exact z) fun u e => by rw [upd_ne hb]; exact e
  here := fun b m => by
    have hb : b ≠ p := fun z => f.ron h (z ▸ m)
    obtain ⟨u, e, q⟩ := f.here b m
    exact ⟨u, by rw [upd_ne hb]; exact e, q⟩
theorem Since.laid (f : Fits K W H M) (h : H p = none) : Since tb W H (W.add p o) (upd H p o) where
  le := .add (f.fzn h)
  keep := fun b u q _ _ => by rw [upd_ne (ne_of_none q h)]; exact q
  newf := fun b u q => by
    by_cases e : b = p
    · subst e; exact .inr (.inl (fre_none h))
    · rw [show (W.add p o).fz b = W.fz b from upd_ne e] at q; exact .inl q
  newr := fun b m => .inl m
  there := fun b u q n => ⟨u, by rw [upd_ne (ne_of_none q h)]; exact q, n⟩
theorem Fits.alloc (f : Fits K W H M) (h : H p = none) {m : MObj} (ho : plainO o = true) (hm : MRep K (W.more p) (upd H p o) p m) : Fits K (W.more p) (upd H p o) (M ++ [m]) where
  nt := f.nt
  fz := fun b u q => by
    have q : W.fz b = some u := q
    have hb : b ≠ p := fun z => by rw [z, f.fzn h] at q; cases q
    rw [upd_ne hb]; exact f.fz b u q
  len := by show (W.ro ++ [p]).length = _; rw [List.length_append, List.length_append, f.len]; rfl
  nd := by
    show (W.ro ++ [p]).Nodup
    rw [List.nodup_append]
    refine ⟨f.nd, by simp, fun x hx y hy => ?_⟩
    have : y = p := by simpa using hy
    subst this
    exact fun z => f.ron h (z ▸ hx)
  obj := fun i b m' q q2 => by
    have q : (W.ro ++ [p])[i]? = some b := q
    by_cases hi : i < W.ro.length
    · rw [List.getElem?_append_left hi] at q
      rw [List.getElem?_append_left (by rw [← f.len]; exact hi)] at q2
      have hb : b ≠ p := fun z => f.ron h (z ▸ List.mem_of_getElem? q)
      exact (f.obj i b m' q q2).stay .more (fun z => z) fun u e => by rw [upd_ne hb]; exact e
    · have e : i = W.ro.length := by
        have := (List.getElem?_eq_some_iff.mp q).1
        simp at this
        omega
      subst e
      rw [List.getElem?_append_right (Nat.le_refl _)] at q
      rw [f.len, List.getElem?_append_right (Nat.le_refl _)] at q2
      simp at q q2
      subst q q2
      exact hm
  here := fun b hb => by
    rcases List.mem_append.mp (show b ∈ W.ro ++ [p] from hb) with hb | hb
    · have hne : b ≠ p := fun z => f.ron h (z ▸ hb)
      obtain ⟨u, e, q⟩ := f.here b hb
      exact ⟨u, by rw [upd_ne hne]; exact e, q⟩
    · have : b = p := by simpa using hb
      subst this
      exact ⟨o, upd_same, ho⟩
theorem Since.alloc (f : Fits K W H M) (h : H p = none) : Since tb W H (W.more p) (upd H p o) where
  le := .more
  keep := fun b u q _ _ => by rw [upd_ne (ne_of_none q h)]; exact q
  newf := fun b u q => .inl q
  newr := fun b m => by
    rcases List.mem_append.mp (show b ∈ W.ro ++ [p] from m) with m | m
    · exact .inl m
    · have : b = p := by simpa using m
      subst this
      exact .inr (fre_none h)
  there := fun b u q n => ⟨u, by rw [upd_ne (ne_of_none q h)]; exact q, n⟩
/-- an object of the store is written -/
theorem Fits.write (f : Fits K W H M) {i : Nat} {m : MObj} (hi : W.ro[i]? = some a) (hz : W.fz a = none) (ho : plainO o = true) (hm : MRep K W (upd H a o) a m) : Fits K W (upd H a o) (M.set i m) where
  nt := f.nt
  fz := fun b u q => by
    have hb : b ≠ a := fun z => by rw [z, hz] at q; cases q
    rw [upd_ne hb]; exact f.fz b u q
  len := by rw [List.length_set]; exact f.len
  nd := f.nd
  obj := fun j b m' q q2 => by
    by_cases hj : i = j
    · subst hj
      rw [hi] at q; cases q
      have hl : i < M.length := by rw [← f.len]; exact (List.getElem?_eq_some_iff.mp hi).1
      rw [List.getElem?_set_self hl] at q2
      cases q2
      exact hm
    · rw [List.getElem?_set_ne hj] at q2
      have hb : b ≠ a := fun z => by
        subst z
        exact hj (nd_ix (l := W.ro) f.nd hi q)
      exact (f.obj j b m' q q2).stay (.refl _) (fun z => z) fun u e => by rw [upd_ne hb]; exact e
  here := fun b hb => by
    by_cases e : b = a
    · subst e; exact ⟨o, upd_same, ho⟩
    · rw [upd_ne e]; exact f.here b hb
theorem Since.write {i : Nat} (hi : W.ro[i]? = some a) (ho : plainO o = true) : Since tb W H W (upd H a o) where
  le := .refl _
  keep := fun b u q n _ => by rw [upd_ne (fun z => n (by rw [z]; exact List.mem_of_getElem? hi))]; exact q
  newf := fun b u q => .inl q
  newr := fun b m => .inl m
  there := fun b u q n => by
    by_cases e : b = a
    · subst e; exact ⟨o, upd_same, .inr (plain_tbl ho)⟩
    · exact ⟨u, by rw [upd_ne e]; exact q, n⟩
/-- an object of the store is frozen -/
theorem Fits.freeze (f : Fits K W H M) {i : Nat} (hi : W.ro[i]? = some a) (hz : W.fz a = none) (ho : H a = some o) : Fits K (W.add a o) H (M.set i .gone) where
  nt := fun b u q => by
    by_cases e : b = a
    · subst e
      rw [show (W.add b o).fz b = some o from upd_same] at q
      cases q
      obtain ⟨x, e1, e2⟩ := f.here b (List.mem_of_getElem? hi)
      rw [ho] at e1
      cases e1
      exact plain_tbl e2
    · rw [show (W.add a o).fz b = W.fz b from upd_ne e] at q; exact f.nt b u q
  fz := fun b u q => by
    by_cases e : b = a
    · subst e; rw [show (W.add b o).fz b = some o from upd_same] at q; cases q; exact ho
    · rw [show (W.add a o).fz b = W.fz b from upd_ne e] at q; exact f.fz b u q
  len := by rw [List.length_set]; exact f.len
  nd := f.nd
  obj := fun j b m' q q2 => by
    by_cases hj : i = j
    · subst hj
      have hl : i < M.length := by rw [← f.len]; exact (List.getElem?_eq_some_iff.mp hi).1
      rw [List.getElem?_set_self hl] at q2
      cases q2
      trivial
    · rw [List.getElem?_set_ne hj] at q2
      have hb : b ≠ a := fun z => by
        subst z
        exact hj (nd_ix (l := W.ro) f.nd hi q)
      exact (f.obj j b m' q q2).stay (.add hz) (fun z => by show upd W.fz a o b = none; rw [upd_ne hb]; exact z) fun u e => e
  here := f.here
theorem Since.freeze {i : Nat} (hi : W.ro[i]? = some a) (hz : W.fz a = none) : Since tb W H (W.add a o) H where
  le := .add hz
  keep := fun b u q _ _ => q
  newf := fun b u q => by
    by_cases e : b = a
    · subst e; exact .inr (.inr (.inl (List.mem_of_getElem? hi)))
    · rw [show (W.add a o).fz b = W.fz b from upd_ne e] at q; exact .inl q
  newr := fun b m => .inl m
  there := fun b u q n => ⟨u, q, n⟩
/-- the tables -/
theorem tabs_upd {T : List (Addr × Str)} (t : LamX.Tabs T H) (h : H p = none ∨ ∃ u, H p = some u ∧ plainO u = true) : LamX.Tabs T (upd H p o) := fun q hq => by
  obtain ⟨ps, e, ok, c⟩ := t q hq
  have ne : ∀ {b : Addr} {u : HO}, H b = some u → plainO u = false → b ≠ p := fun {b u} e1 e2 z => by
    subst z
    rcases h with h | ⟨u', h, hp⟩
    · rw [e1] at h; cases h
    · rw [e1] at h; cases h; rw [e2] at hp; cases hp
  refine ⟨ps, by rw [upd_ne (ne e rfl)]; exact e, ok, fun pos cv hc => ?_⟩
  obtain ⟨c, e1, e2⟩ := c pos cv hc
  exact ⟨c, e1, by rw [upd_ne (ne e2 rfl)]; exact e2⟩
theorem tabs_keep {T : List (Addr × Str)} (t : LamX.Tabs T H) (f : Fits K W H M) (s : Since [] W H W' H') : LamX.Tabs T H' := fun q hq => by
  obtain ⟨ps, e, ok, c⟩ := t q hq
  have nr : ∀ {b : Addr} {u : HO}, H b = some u → plainO u = false → b ∉ W.ro := fun {b u} e1 e2 m => by
    obtain ⟨u', h, hp⟩ := f.here b m
    rw [e1] at h; cases h; rw [e2] at hp; cases hp
  refine ⟨ps, s.keep _ _ e (nr e rfl) (.inl rfl), ok, fun pos cv hc => ?_⟩
  obtain ⟨c, e1, e2⟩ := c pos cv hc
  exact ⟨c, e1, s.keep _ _ e2 (nr e2 rfl) (.inl rfl)⟩
theorem Since.wide {M' : Mem} (s : Since [] W H W' H') (f : Fits K W' H' M') : Since tb W H W' H' := by
  have fr : ∀ {a}, Fre [] H a → Fre tb H a := fun {a} h => fre_none h.none
  refine ⟨s.le, fun a o h n _ => s.keep a o h n (.inl rfl), fun a o h => ?_, fun a h => (s.newr a h).imp id fr, fun a o h n => ?_⟩
  · rcases s.newf a o h with q | q | q
    · exact .inl q
    · exact .inr (.inl (fr q))
    · exact .inr (.inr q)
  · by_cases m : a ∈ W.ro
    · obtain ⟨r, er⟩ := s.le.ro
      obtain ⟨o2, e1, e2⟩ := f.here a (by rw [er]; exact List.mem_append_left _ m)
      exact ⟨o2, e1, .inr (plain_tbl e2)⟩
    · exact ⟨o, s.keep a o h m (.inl rfl), n⟩
end
section
variable {B : Bs} {K : PySem.W.Frag} {env : List (Option D)} {σ : L2.St} {W : Wd} {H : Hp} {M : Mem} {p a : Addr} {o : HO}
theorem Rl.step (R : Rl B K env σ W H M) {W' : Wd} {H' : Hp} {M' : Mem} (f : Fits K W' H' M') (s : Since B.tb W H W' H') (t : LamX.Tabs B.tb H') : Rl B K env σ W' H' M' := ⟨f, R.env.mono s.le, R.sin.trans s, t⟩
theorem Rl.laid (R : Rl B K env σ W H M) (h : H p = none) (ht : tblO o = false := by rfl) : Rl B K env σ (W.add p o) (upd H p o) M ∧ Since B.tb W H (W.add p o) (upd H p o) :=
  ⟨R.step (R.fit.laid h ht) (.laid R.fit h) (tabs_upd R.tabs (.inl h)), .laid R.fit h⟩
theorem Rl.alloc (R : Rl B K env σ W H M) (h : H p = none) {m : MObj} (ho : plainO o = true) (hm : MRep K (W.more p) (upd H p o) p m) : Rl B K env σ (W.more p) (upd H p o) (M ++ [m]) ∧ Since B.tb W H (W.more p) (upd H p o) :=
  ⟨R.step (R.fit.alloc h ho hm) (.alloc R.fit h) (tabs_upd R.tabs (.inl h)), .alloc R.fit h⟩
theorem Rl.write (R : Rl B K env σ W H M) {i : Nat} {m : MObj} (hi : W.ro[i]? = some a) (hz : W.fz a = none) (ho : plainO o = true) (hm : MRep K W (upd H a o) a m) : Rl B K env σ W (upd H a o) (M.set i m) ∧ Since B.tb W H W (upd H a o) := by
  obtain ⟨u, e, q⟩ := R.fit.here a (List.mem_of_getElem? hi)
  exact ⟨R.step (R.fit.write hi hz ho hm) (.write hi ho) (tabs_upd R.tabs (.inr ⟨u, e, q⟩)), .write hi ho⟩
theorem Rl.freeze (R : Rl B K env σ W H M) {i : Nat} (hi : W.ro[i]? = some a) (hz : W.fz a = none) (ho : H a = some o) : Rl B K env σ (W.add a o) H (M.set i .gone) ∧ Since B.tb W H (W.add a o) H :=
  ⟨R.step (R.fit.freeze hi hz ho) (.freeze hi hz) R.tabs, .freeze hi hz⟩
end
end L3
set_option maxRecDepth 100000
set_option maxHeartbeats 4000000
/-! L3B: the judgements; expressions. -/
namespace L3
open PySem PySem.Spec PyProof.Rows L2

/-- an exception: its class by name, its one attribute -/
structure Exn where
  cls : Str
  arg : Option (Str × D)
abbrev Envd := List (Option D)
abbrev ExK := Exn → Mem → Prop
abbrev KD := D → Mem → Prop
abbrev WE := Envd → Mem → KD → ExK → Prop
abbrev WT := Envd → Mem → (Bool → Mem → Prop) → ExK → Prop
abbrev WA := Envd → Mem → (List D → Mem → Prop) → ExK → Prop
structure EndsD where
  nx : Envd → Mem → Prop
  rt : KD
  bk : Envd → Mem → Prop
  ct : Envd → Mem → Prop
abbrev WS := Envd → Mem → EndsD → ExK → Prop

/-- no exception -/
def noE : ExK := fun _ _ => False
def ExnR (K : PySem.W.Frag) (mg : Str → Option Value) (W : Wd) (H : Hp) (x : Exn) (cls : Value) (d : Option Addr) : Prop :=
  mg x.cls = some cls ∧ match x.arg with
    | none => d = none
    | some (f, y) => ∃ p v, d = some p ∧ H p = some (.xd [(f, v)]) ∧ Rep K W v y
def wxD (X : Cx) (B : Bs) (E : ExK) : WX := fun cls d _ H => ∃ W M x, Fits X.K W H M ∧ Since B.tb B.W B.H W H ∧ LamX.Tabs B.tb H ∧ ExnR X.K X.mg W H x cls d ∧ E x M
abbrev TakesD (X : Cx) (B : Bs) (E : ExK) : Prop := L2N.Takes X (wxD X B E)
theorem takesN0 {X : Cx} : L2N.Takes X (fun _ _ _ _ => False) := fun _ _ x => by
  obtain ⟨_, _, _, _, _, _, _, _, _, _, _, _, _, _, _, _, z⟩ := x
  exact z.elim
def tD (B : Bs) (K : PySem.W.Frag) (w : WE) (E : ExK) : TE := fun σ H Q => ∃ (env : Envd) (W : Wd) (M : Mem) (Q' : KD), Rl B K env σ W H M ∧ w env M Q' E ∧
  ∀ v H' W' d M', Rl B K env σ W' H' M' → Since B.tb W H W' H' → Rep K W' v d → Q' d M' → Q v H'
def tTD (B : Bs) (K : PySem.W.Frag) (w : WT) (E : ExK) : TT := fun σ H Q => ∃ (env : Envd) (W : Wd) (M : Mem) (Q' : Bool → Mem → Prop), Rl B K env σ W H M ∧ w env M Q' E ∧
  ∀ b H' W' M', Rl B K env σ W' H' M' → Since B.tb W H W' H' → Q' b M' → Q b H'
def tAD (B : Bs) (K : PySem.W.Frag) (w : WA) (E : ExK) : TA := fun σ H Q => ∃ (env : Envd) (W : Wd) (M : Mem) (Q' : List D → Mem → Prop), Rl B K env σ W H M ∧ w env M Q' E ∧
  ∀ vs H' W' ds M', Rl B K env σ W' H' M' → Since B.tb W H W' H' → Reps K W' vs ds → Q' ds M' → Q vs H'
def DE (X : Cx) (B : Bs) (e : Expr) (w : WE) : Prop := ∀ E, TakesD X B E → PE X e (tD B X.K w E)
def DT (X : Cx) (B : Bs) (e : Expr) (w : WT) : Prop := ∀ E, TakesD X B E → PT X e (tTD B X.K w E)
def DW (X : Cx) (B : Bs) (e : Expr) (w : WT) : Prop := ∀ E, TakesD X B E → PW X e (tTD B X.K w E)
def DA (X : Cx) (B : Bs) (es : List Expr) (w : WA) : Prop := ∀ E, TakesD X B E → PA X es (tAD B X.K w E)

theorem _root_.L2.PE.imp {X : Cx} {e : Expr} {t t' : TE} (h : PE X e t) (i : ∀ σ H Q, t' σ H Q → t σ H Q) : PE X e t' := ⟨fun pins s σ H Q I q => h.run pins s σ H Q I (i σ H Q q)⟩
theorem _root_.L2.PT.imp {X : Cx} {e : Expr} {t t' : TT} (h : PT X e t) (i : ∀ σ H Q, t' σ H Q → t σ H Q) : PT X e t' := ⟨fun pins s σ H Q I q => h.run pins s σ H Q I (i σ H Q q)⟩
theorem _root_.L2.PW.imp {X : Cx} {e : Expr} {t t' : TT} (h : PW X e t) (i : ∀ σ H Q, t' σ H Q → t σ H Q) : PW X e t' := ⟨fun wh pins s σ H Q I q => h.run wh pins s σ H Q I (i σ H Q q)⟩
theorem _root_.L2.PA.imp {X : Cx} {e : List Expr} {t t' : TA} (h : PA X e t) (i : ∀ σ H Q, t' σ H Q → t σ H Q) : PA X e t' := ⟨fun pos pins s σ H Q I q => h.run pos pins s σ H Q I (i σ H Q q)⟩
theorem _root_.L2.PS.imp {X : Cx} {e : Stmt} {t t' : TS} (h : PS X e t) (i : ∀ D σ H, t' D σ H → t D σ H) : PS X e t' := ⟨fun pins s σ H D I q => h.run pins s σ H D I (i D σ H q)⟩
theorem _root_.L2.PSs.imp {X : Cx} {e : List Stmt} {t t' : TS} (h : PSs X e t) (i : ∀ D σ H, t' D σ H → t D σ H) : PSs X e t' := ⟨fun pins s σ H D I q => h.run pins s σ H D I (i D σ H q)⟩

section
variable {X : Cx} {B : Bs} {e a b c : Expr} {w wa wb wc : WE} {pos : Pos}

/-! ### names, constants -/
def wVar (i : Nat) : WE := fun env M Q _ => match env[i]? with
  | some (some d) => Q d M
  | _ => False
def wC (d : D) : WE := fun _ M Q _ => Q d M
theorem de_var (i : Nat) {x : Str} (hN : X.N[i]? = some x := by rfl) (hv : Vis X.env.scope x := by first | exact Or.inl rfl | exact Or.inr (Or.inl rfl) | exact Or.inr (Or.inr rfl)) (hd : (x == ("__debug__" : Str)) = false := by decide)
    (hcd : (x == ("__classdict__" : Str)) = false := by decide) : DE X B (.Name x pos) (wVar i) := fun E tk => (pe_var hN hv hd hcd).imp fun σ H Q h => by
  obtain ⟨env, W, M, Q', R, q, k⟩ := h
  dsimp only [wVar] at q
  split at q
  · rename_i d e
    obtain ⟨v, e1, r⟩ := R.env.get i d e
    exact ⟨v, e1, k v H W d M R .refl r q⟩
  · exact q.elim
theorem de_const {d : D} {v : V} (h : PE X e (tC v)) (hr : ∀ W, Rep X.K W v d) : DE X B e (wC d) := fun E tk => h.imp fun σ H Q h => by
  obtain ⟨env, W, M, Q', R, q, k⟩ := h
  exact k v H W d M R .refl (hr W) q
theorem de_int {i : Int} {j : Nat} : DE X B (.Constant (.int i) j pos) (wC (.int i)) := de_const pe_int fun _ => .int i
theorem de_bl {i : Bool} {j : Nat} : DE X B (.Constant (.bool i) j pos) (wC (.bl i)) := de_const pe_bl fun _ => .bl i
theorem de_non {j : Nat} : DE X B (.Constant .none j pos) (wC .non) := de_const pe_non fun _ => .non
theorem de_str {x : Str} {j : Nat} : DE X B (.Constant (.str x) j pos) (wC (.str x)) := de_const pe_str fun _ => .str x
theorem de_glob {x : Str} {u : Value} {v : V} {d : D} (hg : Gl X x) (hm : X.mg x = some u) (r : RelV v u) (hr : ∀ W, Rep X.K W v d) (hd : (x == ("__debug__" : Str)) = false := by decide) : DE X B (.Name x pos) (wC d) := de_const (pe_glob hg hm r hd) hr
/-- a def, a class as a value -/
theorem de_adr {x : Str} {f : Addr} (hg : Gl X x) (hm : X.mg x = some (.ref f)) (hd : (x == ("__debug__" : Str)) = false := by decide) : DE X B (.Name x pos) (wC (.adr f)) := de_glob (v := .ref f) hg hm rfl (fun _ => .adr f) hd

/-! ### views -/
def viewL (M : Mem) : D → Option (List D)
  | .lst ds => some ds
  | .ref i => match M[i]? with
    | some (.lst ds) => some ds
    | _ => none
  | _ => none
theorem viewL_at {K : PySem.W.Frag} {env : Envd} {σ : L2.St} {W : Wd} {H : Hp} {M : Mem} {v : V} {d : D} {ds : List D} (R : Rl B K env σ W H M) (r : Rep K W v d) (h : viewL M d = some ds) : ∃ a xs, v = .ref a ∧ H a = some (.lst xs) ∧ Reps K W xs ds := by
  unfold viewL at h
  split at h
  · cases h
    cases r with
    | lst h r => exact ⟨_, _, rfl, R.fit.fz _ _ h, r⟩
  · rename_i i
    split at h
    · rename_i es em
      cases h
      cases r with
      | ref hi =>
        obtain ⟨_, xs, e, r⟩ := R.fit.obj i _ _ hi em
        exact ⟨_, xs, rfl, e, r⟩
    · cases h
  · cases h
theorem tup_at {K : PySem.W.Frag} {env : Envd} {σ : L2.St} {W : Wd} {H : Hp} {M : Mem} {v : V} {ds : List D} (R : Rl B K env σ W H M) (r : Rep K W v (.tup ds)) : ∃ a xs, v = .ref a ∧ H a = some (.tup xs) ∧ W.fz a = some (.tup xs) ∧ Reps K W xs ds := by
  cases r with
  | tup h r => exact ⟨_, _, rfl, R.fit.fz _ _ h, h, r⟩

/-! ### operators by values -/
abbrev OpD := D → D → Mem → (D → Prop) → Prop
def Lift2 (B : Bs) (K : PySem.W.Frag) (r : R2) (o : OpD) : Prop :=
  ∀ (env : Envd) (σ : L2.St) (W : Wd) (H : Hp) (M : Mem) (x y : V) (dx dy : D) (Q : VK) (Q' : D → Prop), Rl B K env σ W H M → Rep K W x dx → Rep K W y dy → o dx dy M Q' →
    (∀ v H' W' d, Rl B K env σ W' H' M → Since B.tb W H W' H' → Rep K W' v d → Q' d → Q v H') → r x y H Q
def wOp (o : OpD) (wa wb : WE) : WE := fun env M Q E => wa env M (fun x M1 => wb env M1 (fun y M2 => o x y M2 fun z => Q z M2) E) E
theorem top_lift {r : R2} {o : OpD} {K : PySem.W.Frag} (hl : Lift2 B K r o) {E : ExK} {σ : L2.St} {H : Hp} {Q : VK} (h : tD B K (wOp o wa wb) E σ H Q) : tOp r (tD B K wa E) (tD B K wb E) σ H Q := by
  obtain ⟨env, W, M, Q', R, q, k⟩ := h
  refine ⟨env, W, M, _, R, q, fun v H1 W1 d M1 R1 s1 r1 q1 => ⟨env, W1, M1, _, R1, q1, fun u H2 W2 d2 M2 R2 s2 r2 q2 => ?_⟩⟩
  exact hl env σ W2 H2 M2 v u d d2 Q _ R2 (Rep.mono s2.le _ _ r1) r2 q2 fun z H3 W3 d3 R3 s3 r3 q3 => k z H3 W3 d3 M2 R3 ((s1.trans s2).trans s3) r3 q3
theorem de_op {op : Operator} {r : R2} {o : OpD} (ho : OpR X (binaryOp op) r) (hl : Lift2 B X.K r o) (ha : DE X B a wa) (hb : DE X B b wb) : DE X B (.BinOp a op b pos) (wOp o wa wb) := fun E tk =>
  (pe_op ho (ha E tk) (hb E tk)).imp fun σ H Q h => top_lift hl h
theorem de_cmp {op : CmpOp} {r : R2} {o : OpD} (ho : OpR X (compareOp op) r) (hl : Lift2 B X.K r o) (ha : DE X B a wa) (hb : DE X B b wb) (hm : behindInMarks op b = false := by first | exact nomark _ | rfl) : DE X B (.Compare a [op] [b] pos) (wOp o wa wb) := fun E tk =>
  (pe_cmpR ho (ha E tk) (hb E tk) hm).imp fun σ H Q h => top_lift hl h
def tstOp (o : OpD) (wa wb : WE) : WT := fun env M Q E => wOp o wa wb env M (fun d M1 => match d with
  | .bl k => Q k M1
  | _ => False) E
theorem dt_cmp {op : CmpOp} {r : R2} {o : OpD} (ho : OpR X (compareOp op) r) (hl : Lift2 B X.K r o) (ha : DE X B a wa) (hb : DE X B b wb) (hm : behindInMarks op b = false := by first | exact nomark _ | rfl) : DT X B (.Compare a [op] [b] pos) (tstOp o wa wb) := fun E tk =>
  (pt_cmpR ho (ha E tk) (hb E tk) hm).imp fun σ H Q h => by
    obtain ⟨env, W, M, Q', R, q, k⟩ := h
    refine top_lift hl ⟨env, W, M, _, R, q, fun v H' W' d M' R' s' r' q' => ?_⟩
    cases d <;> first | exact q'.elim | skip
    cases r'
    exact ⟨_, rfl, k _ H' W' M' R' s' q'⟩

/-! arithmetic -/
theorem Lift2.or {K : PySem.W.Frag} {r r' : R2} {o o' : OpD} (h : Lift2 B K r o) (h' : Lift2 B K r' o') : Lift2 B K (fun x y H Q => r x y H Q ∨ r' x y H Q) (fun x y M Q => o x y M Q ∨ o' x y M Q) := by
  intro env σ W H M x y dx dy Q Q' R rx ry q k
  rcases q with q | q
  · exact .inl (h env σ W H M x y dx dy Q Q' R rx ry q k)
  · exact .inr (h' env σ W H M x y dx dy Q Q' R rx ry q k)
theorem Lift2.imp {K : PySem.W.Frag} {r : R2} {o o' : OpD} (h : Lift2 B K r o) (i : ∀ x y M Q, o' x y M Q → o x y M Q) : Lift2 B K r o' :=
  fun env σ W H M x y dx dy Q Q' R rx ry q k => h env σ W H M x y dx dy Q Q' R rx ry (i _ _ _ _ q) k
/-- two ints to a value without parts -/
def oI (C : Int → Int → Prop) (g : Int → Int → D) : OpD := fun x y _ Q => ∃ i j, x = .int i ∧ y = .int j ∧ C i j ∧ Q (g i j)
theorem lift_I {K : PySem.W.Frag} {C : Int → Int → Prop} {g : Int → Int → V} {g' : Int → Int → D} (hg : ∀ W i j, Rep K W (g i j) (g' i j)) : Lift2 B K (rI C g) (oI C g') := by
  intro env σ W H M x y dx dy Q Q' R rx ry q k
  obtain ⟨i, j, rfl, rfl, hc, q⟩ := q
  cases rx
  cases ry
  exact ⟨i, j, rfl, rfl, hc, k _ H W _ R .refl (hg W i j) q⟩
theorem lift_I0 {K : PySem.W.Frag} {g : Int → Int → V} {g' : Int → Int → D} (hg : ∀ W i j, Rep K W (g i j) (g' i j)) : Lift2 B K (rI0 g) (oI (fun _ _ => True) g') := by
  intro env σ W H M x y dx dy Q Q' R rx ry q k
  obtain ⟨i, j, rfl, rfl, _, q⟩ := q
  cases rx
  cases ry
  exact ⟨i, j, rfl, rfl, k _ H W _ R .refl (hg W i j) q⟩
/-- lists -/
def oCat : OpD := fun x y M Q => ∃ a b, viewL M x = some a ∧ viewL M y = some b ∧ a.length + b.length ≤ sizeLine ∧ Q (.lst (a ++ b))
theorem lift_cat {K : PySem.W.Frag} : Lift2 B K rCat oCat := by
  intro env σ W H M x y dx dy Q Q' R rx ry q k
  obtain ⟨a, b, h1, h2, hz, q⟩ := q
  obtain ⟨p, xs, rfl, e1, r1⟩ := viewL_at R rx h1
  obtain ⟨p2, ys, rfl, e2, r2⟩ := viewL_at R ry h2
  refine ⟨p, p2, xs, ys, rfl, rfl, e1, e2, by rw [r1.length, r2.length]; exact hz, fun n hn => ?_⟩
  obtain ⟨R', s'⟩ := R.laid (o := .lst (xs ++ ys)) hn
  exact k _ _ _ _ R' s' (.lst upd_same ((Reps.mono s'.le _ _ r1).append (Reps.mono s'.le _ _ r2))) q
def oCatT : OpD := fun x y _ Q => ∃ a b, x = .tup a ∧ y = .tup b ∧ a.length + b.length ≤ sizeLine ∧ Q (.tup (a ++ b))
theorem lift_catT {K : PySem.W.Frag} : Lift2 B K (rCatA K) oCatT := by
  intro env σ W H M x y dx dy Q Q' R rx ry q k
  obtain ⟨a, b, rfl, rfl, hz, q⟩ := q
  obtain ⟨p, xs, rfl, e1, f1, r1⟩ := tup_at R rx
  obtain ⟨p2, ys, rfl, e2, f2, r2⟩ := tup_at R ry
  refine ⟨p, p2, xs, ys, rfl, rfl, SqT.of e1, SqT.of e2, by rw [r1.length, r2.length]; exact hz, fun hx => ?_, fun _ hy => ?_, fun _ _ n hn => ?_⟩
  · subst hx
    cases r1
    exact k _ _ _ _ R .refl (.tup f2 r2) q
  · subst hy
    cases r2
    rw [List.append_nil] at q
    exact k _ _ _ _ R .refl (.tup f1 r1) q
  · obtain ⟨R', s'⟩ := R.laid (o := .tup (xs ++ ys)) hn
    exact k _ _ _ _ R' s' (.tup upd_same ((Reps.mono s'.le _ _ r1).append (Reps.mono s'.le _ _ r2))) q
def oCatS : OpD := fun x y _ Q => ∃ a b, x = .str a ∧ y = .str b ∧ a.length + b.length ≤ sizeLine ∧ Q (.str (a ++ b))
theorem lift_catS {K : PySem.W.Frag} : Lift2 B K (fun x y H Q => ∃ i j, x = .str i ∧ y = .str j ∧ i.length + j.length ≤ sizeLine ∧ Q (.str (i ++ j)) H) oCatS := by
  intro env σ W H M x y dx dy Q Q' R rx ry q k
  obtain ⟨a, b, rfl, rfl, hz, q⟩ := q
  cases rx
  cases ry
  exact ⟨a, b, rfl, rfl, hz, k _ _ _ _ R .refl (.str _) q⟩
/-- a + b, of any kinds -/
def oAdd : OpD := fun x y M Q => match x, y with
  | .int i, .int j => Q (.int (i + j))
  | .str a, .str b => a.length + b.length ≤ sizeLine ∧ Q (.str (a ++ b))
  | .tup a, .tup b => a.length + b.length ≤ sizeLine ∧ Q (.tup (a ++ b))
  | x, y => oCat x y M Q
theorem de_add (ha : DE X B a wa) (hb : DE X B b wb) : DE X B (.BinOp a .Add b pos) (wOp oAdd wa wb) := by
  refine de_op (OpR.or op_add (OpR.or op_add_str (OpR.or op_catA op_cat))) (Lift2.imp (Lift2.or (lift_I0 (g' := fun i j => .int (i + j)) fun _ _ _ => .int _) (Lift2.or lift_catS (Lift2.or lift_catT lift_cat))) fun x y M Q h => ?_) ha hb
  dsimp only [oAdd] at h
  split at h
  · exact .inl ⟨_, _, rfl, rfl, trivial, h⟩
  · exact .inr (.inl ⟨_, _, rfl, rfl, h.1, h.2⟩)
  · exact .inr (.inr (.inl ⟨_, _, rfl, rfl, h.1, h.2⟩))
  · exact .inr (.inr (.inr h))
def oSub : OpD := fun x y _ Q => match x, y with
  | .int i, .int j => Q (.int (i - j))
  | _, _ => False
theorem de_sub (ha : DE X B a wa) (hb : DE X B b wb) : DE X B (.BinOp a .Sub b pos) (wOp oSub wa wb) := by
  refine de_op op_sub (Lift2.imp (lift_I0 (g' := fun i j => .int (i - j)) fun _ _ _ => .int _) fun x y M Q h => ?_) ha hb
  dsimp only [oSub] at h
  split at h
  · exact ⟨_, _, rfl, rfl, trivial, h⟩
  · exact h.elim
/-- a * b of ints of together less than a million bits; a list times an int -/
def oMul : OpD := fun x y M Q => match x, y with
  | .int i, .int j => CMulW i j ∧ Q (.int (i * j))
  | x, .int j => ∃ ds, viewL M x = some ds ∧ -(2 ^ 63) ≤ j ∧ j < 2 ^ 63 ∧ ds.length * j.toNat ≤ sizeLine ∧ Q (.lst (List.replicate j.toNat ds).flatten)
  | _, _ => False
theorem Reps.rep {K : PySem.W.Frag} {W : Wd} {vs : List V} {ds : List D} (h : Reps K W vs ds) : ∀ k : Nat, Reps K W (List.replicate k vs).flatten (List.replicate k ds).flatten
  | 0 => .nil
  | k + 1 => by
    rw [List.replicate_succ, List.replicate_succ, List.flatten_cons, List.flatten_cons]
    exact h.append (Reps.rep h k)
theorem de_mul (ha : DE X B a wa) (hb : DE X B b wb) : DE X B (.BinOp a .Mult b pos) (wOp oMul wa wb) := by
  refine de_op (OpR.or op_mulW op_rep) ?_ ha hb
  intro env σ W H M x y dx dy Q Q' R rx ry q k
  dsimp only [oMul] at q
  split at q
  · cases rx
    cases ry
    exact .inl ⟨_, _, rfl, rfl, q.1, k _ _ _ _ R .refl (.int _) q.2⟩
  · obtain ⟨ds, h1, h2, h3, h4, q⟩ := q
    obtain ⟨p, xs, rfl, e1, r1⟩ := viewL_at R rx h1
    cases ry
    refine .inr ⟨_, _, xs, rfl, rfl, e1, h2, h3, by rw [r1.length]; exact h4, fun n hn => ?_⟩
    obtain ⟨R', s'⟩ := R.laid (o := .lst (List.replicate _ xs).flatten) hn
    exact k _ _ _ _ R' s' (.lst upd_same (Reps.mono s'.le _ _ (r1.rep _))) q
  · exact q.elim
/-- a // b: the divisor positive and below 2 ^ 9000 -/
def oDiv : OpD := fun x y _ Q => match x, y with
  | .int i, .int j => CDivW i j ∧ Q (.int (i / j))
  | _, _ => False
theorem de_div (ha : DE X B a wa) (hb : DE X B b wb) : DE X B (.BinOp a .FloorDiv b pos) (wOp oDiv wa wb) := by
  refine de_op op_fdivW (Lift2.imp (lift_I (g' := fun i j => .int (i / j)) fun _ _ _ => .int _) fun x y M Q h => ?_) ha hb
  dsimp only [oDiv] at h
  split at h
  · exact ⟨_, _, rfl, rfl, h.1, h.2⟩
  · exact h.elim
def oMod : OpD := fun x y _ Q => match x, y with
  | .int i, .int j => 0 < j ∧ Q (.int (i % j))
  | _, _ => False
theorem de_mod (ha : DE X B a wa) (hb : DE X B b wb) : DE X B (.BinOp a .Mod b pos) (wOp oMod wa wb) := by
  refine de_op op_mod (Lift2.imp (lift_I (g' := fun i j => .int (i % j)) fun _ _ _ => .int _) fun x y M Q h => ?_) ha hb
  dsimp only [oMod] at h
  split at h
  · exact ⟨_, _, rfl, rfl, h.1, h.2⟩
  · exact h.elim
def oPow : OpD := fun x y _ Q => match x, y with
  | .int i, .int j => CPow i j ∧ Q (.int (i ^ j.toNat))
  | _, _ => False
theorem de_pow (ha : DE X B a wa) (hb : DE X B b wb) : DE X B (.BinOp a .Pow b pos) (wOp oPow wa wb) := by
  refine de_op op_pow (Lift2.imp (lift_I (g' := fun i j => .int (i ^ j.toNat)) fun _ _ _ => .int _) fun x y M Q h => ?_) ha hb
  dsimp only [oPow] at h
  split at h
  · exact ⟨_, _, rfl, rfl, h.1, h.2⟩
  · exact h.elim
/-- -a -/
def wNeg (wa : WE) : WE := fun env M Q E => wa env M (fun x M1 => match x with
  | .int i => Q (.int (-i)) M1
  | _ => False) E
theorem de_neg (ha : DE X B a wa) : DE X B (.UnaryOp .USub a pos) (wNeg wa) := fun E tk => (pe_un un_neg (ha E tk)).imp fun σ H Q h => by
  obtain ⟨env, W, M, Q', R, q, k⟩ := h
  refine ⟨env, W, M, _, R, q, fun v H1 W1 d M1 R1 s1 r1 q1 => ?_⟩
  cases d <;> first | exact q1.elim | skip
  cases r1
  exact ⟨_, rfl, k _ _ _ _ _ R1 s1 (.int _) q1⟩

/-! comparisons -/
def oCmp (p : Int → Int → Bool) : OpD := fun x y _ Q => match x, y with
  | .int i, .int j => Q (.bl (p i j))
  | _, _ => False
theorem lift_cmp {K : PySem.W.Frag} {p : Int → Int → Bool} : Lift2 B K (rI0 fun i j => .bl (p i j)) (oCmp p) :=
  Lift2.imp (lift_I0 (g' := fun i j => .bl (p i j)) fun _ _ _ => .bl _) fun x y M Q h => by
    dsimp only [oCmp] at h
    split at h
    · exact ⟨_, _, rfl, rfl, trivial, h⟩
    · exact h.elim
abbrev oLt := oCmp fun i j => decide (i < j)
abbrev oLe := oCmp fun i j => decide (i ≤ j)
abbrev oGt := oCmp fun i j => decide (j < i)
abbrev oGe := oCmp fun i j => decide (j ≤ i)
theorem de_lt (ha : DE X B a wa) (hb : DE X B b wb) : DE X B (.Compare a [.Lt] [b] pos) (wOp oLt wa wb) := de_cmp op_lt lift_cmp ha hb
theorem de_le (ha : DE X B a wa) (hb : DE X B b wb) : DE X B (.Compare a [.LtE] [b] pos) (wOp oLe wa wb) := de_cmp op_le lift_cmp ha hb
theorem de_gt (ha : DE X B a wa) (hb : DE X B b wb) : DE X B (.Compare a [.Gt] [b] pos) (wOp oGt wa wb) := de_cmp op_gt lift_cmp ha hb
theorem de_ge (ha : DE X B a wa) (hb : DE X B b wb) : DE X B (.Compare a [.GtE] [b] pos) (wOp oGe wa wb) := de_cmp op_ge lift_cmp ha hb
theorem dt_lt (ha : DE X B a wa) (hb : DE X B b wb) : DT X B (.Compare a [.Lt] [b] pos) (tstOp oLt wa wb) := dt_cmp op_lt lift_cmp ha hb
theorem dt_le (ha : DE X B a wa) (hb : DE X B b wb) : DT X B (.Compare a [.LtE] [b] pos) (tstOp oLe wa wb) := dt_cmp op_le lift_cmp ha hb
theorem dt_gt (ha : DE X B a wa) (hb : DE X B b wb) : DT X B (.Compare a [.Gt] [b] pos) (tstOp oGt wa wb) := dt_cmp op_gt lift_cmp ha hb
theorem dt_ge (ha : DE X B a wa) (hb : DE X B b wb) : DT X B (.Compare a [.GtE] [b] pos) (tstOp oGe wa wb) := dt_cmp op_ge lift_cmp ha hb

/-! equality of data -/
mutual
def D.py : D → PyData
  | .non => .none
  | .bl b => .bool b
  | .int i => .int i
  | .str x => .str x
  | .tup ds => .tuple (D.pys ds)
  | .lst ds => .list (D.pys ds)
  | .dic _ => .none
  | .ref _ => .none
  | .adr _ => .none
  | .scr _ => .none
  | .kup _ => .none
def D.pys : List D → List PyData
  | [] => []
  | d :: ds => D.py d :: D.pys ds
end
mutual
/-- data alone -/
def D.pure : D → Bool
  | .tup ds => D.pures ds
  | .lst ds => D.pures ds
  | .dic _ => false
  | .ref _ => false
  | .adr _ => false
  | .scr _ => false
  | .kup _ => false
  | _ => true
def D.pures : List D → Bool
  | [] => true
  | d :: ds => D.pure d && D.pures ds
end
mutual
theorem Rep.dp {K : PySem.W.Frag} {W : Wd} {H : Hp} (l : ∀ a o, W.fz a = some o → H a = some o) : ∀ (d : D) (v : V), d.pure = true → Rep K W v d → Dp K H v d.py
  | .non, _, _, h => by cases h; exact .non
  | .bl _, _, _, h => by cases h; exact .bl _
  | .int _, _, _, h => by cases h; exact .int _
  | .str _, _, _, h => by cases h; exact .str _
  | .tup ds, _, p, h => by
    cases h with
    | tup h r => exact .tup (.inl (.inl (l _ _ h))) (Reps.dp l ds _ p r)
  | .lst ds, _, p, h => by
    cases h with
    | lst h r => exact .lst (.inl (.inl (l _ _ h))) (Reps.dp l ds _ p r)
  | .dic _, _, p, _ => nomatch p
  | .ref _, _, p, _ => nomatch p
  | .adr _, _, p, _ => nomatch p
  | .scr _, _, p, _ => nomatch p
  | .kup _, _, p, _ => nomatch p
theorem Reps.dp {K : PySem.W.Frag} {W : Wd} {H : Hp} (l : ∀ a o, W.fz a = some o → H a = some o) : ∀ (ds : List D) (vs : List V), D.pures ds = true → Reps K W vs ds → DpAll K H vs (D.pys ds)
  | [], _, _, h => by cases h; exact .nil
  | d :: ds, _, p, h => by
    cases h with
    | cons h r =>
      have p' : (d.pure && D.pures ds) = true := p
      rw [Bool.and_eq_true] at p'
      exact .cons (Rep.dp l d _ p'.1 h) (Reps.dp l ds _ p'.2 r)
end
mutual
/-- Python's == over data -/
def eqD : D → D → Bool
  | .non, .non => true
  | .bl a, .bl b => a == b
  | .bl a, .int j => (if a then 1 else 0) == j
  | .int i, .bl b => i == (if b then 1 else 0)
  | .int i, .int j => i == j
  | .str x, .str y => x == y
  | .lst xs, .lst ys => eqDs xs ys
  | .tup xs, .tup ys => eqDs xs ys
  | _, _ => false
def eqDs : List D → List D → Bool
  | [], [] => true
  | x :: xs, y :: ys => eqD x y && eqDs xs ys
  | _, _ => false
end
mutual
theorem eqD_py : ∀ (d e : D), d.pure = true → e.pure = true → PyData.eqv d.py e.py = eqD d e
  | .non, e, _, p => by cases e <;> first | rfl | exact nomatch p
  | .bl _, e, _, p => by cases e <;> first | rfl | exact nomatch p
  | .int _, e, _, p => by cases e <;> first | rfl | exact nomatch p
  | .str _, e, _, p => by cases e <;> first | rfl | exact nomatch p
  | .tup ds, e, p0, p => by
    cases e with
    | tup es => exact eqDs_py ds es p0 p
    | dic _ => exact nomatch p
    | ref _ => exact nomatch p
    | adr _ => exact nomatch p
    | scr _ => exact nomatch p
    | kup _ => exact nomatch p
    | _ => rfl
  | .lst ds, e, p0, p => by
    cases e with
    | lst es => exact eqDs_py ds es p0 p
    | dic _ => exact nomatch p
    | ref _ => exact nomatch p
    | adr _ => exact nomatch p
    | scr _ => exact nomatch p
    | kup _ => exact nomatch p
    | _ => rfl
  | .dic _, _, p, _ => nomatch p
  | .ref _, _, p, _ => nomatch p
  | .adr _, _, p, _ => nomatch p
  | .scr _, _, p, _ => nomatch p
  | .kup _, _, p, _ => nomatch p
theorem eqDs_py : ∀ (d e : List D), D.pures d = true → D.pures e = true → PyData.eqvAll (D.pys d) (D.pys e) = eqDs d e
  | [], [], _, _ => rfl
  | [], _ :: _, _, _ => rfl
  | _ :: _, [], _, _ => rfl
  | x :: xs, y :: ys, p, q => by
    have p' : (x.pure && D.pures xs) = true := p
    have q' : (y.pure && D.pures ys) = true := q
    rw [Bool.and_eq_true] at p' q'
    show (PyData.eqv x.py y.py && PyData.eqvAll (D.pys xs) (D.pys ys)) = (eqD x y && eqDs xs ys)
    rw [eqD_py x y p'.1 q'.1, eqDs_py xs ys p'.2 q'.2]
end
mutual
/-- data of a depth of at most n -/
def D.ok : Nat → D → Bool
  | _, .non => true
  | _, .bl _ => true
  | _, .int _ => true
  | _, .str x => PyData.canLay0 (.str x)
  | n, .tup ds => (match n with | 0 => false | n + 1 => D.oks n ds)
  | n, .lst ds => (match n with | 0 => false | n + 1 => D.oks n ds)
  | _, .dic _ => false
  | _, .ref _ => false
  | _, .adr _ => false
  | _, .scr _ => false
  | _, .kup _ => false
def D.oks : Nat → List D → Bool
  | _, [] => true
  | n, d :: ds => D.ok n d && D.oks n ds
end
mutual
theorem D.ok_pure : ∀ (n : Nat) (d : D), d.ok n = true → d.pure = true ∧ d.py.canLay0 = true ∧ d.py.depth ≤ n
  | _, .non, _ => ⟨rfl, rfl, Nat.zero_le _⟩
  | _, .bl _, _ => ⟨rfl, rfl, Nat.zero_le _⟩
  | _, .int _, _ => ⟨rfl, rfl, Nat.zero_le _⟩
  | _, .str _, h => ⟨rfl, h, Nat.zero_le _⟩
  | 0, .tup _, h => nomatch h
  | 0, .lst _, h => nomatch h
  | n + 1, .tup ds, h => by
    obtain ⟨h1, h2, h3⟩ := D.oks_pure n ds h
    refine ⟨h1, h2, ?_⟩
    show (PyData.tuple (D.pys ds)).depth ≤ n + 1
    simp only [PyData.depth]; omega
  | n + 1, .lst ds, h => by
    obtain ⟨h1, h2, h3⟩ := D.oks_pure n ds h
    refine ⟨h1, h2, ?_⟩
    show (PyData.list (D.pys ds)).depth ≤ n + 1
    simp only [PyData.depth]; omega
  | _, .dic _, h => nomatch h
  | _, .ref _, h => nomatch h
  | _, .adr _, h => nomatch h
  | _, .scr _, h => nomatch h
  | _, .kup _, h => nomatch h
theorem D.oks_pure : ∀ (n : Nat) (ds : List D), D.oks n ds = true → D.pures ds = true ∧ PyData.canLayAll0 (D.pys ds) = true ∧ PyData.depthAll (D.pys ds) ≤ n
  | _, [], _ => ⟨rfl, rfl, Nat.zero_le _⟩
  | n, d :: ds, h => by
    have h' : (D.ok n d && D.oks n ds) = true := h
    rw [Bool.and_eq_true] at h'
    obtain ⟨a1, a2, a3⟩ := D.ok_pure n d h'.1
    obtain ⟨b1, b2, b3⟩ := D.oks_pure n ds h'.2
    refine ⟨?_, ?_, ?_⟩
    · show (d.pure && D.pures ds) = true
      rw [a1, b1]; rfl
    · show PyData.canLayAll0 (d.py :: D.pys ds) = true
      simp only [PyData.canLayAll0, a2, b2, Bool.and_self]
    · show PyData.depthAll (d.py :: D.pys ds) ≤ n
      simp only [PyData.depthAll]; omega
end
theorem D.ok_shaped {d : D} (h : d.ok 60 = true) : SeqAt.shaped d.py = true ∧ d.pure = true := by
  obtain ⟨h1, h2, h3⟩ := D.ok_pure 60 d h
  refine ⟨?_, h1⟩
  unfold SeqAt.shaped
  rw [h2, decide_eq_true (by omega)]; rfl
/-- a value seen through the store -/
def seeD (M : Mem) : D → D
  | .ref i => match M[i]? with
    | some (.lst ds) => .lst ds
    | _ => .ref i
  | d => d
theorem see_dp {K : PySem.W.Frag} {env : Envd} {σ : L2.St} {W : Wd} {H : Hp} {M : Mem} {v : V} {d : D} (R : Rl B K env σ W H M) (r : Rep K W v d) (h : (seeD M d).pure = true) : Dp K H v (seeD M d).py := by
  by_cases hr : ∃ i, d = .ref i
  · obtain ⟨i, rfl⟩ := hr
    unfold seeD at h ⊢
    dsimp only at h ⊢
    split
    · rename_i ds em
      rw [em] at h
      dsimp only at h
      obtain ⟨a, xs, rfl, e, rr⟩ := viewL_at (ds := ds) R r (by unfold viewL; dsimp only; rw [em])
      exact .lst (.inl (.inl e)) (Reps.dp R.fit.fz ds xs h rr)
    · rename_i hn
      split at h
      · rename_i ds em
        exact (hn ds em).elim
      · exact nomatch h
  · have e : seeD M d = d := by
      cases d <;> first | rfl | exact (hr ⟨_, rfl⟩).elim
    rw [e] at h ⊢
    exact Rep.dp R.fit.fz d v h r
def oEq (neg : Bool) : OpD := fun x y M Q => (seeD M x).ok 60 = true ∧ (seeD M y).ok 60 = true ∧ Q (.bl (if neg then !eqD (seeD M x) (seeD M y) else eqD (seeD M x) (seeD M y)))
theorem lift_eq {K : PySem.W.Frag} : Lift2 B K (rEqD K) (oEq false) := by
  intro env σ W H M x y dx dy Q Q' R rx ry q k
  obtain ⟨h1, h2, q⟩ := q
  obtain ⟨s1, p1⟩ := D.ok_shaped h1
  obtain ⟨s2, p2⟩ := D.ok_shaped h2
  refine ⟨_, _, see_dp R rx p1, see_dp R ry p2, s1, s2, ?_⟩
  rw [eqD_py _ _ p1 p2]
  exact k _ _ _ _ R .refl (.bl _) q
theorem lift_ne {K : PySem.W.Frag} : Lift2 B K (rNeD K) (oEq true) := by
  intro env σ W H M x y dx dy Q Q' R rx ry q k
  obtain ⟨h1, h2, q⟩ := q
  obtain ⟨s1, p1⟩ := D.ok_shaped h1
  obtain ⟨s2, p2⟩ := D.ok_shaped h2
  refine ⟨_, _, see_dp R rx p1, see_dp R ry p2, s1, s2, ?_⟩
  rw [eqD_py _ _ p1 p2]
  exact k _ _ _ _ R .refl (.bl _) q
theorem de_eq (hu : X.A.units + 64 < cLine) (ha : DE X B a wa) (hb : DE X B b wb) : DE X B (.Compare a [.Eq] [b] pos) (wOp (oEq false) wa wb) := de_cmp (op_eqD hu) lift_eq ha hb
theorem de_ne (hu : X.A.units + 64 < cLine) (ha : DE X B a wa) (hb : DE X B b wb) : DE X B (.Compare a [.NotEq] [b] pos) (wOp (oEq true) wa wb) := de_cmp (op_neD hu) lift_ne ha hb
theorem dt_eq (hu : X.A.units + 64 < cLine) (ha : DE X B a wa) (hb : DE X B b wb) : DT X B (.Compare a [.Eq] [b] pos) (tstOp (oEq false) wa wb) := dt_cmp (op_eqD hu) lift_eq ha hb
theorem dt_ne (hu : X.A.units + 64 < cLine) (ha : DE X B a wa) (hb : DE X B b wb) : DT X B (.Compare a [.NotEq] [b] pos) (tstOp (oEq true) wa wb) := dt_cmp (op_neD hu) lift_ne ha hb
end
end L3
set_option maxRecDepth 100000
set_option maxHeartbeats 4000000
/-! L3C: tests, displays, subscripts, built-ins, calls of own defs. -/
namespace L3
open PySem PySem.Spec PyProof.Rows L2
section
variable {X : Cx} {B : Bs} {e a b c : Expr} {es rest : List Expr} {w wa wb wc : WE} {u ua ub : WT} {z za : WA} {pos : Pos}

/-! ### tests, and, or, not -/
def wTst (w : WE) : WT := fun env M Q E => w env M (fun d M1 => match d with
  | .bl k => Q k M1
  | _ => False) E
theorem dt_val (h : DE X B e w) (he : ∀ whole, isTrue e X.env whole = (do let v ← whole; standAt e.pos; holding [v] (truthy v)) := by intro _; rfl) : DT X B e (wTst w) := fun E tk => (pt_val (h E tk) he).imp fun σ H Q h => by
  obtain ⟨env, W, M, Q', R, q, k⟩ := h
  refine ⟨env, W, M, _, R, q, fun v H1 W1 d M1 R1 s1 r1 q1 => ?_⟩
  cases d <;> first | exact q1.elim | skip
  cases r1
  exact ⟨_, rfl, k _ _ _ _ R1 s1 q1⟩
def uAnd (ua ub : WT) : WT := fun env M Q E => ua env M (fun c M1 => if c = true then ub env M1 Q E else Q false M1) E
def uOr (ua ub : WT) : WT := fun env M Q E => ua env M (fun c M1 => if c = true then Q true M1 else ub env M1 Q E) E
def uNot (ua : WT) : WT := fun env M Q E => ua env M (fun c M1 => Q (!c) M1) E
theorem dw_and1 (h : DT X B a ua) : DW X B (.BoolOp .And [a] pos) ua := fun E tk => pw_and1 (h E tk)
theorem dw_or1 (h : DT X B a ua) : DW X B (.BoolOp .Or [a] pos) ua := fun E tk => pw_or1 (h E tk)
theorem dw_and (ha : DT X B a ua) (hb : DW X B (.BoolOp .And (b :: rest) pos) ub) : DW X B (.BoolOp .And (a :: b :: rest) pos) (uAnd ua ub) := fun E tk => (pw_and (ha E tk) (hb E tk)).imp fun σ H Q h => by
  obtain ⟨env, W, M, Q', R, q, k⟩ := h
  refine ⟨env, W, M, _, R, q, fun v H1 W1 M1 R1 s1 q1 => ?_⟩
  cases v with
  | true => exact ⟨env, W1, M1, _, R1, q1, fun d H2 W2 M2 R2 s2 q2 => k _ _ _ _ R2 (s1.trans s2) q2⟩
  | false => exact k _ _ _ _ R1 s1 q1
theorem dw_or (ha : DT X B a ua) (hb : DW X B (.BoolOp .Or (b :: rest) pos) ub) : DW X B (.BoolOp .Or (a :: b :: rest) pos) (uOr ua ub) := fun E tk => (pw_or (ha E tk) (hb E tk)).imp fun σ H Q h => by
  obtain ⟨env, W, M, Q', R, q, k⟩ := h
  refine ⟨env, W, M, _, R, q, fun v H1 W1 M1 R1 s1 q1 => ?_⟩
  cases v with
  | false => exact ⟨env, W1, M1, _, R1, q1, fun d H2 W2 M2 R2 s2 q2 => k _ _ _ _ R2 (s1.trans s2) q2⟩
  | true => exact k _ _ _ _ R1 s1 q1
theorem DW.dt (h : DW X B e u) : DT X B e u := fun E tk => (h E tk).pt
theorem dt_not (h : DT X B a ua) : DT X B (.UnaryOp .Not a pos) (uNot ua) := fun E tk => (pt_not (h E tk)).imp fun σ H Q h => by
  obtain ⟨env, W, M, Q', R, q, k⟩ := h
  exact ⟨env, W, M, _, R, q, fun v H1 W1 M1 R1 s1 q1 => k _ _ _ _ R1 s1 q1⟩
/-- as values -/
def wAnd (wa wb : WE) : WE := fun env M Q E => wa env M (fun d M1 => match d with
  | .bl c => if c = true then wb env M1 Q E else Q (.bl false) M1
  | _ => False) E
def wOr (wa wb : WE) : WE := fun env M Q E => wa env M (fun d M1 => match d with
  | .bl c => if c = true then Q (.bl true) M1 else wb env M1 Q E
  | _ => False) E
def wNot (wa : WE) : WE := fun env M Q E => wa env M (fun d M1 => match d with
  | .bl c => Q (.bl (!c)) M1
  | _ => False) E
theorem de_one {op : BoolOp} (h : DE X B a w) : DE X B (.BoolOp op [a] pos) w := fun E tk => pe_one (h E tk)
theorem de_and (ha : DE X B a wa) (hb : DE X B (.BoolOp .And (b :: rest) pos) wb) : DE X B (.BoolOp .And (a :: b :: rest) pos) (wAnd wa wb) := fun E tk => (pe_and (ha E tk) (hb E tk)).imp fun σ H Q h => by
  obtain ⟨env, W, M, Q', R, q, k⟩ := h
  refine ⟨env, W, M, _, R, q, fun v H1 W1 d M1 R1 s1 r1 q1 => ?_⟩
  cases d <;> first | exact q1.elim | skip
  cases r1
  rename_i c
  refine ⟨c, rfl, ?_⟩
  cases c with
  | true => exact ⟨env, W1, M1, _, R1, q1, fun d H2 W2 d2 M2 R2 s2 r2 q2 => k _ _ _ _ _ R2 (s1.trans s2) r2 q2⟩
  | false => exact k _ _ _ _ _ R1 s1 (.bl false) q1
theorem de_or (ha : DE X B a wa) (hb : DE X B (.BoolOp .Or (b :: rest) pos) wb) : DE X B (.BoolOp .Or (a :: b :: rest) pos) (wOr wa wb) := fun E tk => (pe_or (ha E tk) (hb E tk)).imp fun σ H Q h => by
  obtain ⟨env, W, M, Q', R, q, k⟩ := h
  refine ⟨env, W, M, _, R, q, fun v H1 W1 d M1 R1 s1 r1 q1 => ?_⟩
  cases d <;> first | exact q1.elim | skip
  cases r1
  rename_i c
  refine ⟨c, rfl, ?_⟩
  cases c with
  | false => exact ⟨env, W1, M1, _, R1, q1, fun d H2 W2 d2 M2 R2 s2 r2 q2 => k _ _ _ _ _ R2 (s1.trans s2) r2 q2⟩
  | true => exact k _ _ _ _ _ R1 s1 (.bl true) q1
theorem de_not (ha : DE X B a wa) : DE X B (.UnaryOp .Not a pos) (wNot wa) := fun E tk => (pe_not (ha E tk)).imp fun σ H Q h => by
  obtain ⟨env, W, M, Q', R, q, k⟩ := h
  refine ⟨env, W, M, _, R, q, fun v H1 W1 d M1 R1 s1 r1 q1 => ?_⟩
  cases d <;> first | exact q1.elim | skip
  cases r1
  exact ⟨_, rfl, k _ _ _ _ _ R1 s1 (.bl _) q1⟩
def wIf (u : WT) (wa wb : WE) : WE := fun env M Q E => u env M (fun c M1 => if c = true then wa env M1 Q E else wb env M1 Q E) E
theorem de_if (hc : DT X B c u) (ha : DE X B a wa) (hb : DE X B b wb) : DE X B (.IfExp c a b pos) (wIf u wa wb) := fun E tk => (pe_ifExp (hc E tk) (ha E tk) (hb E tk)).imp fun σ H Q h => by
  obtain ⟨env, W, M, Q', R, q, k⟩ := h
  refine ⟨env, W, M, _, R, q, fun c H1 W1 M1 R1 s1 q1 => ?_⟩
  cases c with
  | true => exact ⟨env, W1, M1, _, R1, q1, fun d H2 W2 d2 M2 R2 s2 r2 q2 => k _ _ _ _ _ R2 (s1.trans s2) r2 q2⟩
  | false => exact ⟨env, W1, M1, _, R1, q1, fun d H2 W2 d2 M2 R2 s2 r2 q2 => k _ _ _ _ _ R2 (s1.trans s2) r2 q2⟩
/-- low <= x <= high -/
def wLeLe (wa wb wc : WE) : WE := fun env M Q E => wa env M (fun x M1 => wb env M1 (fun y M2 => match x, y with
  | .int i, .int j => if i ≤ j then wc env M2 (fun v M3 => match v with
    | .int k => Q (.bl (decide (j ≤ k))) M3
    | _ => False) E else Q (.bl false) M2
  | _, _ => False) E) E
theorem de_leLe (ha : DE X B a wa) (hb : DE X B b wb) (hc : DE X B c wc) (hm : lastMarks [.LtE, .LtE] [b, c] = false := by rfl) : DE X B (.Compare a [.LtE, .LtE] [b, c] pos) (wLeLe wa wb wc) := fun E tk => (pe_chain op_le op_le (ha E tk) (hb E tk) (hc E tk) hm).imp fun σ H Q h => by
  obtain ⟨env, W, M, Q', R, q, k⟩ := h
  refine ⟨env, W, M, _, R, q, fun v H1 W1 d M1 R1 s1 r1 q1 => ⟨env, W1, M1, _, R1, q1, fun v2 H2 W2 d2 M2 R2 s2 r2 q2 => ?_⟩⟩
  cases d <;> first | exact q2.elim | skip
  cases d2 <;> first | exact q2.elim | skip
  rename_i i j
  cases r1
  cases r2
  refine ⟨i, j, rfl, rfl, _, rfl, ?_⟩
  dsimp only at q2
  by_cases hij : i ≤ j
  · rw [if_pos hij] at q2
    rw [decide_eq_true hij, if_pos rfl]
    refine ⟨env, W2, M2, _, R2, q2, fun v3 H3 W3 d3 M3 R3 s3 r3 q3 => ?_⟩
    cases d3 <;> first | exact q3.elim | skip
    cases r3
    exact ⟨_, _, rfl, rfl, k _ _ _ _ _ R3 ((s1.trans s2).trans s3) (.bl _) q3⟩
  · rw [if_neg hij] at q2
    rw [decide_eq_false hij, if_neg (by simp)]
    exact k _ _ _ _ _ R2 (s1.trans s2) (.bl _) q2
/-- 0 < x < n, as a test -/
def uLtLt (wa wb wc : WE) : WT := fun env M Q E => wa env M (fun x M1 => wb env M1 (fun y M2 => match x, y with
  | .int i, .int j => if i < j then wc env M2 (fun v M3 => match v with
    | .int k => Q (decide (j < k)) M3
    | _ => False) E else Q false M2
  | _, _ => False) E) E
theorem dt_ltLt (ha : DE X B a wa) (hb : DE X B b wb) (hc : DE X B c wc) (hm : lastMarks [.Lt, .Lt] [b, c] = false := by rfl) : DT X B (.Compare a [.Lt, .Lt] [b, c] pos) (uLtLt wa wb wc) := fun E tk => (pt_chain op_lt op_lt (ha E tk) (hb E tk) (hc E tk) hm).imp fun σ H Q h => by
  obtain ⟨env, W, M, Q', R, q, k⟩ := h
  refine ⟨env, W, M, _, R, q, fun v H1 W1 d M1 R1 s1 r1 q1 => ⟨env, W1, M1, _, R1, q1, fun v2 H2 W2 d2 M2 R2 s2 r2 q2 => ?_⟩⟩
  cases d <;> first | exact q2.elim | skip
  cases d2 <;> first | exact q2.elim | skip
  rename_i i j
  cases r1
  cases r2
  refine ⟨i, j, rfl, rfl, _, rfl, ?_⟩
  dsimp only at q2
  by_cases hij : i < j
  · rw [if_pos hij] at q2
    rw [decide_eq_true hij, if_pos rfl]
    refine ⟨env, W2, M2, _, R2, q2, fun v3 H3 W3 d3 M3 R3 s3 r3 q3 => ?_⟩
    cases d3 <;> first | exact q3.elim | skip
    cases r3
    exact ⟨_, _, rfl, rfl, _, rfl, k _ _ _ _ R3 ((s1.trans s2).trans s3) q3⟩
  · rw [if_neg hij] at q2
    rw [decide_eq_false hij, if_neg (by simp)]
    exact ⟨_, rfl, k _ _ _ _ R2 (s1.trans s2) q2⟩
/-- is None, is not None; is True -/
def isNonD : D → Bool
  | .non => true
  | _ => false
def wIsN (neg : Bool) (wa : WE) : WE := fun env M Q E => wa env M (fun d M1 => Q (.bl (if neg then !isNonD d else isNonD d)) M1) E
theorem rep_isN {K : PySem.W.Frag} {W : Wd} {v : V} {d : D} (r : Rep K W v d) : decide (v = .non) = isNonD d := by
  cases r <;> first | rfl | exact decide_eq_false (fun z => nomatch z)
theorem de_isN {j : Nat} {pos' : Pos} (ha : DE X B a wa) : DE X B (.Compare a [.Is] [.Constant .none j pos'] pos) (wIsN false wa) := fun E tk => (pe_cmp (pc_isN (ha E tk)) rfl).imp fun σ H Q h => by
  obtain ⟨env, W, M, Q', R, q, k⟩ := h
  refine ⟨env, W, M, _, R, q, fun v H1 W1 d M1 R1 s1 r1 q1 => k _ _ _ _ _ R1 s1 ?_ q1⟩
  rw [rep_isN r1]
  exact .bl _
theorem de_notN {j : Nat} {pos' : Pos} (ha : DE X B a wa) : DE X B (.Compare a [.IsNot] [.Constant .none j pos'] pos) (wIsN true wa) := fun E tk => (pe_cmp (pc_notN (ha E tk)) rfl).imp fun σ H Q h => by
  obtain ⟨env, W, M, Q', R, q, k⟩ := h
  refine ⟨env, W, M, _, R, q, fun v H1 W1 d M1 R1 s1 r1 q1 => k _ _ _ _ _ R1 s1 ?_ q1⟩
  rw [rep_isN r1]
  exact .bl _
def uIsN (neg : Bool) (wa : WE) : WT := fun env M Q E => wa env M (fun d M1 => Q (if neg then !isNonD d else isNonD d) M1) E
theorem dt_isN {j : Nat} {pos' : Pos} (ha : DE X B a wa) : DT X B (.Compare a [.Is] [.Constant .none j pos'] pos) (uIsN false wa) := fun E tk => (pt_cmp (pc_isN (ha E tk)) rfl).imp fun σ H Q h => by
  obtain ⟨env, W, M, Q', R, q, k⟩ := h
  refine ⟨env, W, M, _, R, q, fun v H1 W1 d M1 R1 s1 r1 q1 => ⟨_, rfl, ?_⟩⟩
  rw [rep_isN r1]
  exact k _ _ _ _ R1 s1 q1
theorem dt_notN {j : Nat} {pos' : Pos} (ha : DE X B a wa) : DT X B (.Compare a [.IsNot] [.Constant .none j pos'] pos) (uIsN true wa) := fun E tk => (pt_cmp (pc_notN (ha E tk)) rfl).imp fun σ H Q h => by
  obtain ⟨env, W, M, Q', R, q, k⟩ := h
  refine ⟨env, W, M, _, R, q, fun v H1 W1 d M1 R1 s1 r1 q1 => ⟨_, rfl, ?_⟩⟩
  rw [rep_isN r1]
  exact k _ _ _ _ R1 s1 q1

/-! ### argument lists, displays -/
def zNil : WA := fun _ M Q _ => Q [] M
def zCons (w : WE) (z : WA) : WA := fun env M Q E => w env M (fun d M1 => z env M1 (fun ds M2 => Q (d :: ds) M2) E) E
theorem da_nil : DA X B [] zNil := fun E tk => pa_nil.imp fun σ H Q h => by
  obtain ⟨env, W, M, Q', R, q, k⟩ := h
  exact k _ _ _ _ _ R .refl .nil q
theorem da_cons (h : DE X B e w) (hr : DA X B es z) (hs : starEach (e :: es) X.env = (false, eval e X.env) :: starEach es X.env := by rfl) : DA X B (e :: es) (zCons w z) := fun E tk => (pa_cons (h E tk) (hr E tk) hs).imp fun σ H Q h => by
  obtain ⟨env, W, M, Q', R, q, k⟩ := h
  exact ⟨env, W, M, _, R, q, fun v H1 W1 d M1 R1 s1 r1 q1 => ⟨env, W1, M1, _, R1, q1, fun vs H2 W2 ds M2 R2 s2 r2 q2 => k _ _ _ _ _ R2 (s1.trans s2) (.cons (Rep.mono s2.le _ _ r1) r2) q2⟩⟩
def wTup (z : WA) : WE := fun env M Q E => z env M (fun ds M1 => ds.length ≤ sizeLine ∧ Q (.tup ds) M1) E
theorem de_tup {n : Nat} (h : DA X B es z) : DE X B (.Tuple es n pos) (wTup z) := fun E tk => (pe_tup (h E tk)).imp fun σ H Q h => by
  obtain ⟨env, W, M, Q', R, q, k⟩ := h
  refine ⟨env, W, M, _, R, q, fun vs H1 W1 ds M1 R1 s1 r1 q1 => ⟨by rw [r1.length]; exact q1.1, fun p hp => ?_⟩⟩
  obtain ⟨R', s'⟩ := R1.laid (o := .tup vs) hp
  exact k _ _ _ _ _ R' (s1.trans s') (.tup upd_same (Reps.mono s'.le _ _ r1)) q1.2

/-! ### fresh lists -/
abbrev WF := Envd → Mem → (List D → Mem → Prop) → ExK → Prop
/-- a new list at p, told by nobody else -/
def tFD (B : Bs) (K : PySem.W.Frag) (w : WF) (E : ExK) : TE := fun σ H Q => ∃ (env : Envd) (W : Wd) (M : Mem) (Q' : List D → Mem → Prop), Rl B K env σ W H M ∧ w env M Q' E ∧
  ∀ p vs H' W' ds M', Rl B K env σ W' H' M' → Since B.tb W H W' H' → Fre B.tb H p → H' p = some (.lst vs) → W'.fz p = none → p ∉ W'.ro → Reps K W' vs ds → Q' ds M' → Q (.ref p) H'
def DF (X : Cx) (B : Bs) (e : Expr) (w : WF) : Prop := ∀ E, TakesD X B E → PE X e (tFD B X.K w E)
section
variable {K : PySem.W.Frag} {env : Envd} {σ : L2.St} {W W' : Wd} {H H' : Hp} {M M' : Mem} {p : Addr} {o : HO}
theorem Rl.adoptF (R : Rl B K env σ W H M) (R' : Rl B K env σ W' H' M') (s : Since B.tb W H W' H') (h0 : Fre B.tb H p) (h1 : H' p = some o) (hz : W'.fz p = none) (hr : p ∉ W'.ro) (ht : tblO o = false := by rfl) :
    Rl B K env σ (W'.add p o) H' M' ∧ Since B.tb W H (W'.add p o) H' := by
  have f : Fits K (W'.add p o) H' M' := {
    nt := fun b u q => by
      by_cases e : b = p
      · subst e; rw [show (W'.add b o).fz b = some o from upd_same] at q; cases q; exact ht
      · rw [show (W'.add p o).fz b = W'.fz b from upd_ne e] at q; exact R'.fit.nt b u q
    fz := fun b u q => by
      by_cases e : b = p
      · subst e; rw [show (W'.add b o).fz b = some o from upd_same] at q; cases q; exact h1
      · rw [show (W'.add p o).fz b = W'.fz b from upd_ne e] at q; exact R'.fit.fz b u q
    len := R'.fit.len
    nd := R'.fit.nd
    obj := fun i b m q q2 => by
      have hb : b ≠ p := fun z => hr (z ▸ List.mem_of_getElem? q)
      exact (R'.fit.obj i b m q q2).stay (.add hz) (fun z => by show upd W'.fz p o b = none; rw [upd_ne hb]; exact z) fun u e => e
    here := R'.fit.here }
  have s2 : Since B.tb W H (W'.add p o) H' := ⟨s.le.trans (.add hz), s.keep, fun b u q => by
      by_cases e : b = p
      · subst e; exact .inr (.inl h0)
      · rw [show (W'.add p o).fz b = W'.fz b from upd_ne e] at q; exact s.newf b u q, s.newr, s.there⟩
  exact ⟨⟨f, R.env.mono s2.le, R.sin.trans s2, R'.tabs⟩, s2⟩
theorem Rl.adoptR (R : Rl B K env σ W H M) (R' : Rl B K env σ W' H' M') (s : Since B.tb W H W' H') (h0 : Fre B.tb H p) (h1 : H' p = some o) (ho : plainO o = true) (hr : p ∉ W'.ro) {m : MObj} (hm : MRep K (W'.more p) H' p m) :
    Rl B K env σ (W'.more p) H' (M' ++ [m]) ∧ Since B.tb W H (W'.more p) H' := by
  have f : Fits K (W'.more p) H' (M' ++ [m]) := {
    fz := R'.fit.fz
    nt := R'.fit.nt
    len := by show (W'.ro ++ [p]).length = _; rw [List.length_append, List.length_append, R'.fit.len]; rfl
    nd := by
      show (W'.ro ++ [p]).Nodup
      rw [List.nodup_append]
      refine ⟨R'.fit.nd, by simp, fun x hx y hy => ?_⟩
      have : y = p := by simpa using hy
      subst this
      exact fun z => hr (z ▸ hx)
    obj := fun i b m' q q2 => by
      have q : (W'.ro ++ [p])[i]? = some b := q
      by_cases hi : i < W'.ro.length
      · rw [List.getElem?_append_left hi] at q
        rw [List.getElem?_append_left (by rw [← R'.fit.len]; exact hi)] at q2
        exact (R'.fit.obj i b m' q q2).stay .more (fun z => z) fun u e => e
      · have e : i = W'.ro.length := by
          have := (List.getElem?_eq_some_iff.mp q).1
          simp at this
          omega
        subst e
        rw [List.getElem?_append_right (Nat.le_refl _)] at q
        rw [R'.fit.len, List.getElem?_append_right (Nat.le_refl _)] at q2
        simp at q q2
        subst q q2
        exact hm
    here := fun b hb => by
      rcases List.mem_append.mp (show b ∈ W'.ro ++ [p] from hb) with hb | hb
      · exact R'.fit.here b hb
      · have : b = p := by simpa using hb
        subst this
        exact ⟨o, h1, ho⟩ }
  have s2 : Since B.tb W H (W'.more p) H' := ⟨s.le.trans .more, s.keep, s.newf, fun b m => by
      rcases List.mem_append.mp (show b ∈ W'.ro ++ [p] from m) with m | m
      · exact s.newr b m
      · have : b = p := by simpa using m
        subst this
        exact .inr h0, s.there⟩
  exact ⟨⟨f, R.env.mono s2.le, R.sin.trans s2, R'.tabs⟩, s2⟩
/-- just laid, told by nobody -/
theorem Rl.bare (R : Rl B K env σ W H M) (h : H p = none) (ho : plainO o = true) : Rl B K env σ W (upd H p o) M ∧ Since B.tb W H W (upd H p o) ∧ W.fz p = none ∧ p ∉ W.ro := by
  have s : Since B.tb W H W (upd H p o) := ⟨.refl _, fun b u q _ _ => by rw [upd_ne (ne_of_none q h)]; exact q, fun _ _ q => .inl q, fun _ m => .inl m, fun b u q n => ⟨u, by rw [upd_ne (ne_of_none q h)]; exact q, n⟩⟩
  refine ⟨R.step ⟨fun b u q => ?_, R.fit.len, R.fit.nd, fun i b m q q2 => ?_, fun b m => ?_, R.fit.nt⟩ s (tabs_upd R.tabs (.inl h)), s, R.fit.fzn h, R.fit.ron h⟩
  · have e := R.fit.fz b u q
    rw [upd_ne (ne_of_none e h)]; exact e
  · exact (R.fit.obj i b m q q2).stay (.refl _) (fun z => z) fun u e => by rw [upd_ne (ne_of_none e h)]; exact e
  · obtain ⟨u, e, q⟩ := R.fit.here b m
    exact ⟨u, by rw [upd_ne (ne_of_none e h)]; exact e, q⟩
end
def wFz (w : WF) : WE := fun env M Q E => w env M (fun ds M1 => Q (.lst ds) M1) E
def wSt (w : WF) : WE := fun env M Q E => w env M (fun ds M1 => Q (.ref M1.length) (M1 ++ [.lst ds])) E
/-- a new list as a value -/
theorem DF.fz {wf : WF} (h : DF X B e wf) : DE X B e (wFz wf) := fun E tk => (h E tk).imp fun σ H Q h => by
  obtain ⟨env, W, M, Q', R, q, k⟩ := h
  refine ⟨env, W, M, _, R, q, fun p vs H' W' ds M' R' s' h0 h1 hz hr r q' => ?_⟩
  obtain ⟨R2, s2⟩ := Rl.adoptF R R' s' h0 h1 hz hr
  exact k _ _ _ _ _ R2 s2 (.lst upd_same (Reps.mono (.add hz) _ _ r)) q'
/-- a new list as an object of the store -/
theorem DF.st {wf : WF} (h : DF X B e wf) : DE X B e (wSt wf) := fun E tk => (h E tk).imp fun σ H Q h => by
  obtain ⟨env, W, M, Q', R, q, k⟩ := h
  refine ⟨env, W, M, _, R, q, fun p vs H' W' ds M' R' s' h0 h1 hz hr r q' => ?_⟩
  obtain ⟨R2, s2⟩ := Rl.adoptR (m := .lst ds) R R' s' h0 h1 rfl hr ⟨hz, vs, h1, Reps.mono .more _ _ r⟩
  refine k _ _ _ _ _ R2 s2 (.ref ?_) q'
  show (W'.ro ++ [p])[M'.length]? = some p
  rw [← R'.fit.len, List.getElem?_append_right (Nat.le_refl _)]
  simp
def fLst (z : WA) : WF := fun env M Q E => z env M (fun ds M1 => ds.length ≤ sizeLine ∧ Q ds M1) E
theorem df_lst (h : DA X B es z) : DF X B (.List es pos) (fLst z) := fun E tk => (pe_lst (h E tk)).imp fun σ H Q h => by
  obtain ⟨env, W, M, Q', R, q, k⟩ := h
  refine ⟨env, W, M, _, R, q, fun vs H1 W1 ds M1 R1 s1 r1 q1 => ⟨by rw [r1.length]; exact q1.1, fun p hp => ?_⟩⟩
  obtain ⟨R', s', hz, hr⟩ := R1.bare (o := .lst vs) hp rfl
  have h0 : Fre B.tb H p := s1.frees (fre_none hp)
  exact k p vs _ _ _ _ R' (s1.trans s') h0 upd_same hz hr r1 q1.2
def fCat (wa wb : WE) : WF := fun env M Q E => wa env M (fun x M1 => wb env M1 (fun y M2 => match viewL M2 x, viewL M2 y with
  | some a, some b => a.length + b.length ≤ sizeLine ∧ Q (a ++ b) M2
  | _, _ => False) E) E
theorem df_cat (ha : DE X B a wa) (hb : DE X B b wb) : DF X B (.BinOp a .Add b pos) (fCat wa wb) := fun E tk => (pe_op op_cat (ha E tk) (hb E tk)).imp fun σ H Q h => by
  obtain ⟨env, W, M, Q', R, q, k⟩ := h
  refine ⟨env, W, M, _, R, q, fun v H1 W1 d M1 R1 s1 r1 q1 => ⟨env, W1, M1, _, R1, q1, fun v2 H2 W2 d2 M2 R2 s2 r2 q2 => ?_⟩⟩
  split at q2
  · rename_i as bs h1 h2
    obtain ⟨p, xs, rfl, e1, r1'⟩ := viewL_at R2 (Rep.mono s2.le _ _ r1) h1
    obtain ⟨p2, ys, rfl, e2, r2'⟩ := viewL_at R2 r2 h2
    refine ⟨p, p2, xs, ys, rfl, rfl, e1, e2, by rw [r1'.length, r2'.length]; exact q2.1, fun n hn => ?_⟩
    obtain ⟨R', s', hz, hr⟩ := R2.bare (o := .lst (xs ++ ys)) hn rfl
    have s12 := s1.trans s2
    have h0 : Fre B.tb H n := s12.frees (fre_none hn)
    exact k n _ _ _ _ _ R' (s12.trans s') h0 upd_same hz hr (r1'.append r2') q2.2
  · exact q2.elim

/-! ### subscripts -/
theorem reps_atI {K : PySem.W.Frag} {W : Wd} {vs : List V} {ds : List D} {i : Int} {d : D} (r : Reps K W vs ds) (h : atI ds i = some d) : ∃ v, atI vs i = some v ∧ Rep K W v d := by
  unfold atI at h ⊢
  rw [r.length]
  cases e : ixN ds.length i with
  | none => rw [e] at h; cases h
  | some j =>
    rw [e] at h
    obtain ⟨v, h1, h2⟩ := r.get (i := j) (d := d) h
    exact ⟨v, h1, h2⟩
theorem atI_map {α β : Type} (f : α → β) (xs : List α) (i : Int) : atI (xs.map f) i = (atI xs i).map f := by
  unfold atI
  rw [List.length_map]
  cases ixN xs.length i with
  | none => rfl
  | some j => simp
def oIx : OpD := fun x y M Q => match seeD M x, y with
  | .tup ds, .int i => match atI ds i with
    | some d => Q d
    | none => False
  | .lst ds, .int i => match atI ds i with
    | some d => Q d
    | none => False
  | .scr ns, .int i => match atI ns i with
    | some n => Q (.int n)
    | none => False
  | .str z, .int i => z.length ≤ sizeLine ∧ match atI z.cps.toList i with
    | some c => Q (.str ⟨#[c]⟩)
    | none => False
  | _, _ => False
theorem seeD_lst {K : PySem.W.Frag} {env : Envd} {σ : L2.St} {W : Wd} {H : Hp} {M : Mem} {v : V} {d : D} {ds : List D} (R : Rl B K env σ W H M) (r : Rep K W v d) (h : seeD M d = .lst ds) : ∃ a xs, v = .ref a ∧ H a = some (.lst xs) ∧ Reps K W xs ds := by
  refine viewL_at R r ?_
  unfold seeD at h
  unfold viewL
  split at h
  · rename_i i
    dsimp only
    split at h
    · rename_i es em
      cases h
      rfl
    · cases h
  · subst h
    rfl
theorem seeD_ne {M : Mem} {d e : D} (h : seeD M d = e) (n : ∀ ds, e ≠ .lst ds) (m : ∀ i, e ≠ .ref i) : d = e := by
  unfold seeD at h
  split at h
  · split at h
    · exact (n _ h.symm).elim
    · exact (m _ h.symm).elim
  · exact h
theorem lift_ix {K : PySem.W.Frag} : Lift2 B K (rIx K) oIx := by
  intro env σ W H M x y dx dy Q Q' R rx ry q k
  dsimp only [oIx] at q
  split at q
  · rename_i ds i e
    obtain rfl := seeD_ne e (fun _ z => nomatch z) (fun _ z => nomatch z)
    cases ry
    split at q
    · rename_i d ed
      obtain ⟨p, xs, rfl, e1, _, r1⟩ := tup_at R rx
      obtain ⟨v, ev, rv⟩ := reps_atI r1 ed
      exact .inr (.inl ⟨p, xs, _, v, rfl, rfl, SqT.of e1, ev, k _ _ _ _ R .refl rv q⟩)
    · exact q.elim
  · rename_i ds i e
    cases ry
    split at q
    · rename_i d ed
      obtain ⟨p, xs, rfl, e1, r1⟩ := seeD_lst R rx e
      obtain ⟨v, ev, rv⟩ := reps_atI r1 ed
      exact .inl ⟨p, xs, _, v, rfl, rfl, SqL.of e1, ev, k _ _ _ _ R .refl rv q⟩
    · exact q.elim
  · rename_i ns i e
    obtain rfl := seeD_ne e (fun _ z => nomatch z) (fun _ z => nomatch z)
    cases ry
    split at q
    · rename_i n en
      cases rx with
      | scr h =>
        exact .inl ⟨_, _, _, .int n, rfl, rfl, sqL_mono R.fit.fz h, by rw [atI_map, en]; rfl, k _ _ _ _ R .refl (.int n) q⟩
    · exact q.elim
  · rename_i z i e
    obtain rfl := seeD_ne e (fun _ z => nomatch z) (fun _ z => nomatch z)
    cases ry
    cases rx
    obtain ⟨hz, q⟩ := q
    split at q
    · rename_i c ec
      exact .inr (.inr ⟨z, _, c, rfl, rfl, hz, ec, k _ _ _ _ R .refl (.str _) q⟩)
    · exact q.elim
  · exact q.elim
theorem de_ix (ha : DE X B a wa) (hb : DE X B b wb) (hs : PlainIx b := by intro _ _; rfl) : DE X B (.Subscript a b pos) (wOp oIx wa wb) := fun E tk => (pe_ix ix_seq (ha E tk) (hb E tk) hs).imp fun σ H Q h => top_lift lift_ix h
end
end L3
set_option maxRecDepth 100000
set_option maxHeartbeats 4000000
/-! L3D: statements, targets, loops, calls, a def's contract. -/
namespace L3
open PySem PySem.Spec PyProof.Rows L2

/-! ### statements -/
def tSD (B : Bs) (K : PySem.W.Frag) (w : WS) (E : ExK) : TS := fun D σ H => ∃ (env : Envd) (W : Wd) (M : Mem) (D' : EndsD), Rl B K env σ W H M ∧ w env M D' E ∧
  (∀ env' σ' W' H' M', Rl B K env' σ' W' H' M' → Since B.tb W H W' H' → D'.nx env' M' → D.nx σ' H') ∧
  (∀ v H' W' d M', Fits K W' H' M' → LamX.Tabs B.tb H' → Since B.tb W H W' H' → Rep K W' v d → D'.rt d M' → D.rt v H') ∧
  (∀ env' σ' W' H' M', Rl B K env' σ' W' H' M' → Since B.tb W H W' H' → D'.bk env' M' → D.bk σ' H') ∧
  (∀ env' σ' W' H' M', Rl B K env' σ' W' H' M' → Since B.tb W H W' H' → D'.ct env' M' → D.ct σ' H')
def DS (X : Cx) (B : Bs) (st : Stmt) (w : WS) : Prop := ∀ E, TakesD X B E → PS X st (tSD B X.K w E)
def DSs (X : Cx) (B : Bs) (st : List Stmt) (w : WS) : Prop := ∀ E, TakesD X B E → PSs X st (tSD B X.K w E)

section
variable {X : Cx} {B : Bs} {e a b c : Expr} {es : List Expr} {st : Stmt} {sts body orelse : List Stmt} {w : WE} {u : WT} {z : WA} {s1 s2 : WS} {pos : Pos}
def sNil : WS := fun env M D _ => D.nx env M
def sSeq (s1 s2 : WS) : WS := fun env M D E => s1 env M { D with nx := fun env' M' => s2 env' M' D E } E
theorem dss_nil : DSs X B [] sNil := fun E tk => pss_nil.imp fun D σ H h => by
  obtain ⟨env, W, M, D', R, q, k, _⟩ := h
  exact k _ _ _ _ _ R .refl q
theorem dss_cons (h1 : DS X B st s1) (h2 : DSs X B sts s2) : DSs X B (st :: sts) (sSeq s1 s2) := fun E tk => (pss_cons (h1 E tk) (h2 E tk)).imp fun D σ H h => by
  obtain ⟨env, W, M, D', R, q, k1, k2, k3, k4⟩ := h
  refine ⟨env, W, M, _, R, q, fun env' σ' W' H' M' R' s' q' => ?_, k2, k3, k4⟩
  exact ⟨env', W', M', D', R', q', fun e2 σ2 W2 H2 M2 R2 s2 q2 => k1 _ _ _ _ _ R2 (s'.trans s2) q2, fun v H2 W2 d M2 f2 t2 s2 r2 q2 => k2 _ _ _ _ _ f2 t2 (s'.trans s2) r2 q2,
    fun e2 σ2 W2 H2 M2 R2 s2 q2 => k3 _ _ _ _ _ R2 (s'.trans s2) q2, fun e2 σ2 W2 H2 M2 R2 s2 q2 => k4 _ _ _ _ _ R2 (s'.trans s2) q2⟩
theorem dss_one (h1 : DS X B st s1) : DSs X B [st] s1 := fun E tk => pss_one (h1 E tk)
def sDrop (w : WE) : WS := fun env M D E => w env M (fun _ M1 => D.nx env M1) E
theorem ds_expr (h : DE X B e w) (hs : swapsWith e none pos.line X.env = pure false := by rfl) : DS X B (.Expr e pos) (sDrop w) := fun E tk => (ps_expr (h E tk) hs).imp fun D σ H h => by
  obtain ⟨env, W, M, D', R, q, k1, k2, k3, k4⟩ := h
  exact ⟨env, W, M, _, R, q, fun v H1 W1 d M1 R1 s1 r1 q1 => k1 _ _ _ _ _ R1 s1 q1⟩
theorem ds_pass : DS X B (.Pass pos) sNil := fun E tk => ps_pass.imp fun D σ H h => by
  obtain ⟨env, W, M, D', R, q, k, _⟩ := h
  exact k _ _ _ _ _ R .refl q
def sRet (w : WE) : WS := fun env M D E => w env M (fun d M1 => D.rt d M1) E
theorem ds_ret (h : DE X B e w) : DS X B (.Return (some e) pos) (sRet w) := fun E tk => (ps_ret (h E tk)).imp fun D σ H h => by
  obtain ⟨env, W, M, D', R, q, k1, k2, k3, k4⟩ := h
  exact ⟨env, W, M, _, R, q, fun v H1 W1 d M1 R1 s1 r1 q1 => k2 _ _ _ _ _ R1.fit R1.tabs s1 r1 q1⟩
def sIf (u : WT) (s1 s2 : WS) : WS := fun env M D E => u env M (fun c M1 => if c = true then s1 env M1 D E else s2 env M1 D E) E
theorem ds_if (hc : DT X B c u) (h1 : DSs X B body s1) (h2 : DSs X B orelse s2) : DS X B (.If c body orelse pos) (sIf u s1 s2) := fun E tk => (ps_if (hc E tk) (h1 E tk) (h2 E tk)).imp fun D σ H h => by
  obtain ⟨env, W, M, D', R, q, k1, k2, k3, k4⟩ := h
  refine ⟨env, W, M, _, R, q, fun c H1 W1 M1 R1 s1 q1 => ?_⟩
  cases c with
  | true => exact ⟨env, W1, M1, D', R1, q1, fun e2 σ2 W2 H2 M2 R2 s2 q2 => k1 _ _ _ _ _ R2 (s1.trans s2) q2, fun v H2 W2 d M2 f2 t2 s2 r2 q2 => k2 _ _ _ _ _ f2 t2 (s1.trans s2) r2 q2,
    fun e2 σ2 W2 H2 M2 R2 s2 q2 => k3 _ _ _ _ _ R2 (s1.trans s2) q2, fun e2 σ2 W2 H2 M2 R2 s2 q2 => k4 _ _ _ _ _ R2 (s1.trans s2) q2⟩
  | false => exact ⟨env, W1, M1, D', R1, q1, fun e2 σ2 W2 H2 M2 R2 s2 q2 => k1 _ _ _ _ _ R2 (s1.trans s2) q2, fun v H2 W2 d M2 f2 t2 s2 r2 q2 => k2 _ _ _ _ _ f2 t2 (s1.trans s2) r2 q2,
    fun e2 σ2 W2 H2 M2 R2 s2 q2 => k3 _ _ _ _ _ R2 (s1.trans s2) q2, fun e2 σ2 W2 H2 M2 R2 s2 q2 => k4 _ _ _ _ _ R2 (s1.trans s2) q2⟩
/-- name = value -/
theorem Rl.set {K : PySem.W.Frag} {env : Envd} {σ : L2.St} {W : Wd} {H : Hp} {M : Mem} {v : V} {d : D} (R : Rl B K env σ W H M) (r : Rep K W v d) (i : Nat) : Rl B K (env.set i (some d)) (σ.set i (some v)) W H M := ⟨R.fit, R.env.set r, R.sin, R.tabs⟩
def sSet (i : Nat) (w : WE) : WS := fun env M D E => w env M (fun d M1 => D.nx (env.set i (some d)) M1) E
theorem ds_set {i : Nat} {x : Str} {pos' : Pos} (hN : X.N.Nodup) (h : DE X B e w) (hi : X.N[i]? = some x := by rfl) (hx : Loc X.env.scope x := by first | exact Or.inl rfl | exact Or.inr rfl) (hs : swapsWith e (some (.Name x pos')) pos.line X.env = pure false := by rfl)
    (hf : X.fn x = true ∨ X.env.scope.names.lookup x = some .local := by first | exact .inl rfl | exact .inr rfl) : DS X B (.Assign [.Name x pos'] e pos) (sSet i w) := fun E tk => (ps_set hN hi hx (h E tk) hs hf).imp fun D σ H h => by
  obtain ⟨env, W, M, D', R, q, k1, k2, k3, k4⟩ := h
  exact ⟨env, W, M, _, R, q, fun v H1 W1 d M1 R1 s1 r1 q1 => k1 _ _ _ _ _ (R1.set r1 i) s1 q1⟩
/-- a, b = x, y by plain local names -/
def sPar2 (i j : Nat) (z : WA) : WS := fun env M D E => z env M (fun ds M1 => match ds with
  | [x, y] => D.nx ((env.set i (some x)).set j (some y)) M1
  | _ => False) E
theorem ds_par2 {i j : Nat} {x y : Str} {px py pt : Pos} {kt k2 : Nat} {pt2 : Pos} (hc : X.calm = true) (hN : X.N.Nodup) (hi : X.N[i]? = some x) (hj : X.N[j]? = some y) (hij : i ≠ j)
    (hx : X.env.scope.names.lookup x = some .local) (hy : X.env.scope.names.lookup y = some .local) (ha : DA X B [a, b] z)
    (hw : swappedStores [.Tuple [.Name x px, .Name y py] kt pt] (.Tuple [a, b] k2 pt2) X.env = pure (some [x, y]))
    (hs : swapsWithSole [.Tuple [.Name x px, .Name y py] kt pt] (.Tuple [a, b] k2 pt2) pos.line X.env = pure false := by rfl) :
    DS X B (.Assign [.Tuple [.Name x px, .Name y py] kt pt] (.Tuple [a, b] k2 pt2) pos) (sPar2 i j z) := fun E tk => (ps_par hc hN hi hj hij hx hy (ha E tk) hw hs).imp fun D σ H h => by
  obtain ⟨env, W, M, D', R, q, k1, k2, k3, k4⟩ := h
  refine ⟨env, W, M, _, R, q, fun vs H1 W1 ds M1 R1 s1 r1 q1 => ?_⟩
  split at q1
  · cases r1 with
    | cons h1 r1 =>
      cases r1 with
      | cons h2 r1 =>
        cases r1
        exact ⟨_, _, rfl, k1 _ _ _ _ _ ((R1.set h1 i).set h2 j) s1 q1⟩
  · exact q1.elim
def sPar3 (i j l : Nat) (z : WA) : WS := fun env M D E => z env M (fun ds M1 => match ds with
  | [x, y, t] => D.nx (((env.set i (some x)).set j (some y)).set l (some t)) M1
  | _ => False) E
theorem ds_par3 {i j l : Nat} {x y t : Str} {px py pz pt : Pos} {kt k2 : Nat} {pt2 : Pos} (hc : X.calm = true) (hN : X.N.Nodup) (hi : X.N[i]? = some x) (hj : X.N[j]? = some y) (hl : X.N[l]? = some t) (hij : i ≠ j) (hil : i ≠ l) (hjl : j ≠ l)
    (hx : X.env.scope.names.lookup x = some .local) (hy : X.env.scope.names.lookup y = some .local) (ht : X.env.scope.names.lookup t = some .local) (ha : DA X B [a, b, c] z)
    (hw : swappedStores [.Tuple [.Name x px, .Name y py, .Name t pz] kt pt] (.Tuple [a, b, c] k2 pt2) X.env = pure (some [x, y, t]))
    (hs : swapsWithSole [.Tuple [.Name x px, .Name y py, .Name t pz] kt pt] (.Tuple [a, b, c] k2 pt2) pos.line X.env = pure false := by rfl) :
    DS X B (.Assign [.Tuple [.Name x px, .Name y py, .Name t pz] kt pt] (.Tuple [a, b, c] k2 pt2) pos) (sPar3 i j l z) := fun E tk => (ps_par3 hc hN hi hj hl hij hil hjl hx hy ht (ha E tk) hw hs).imp fun D σ H h => by
  obtain ⟨env, W, M, D', R, q, k1, k2, k3, k4⟩ := h
  refine ⟨env, W, M, _, R, q, fun vs H1 W1 ds M1 R1 s1 r1 q1 => ?_⟩
  split at q1
  · cases r1 with
    | cons h1 r1 =>
      cases r1 with
      | cons h2 r1 =>
        cases r1 with
        | cons h3 r1 =>
          cases r1
          exact ⟨_, _, _, rfl, k1 _ _ _ _ _ (((R1.set h1 i).set h2 j).set h3 l) s1 q1⟩
  · exact q1.elim

/-! ### targets -/
abbrev WG := D → Envd → Mem → (Envd → Mem → Prop) → ExK → Prop
abbrev WGs := List D → Envd → Mem → (Envd → Mem → Prop) → ExK → Prop
def tGD (B : Bs) (K : PySem.W.Frag) (g : WG) (E : ExK) : TG := fun v σ H Q => ∃ (env : Envd) (W : Wd) (M : Mem) (d : D) (Q' : Envd → Mem → Prop), Rl B K env σ W H M ∧ Rep K W v d ∧ g d env M Q' E ∧
  ∀ env' σ' W' H' M', Rl B K env' σ' W' H' M' → Since B.tb W H W' H' → Q' env' M' → Q σ' H'
def tGsD (B : Bs) (K : PySem.W.Frag) (g : WGs) (E : ExK) : TGs := fun vs σ H Q => ∃ (env : Envd) (W : Wd) (M : Mem) (ds : List D) (Q' : Envd → Mem → Prop), Rl B K env σ W H M ∧ Reps K W vs ds ∧ g ds env M Q' E ∧
  ∀ env' σ' W' H' M', Rl B K env' σ' W' H' M' → Since B.tb W H W' H' → Q' env' M' → Q σ' H'
def DG (X : Cx) (B : Bs) (tg : Expr) (g : WG) : Prop := ∀ E, TakesD X B E → PG X tg (tGD B X.K g E)
def DGs (X : Cx) (B : Bs) (tg : List Expr) (g : WGs) : Prop := ∀ E, TakesD X B E → PGs X tg (tGsD B X.K g E)
theorem _root_.L2.PG.imp {X : Cx} {e : Expr} {t t' : TG} (h : PG X e t) (i : ∀ v σ H Q, t' v σ H Q → t v σ H Q) : PG X e t' := ⟨fun pins s σ H v u Q I r q => h.run pins s σ H v u Q I r (i v σ H Q q)⟩
theorem _root_.L2.PGs.imp {X : Cx} {e : List Expr} {t t' : TGs} (h : PGs X e t) (i : ∀ v σ H Q, t' v σ H Q → t v σ H Q) : PGs X e t' := ⟨fun pins s σ H v u Q I r q => h.run pins s σ H v u Q I r (i v σ H Q q)⟩
def gSet (i : Nat) : WG := fun d env M Q _ => Q (env.set i (some d)) M
theorem dg_name {i : Nat} {x : Str} (hN : X.N.Nodup) (hi : X.N[i]? = some x := by rfl) (hx : Loc X.env.scope x := by first | exact Or.inl rfl | exact Or.inr rfl) (hf : X.fn x = true ∨ X.env.scope.names.lookup x = some .local := by first | exact .inl rfl | exact .inr rfl) : DG X B (.Name x pos) (gSet i) := fun E tk => (pg_name hN hi hx hf).imp fun v σ H Q h => by
  obtain ⟨env, W, M, d, Q', R, r, q, k⟩ := h
  exact k _ _ _ _ _ (R.set r i) .refl q
def gsNil : WGs := fun ds env M Q _ => match ds with
  | [] => Q env M
  | _ => False
def gsCons (g : WG) (gs : WGs) : WGs := fun ds env M Q E => match ds with
  | d :: ds => g d env M (fun env' M' => gs ds env' M' Q E) E
  | [] => False
theorem dgs_nil : DGs X B [] gsNil := fun E tk => pgs_nil.imp fun v σ H Q h => by
  obtain ⟨env, W, M, ds, Q', R, r, q, k⟩ := h
  cases ds with
  | nil => cases r; exact ⟨rfl, k _ _ _ _ _ R .refl q⟩
  | cons d ds => exact q.elim
theorem dgs_cons {g : WG} {gs : WGs} (h1 : DG X B e g) (h2 : DGs X B es gs) (hs : (assignEach (e :: es) X.env).map (·.2) = assign e X.env :: (assignEach es X.env).map (·.2) := by rfl) : DGs X B (e :: es) (gsCons g gs) := fun E tk => (pgs_cons (h1 E tk) (h2 E tk) hs).imp fun v σ H Q h => by
  obtain ⟨env, W, M, ds, Q', R, r, q, k⟩ := h
  cases ds with
  | nil => exact q.elim
  | cons d ds =>
    cases r with
    | cons h r =>
      exact ⟨_, _, rfl, env, W, M, d, _, R, h, q, fun env' σ' W' H' M' R' s' q' => ⟨env', W', M', ds, _, R', Reps.mono s'.le _ _ r, q', fun e2 σ2 W2 H2 M2 R2 s2 q2 => k _ _ _ _ _ R2 (s'.trans s2) q2⟩⟩
def gTupD (n : Nat) (gs : WGs) : WG := fun d env M Q E => match d with
  | .tup ds => ds.length = n ∧ gs ds env M Q E
  | _ => False
theorem dg_tup {k n : Nat} {gs : WGs} (hc : X.calm = true) (h : DGs X B es gs) (hn : (assignEach es X.env).length = n := by rfl) (hst : (assignEach es X.env).findIdx? (·.1) = none := by rfl) : DG X B (.Tuple es k pos) (gTupD n gs) := fun E tk => (pg_tup hc (h E tk) hn hst).imp fun v σ H Q h => by
  obtain ⟨env, W, M, d, Q', R, r, q, k⟩ := h
  cases d <;> first | exact q.elim | skip
  cases r with
  | tup h r => exact ⟨_, _, rfl, SqT.of (R.fit.fz _ _ h), by rw [r.length]; exact q.1, env, W, M, _, _, R, r, q.2, k⟩
/-- o[i] = v, o a list of the store -/
def gSub (wo wi : WE) : WG := fun d env M Q E => wo env M (fun x M1 => wi env M1 (fun y M2 => match x, y with
  | .ref r, .int k => match M2[r]? with
    | some (.lst ds) => match ixN ds.length k with
      | some j => Q env (M2.set r (.lst (ds.set j d)))
      | none => False
    | _ => False
  | _, _ => False) E) E
theorem dg_sub {wo wi : WE} (ho : DE X B a wo) (hi : DE X B b wi)
    (ha : ∀ v, assign (.Subscript a b pos) X.env v = (do
      let ov ← holding [v] (eval a X.env)
      let iv ← holding [v, ov] (eval b X.env)
      standAt pos
      holding [v, ov, iv] (setItem ov iv v)
      release [v, ov, iv] []) := by intro _; rfl) : DG X B (.Subscript a b pos) (gSub wo wi) := fun E tk => (pg_sub (ho E tk) (hi E tk) set_list ha).imp fun v σ H Q h => by
  obtain ⟨env, W, M, d, Q', R, r, q, k⟩ := h
  refine ⟨env, W, M, _, R, q, fun x H1 W1 dx M1 R1 s1 r1 q1 => ⟨env, W1, M1, _, R1, q1, fun y H2 W2 dy M2 R2 s2 r2 q2 => ?_⟩⟩
  cases dx <;> first | exact q2.elim | skip
  cases dy <;> first | exact q2.elim | skip
  rename_i ri ki
  dsimp only at q2
  split at q2
  · rename_i ds em
    split at q2
    · rename_i j ej
      cases r2
      cases Rep.mono s2.le _ _ r1 with
      | ref hi =>
        obtain ⟨hz, xs, e1, rr⟩ := R2.fit.obj ri _ _ hi em
        have s12 := s1.trans s2
        refine ⟨_, xs, ki, j, rfl, rfl, e1, by rw [rr.length]; exact ej, ?_⟩
        obtain ⟨R3, s3⟩ := R2.write (m := .lst (ds.set j d)) (o := .lst (xs.set j v)) hi hz rfl ⟨hz, _, upd_same, Reps.set (Rep.mono s12.le _ _ r) j rr⟩
        exact k _ _ _ _ _ R3 (s12.trans s3) q2
    · exact q2.elim
  · exact q2.elim
def sAsg (w : WE) (g : WG) : WS := fun env M D E => w env M (fun d M1 => g d env M1 D.nx E) E
theorem ds_asg {tg : Expr} {g : WG} (h : DE X B e w) (hg : DG X B tg g) (hs : swapsWithSole [tg] e pos.line X.env = pure false := by rfl) (hw : swappedStores [tg] e X.env = pure none := by rfl) (h1 : (assignEach [tg] X.env).map (·.2) = [assign tg X.env] := by rfl) :
    DS X B (.Assign [tg] e pos) (sAsg w g) := fun E tk => (ps_asg (h E tk) (hg E tk) hs hw h1).imp fun D σ H h => by
  obtain ⟨env, W, M, D', R, q, k1, k2, k3, k4⟩ := h
  exact ⟨env, W, M, _, R, q, fun v H1 W1 d M1 R1 s1 r1 q1 => ⟨env, W1, M1, d, _, R1, r1, q1, fun e2 σ2 W2 H2 M2 R2 s2 q2 => k1 _ _ _ _ _ R2 (s1.trans s2) q2⟩⟩

/-! ### while -/
def sWhile (u : WT) (s1 : WS) : WS := fun env M D E => ∃ I : Nat → Envd → Mem → Prop, (∃ m, I m env M) ∧ ∀ m env M, I m env M →
  u env M (fun b M1 => if b = true then s1 env M1 { D with nx := fun e' M' => ∃ k, k < m ∧ I k e' M', ct := fun e' M' => ∃ k, k < m ∧ I k e' M', bk := D.nx } E else D.nx env M1) E
theorem ds_while (hp : PassesOwn (model X.prog X.w) X.A X.env X.xe) (hc : DT X B c u) (hb : DSs X B body s1) : DS X B (.While c body [] pos) (sWhile u s1) := fun E tk => (ps_while hp (hc E tk) (hb E tk)).imp fun D σ H h => by
  obtain ⟨env, W, M, D', R, ⟨I, ⟨m0, i0⟩, turn⟩, k1, k2, k3, k4⟩ := h
  refine ⟨fun m σ' H' => ∃ env' W' M', Rl B X.K env' σ' W' H' M' ∧ Since B.tb W H W' H' ∧ I m env' M', ⟨m0, env, W, M, R, .refl, i0⟩, ?_⟩
  rintro m σ1 H1 ⟨env1, W1, M1, R1, s1, i1⟩
  refine ⟨env1, W1, M1, _, R1, turn m env1 M1 i1, fun b H2 W2 M2 R2 s2 q2 => ?_⟩
  have s12 := s1.trans s2
  cases b with
  | false => exact k1 _ _ _ _ _ R2 s12 q2
  | true =>
    refine ⟨fun σ' H' => ∃ env' W' M', Rl B X.K env' σ' W' H' M' ∧ Since B.tb W H W' H' ∧ ∃ k, k < m ∧ I k env' M', fun σ' H' ⟨env', W', M', R', s', k, hk, i'⟩ => ⟨k, hk, env', W', M', R', s', i'⟩, ?_⟩
    exact ⟨env1, W2, M2, _, R2, q2, fun e3 σ3 W3 H3 M3 R3 s3 q3 => ⟨e3, W3, M3, R3, s12.trans s3, q3⟩, fun v H3 W3 d M3 f3 t3 s3 r3 q3 => k2 _ _ _ _ _ f3 t3 (s12.trans s3) r3 q3,
      fun e3 σ3 W3 H3 M3 R3 s3 q3 => k1 _ _ _ _ _ R3 (s12.trans s3) q3, fun e3 σ3 W3 H3 M3 R3 s3 q3 => ⟨e3, W3, M3, R3, s12.trans s3, q3⟩⟩

/-! ### what is walked -/
def ItD (B : Bs) (K : PySem.W.Frag) (J : It) (W0 : Wd) (H0 : Hp) (items : List D) : Prop :=
  ∀ (i : Nat) (env : Envd) (σ : L2.St) (W : Wd) (H : Hp) (M : Mem), Rl B K env σ W H M → Since B.tb W0 H0 W H →
    (∀ d, items[i]? = some d → J.go i H ∧ ∀ x H', J.yld i H x H' → ∃ W', Rl B K env σ W' H' M ∧ Since B.tb W H W' H' ∧ Rep K W' x d) ∧ (items.length ≤ i → J.stop i H)
abbrev WI := Envd → Mem → (List D → Mem → Prop) → ExK → Prop
def tID (B : Bs) (K : PySem.W.Frag) (w : WI) (E : ExK) : TI := fun σ H R => ∃ (env : Envd) (W : Wd) (M : Mem) (R' : List D → Mem → Prop), Rl B K env σ W H M ∧ w env M R' E ∧
  ∀ J H' W' M' items, Rl B K env σ W' H' M' → Since B.tb W H W' H' → ItD B K J W' H' items → R' items M' → R J H'
def DI (X : Cx) (B : Bs) (tg iter : Expr) (w : WI) : Prop := ∀ E, TakesD X B E → PI X tg iter (tID B X.K w E)
theorem _root_.L2.PI.imp {X : Cx} {tg e : Expr} {t t' : TI} (h : PI X tg e t) (i : ∀ σ H Q, t' σ H Q → t σ H Q) : PI X tg e t' := ⟨fun pins s σ H Q I q => h.run pins s σ H Q I (i σ H Q q)⟩
/-- a list or a tuple -/
theorem pi_both {tg l : Expr} {tl : TE} (hl : PE X l tl) : PI X tg l (fun σ H R => tl σ H fun x H1 => ∃ a, x = .ref a ∧ (((∃ xs, SqL X.K H1 a xs) ∧ R (Itl X.K a) H1) ∨ ((∃ xs, SqT X.K H1 a xs) ∧ R (Itt X.K a) H1))) := by
  refine ⟨fun pins s σ H R I h => ?_⟩
  refine thn (hl.run pins s σ H _ I h) fun v s1 ⟨x, H1, I1, r1, q1⟩ => ?_
  obtain ⟨a, e, q1⟩ := q1
  subst e
  cases r1
  have hb1 : ∀ b ∈ [s1.heap.objs.size], FpOk X pins H1 b := fun b hb => by
    have e : b = s1.heap.objs.size := by simpa using hb
    subst e
    exact I1.fpOk (Nat.le_refl _) (I1.hok.fresh (Nat.le_refl _))
  rcases q1 with ⟨⟨xs, hq⟩, q⟩ | ⟨⟨xs, hq⟩, q⟩
  · obtain ⟨its, rv, p, hz⟩ := I1.list hq
    refine wpAny_pyIter_list p.isList ?_
    exact ⟨s1.heap.objs.size, [s1.heap.objs.size], _, _, H1, rfl, I1.kept (t' := s1.toks) fun b o e => Heap.get?_push_of_some _ e, turn_list a _, ⟨_, Heap.get?_push_size _ rfl, rfl, rfl⟩, hb1, q⟩
  · obtain ⟨its, rv, p, hz⟩ := I1.tuple hq
    refine wpAny_pyIter_tuple (show s1.heap.IsTuple a its.toArray from p) ?_
    exact ⟨s1.heap.objs.size, [s1.heap.objs.size], _, _, H1, rfl, I1.kept (t' := s1.toks) fun b o e => Heap.get?_push_of_some _ e, turn_tuple a _, ⟨_, Heap.get?_push_size _ rfl, rfl, rfl⟩, hb1, q⟩
def iSeq (w : WE) : WI := fun env M R E => w env M (fun d M1 => match d with
  | .lst ds => R ds M1
  | .tup ds => R ds M1
  | _ => False) E
theorem di_seq {tg : Expr} (h : DE X B e w) : DI X B tg e (iSeq w) := fun E tk => (pi_both (h E tk)).imp fun σ H Q h => by
  obtain ⟨env, W, M, R', R, q, k⟩ := h
  refine ⟨env, W, M, _, R, q, fun v H1 W1 d M1 R1 s1 r1 q1 => ?_⟩
  cases d <;> first | exact q1.elim | skip
  · rename_i ds
    cases r1 with
    | tup h r =>
      rename_i p xs
      refine ⟨_, rfl, .inr ⟨⟨_, SqT.of (R1.fit.fz _ _ h)⟩, k _ _ _ _ ds R1 s1 (fun i env' σ' W' H' M' R'' s'' => ?_) q1⟩⟩
      have e' := SqT.of (K := X.K) (R''.fit.fz _ _ (s''.le.fz _ _ h))
      have r' := Reps.mono s''.le _ _ r
      refine ⟨fun d hd => ?_, fun hi => ⟨_, e', by rw [r.length]; exact hi⟩⟩
      obtain ⟨v, hv, rv⟩ := r'.get hd
      refine ⟨⟨_, _, e', hv⟩, fun x H2 y => ?_⟩
      obtain ⟨eh, y⟩ := y
      have := y _ e'
      rw [hv] at this
      cases this
      exact ⟨W', eh ▸ R'', eh ▸ .refl, rv⟩
  · rename_i ds
    cases r1 with
    | lst h r =>
      rename_i p xs
      refine ⟨_, rfl, .inl ⟨⟨_, SqL.of (R1.fit.fz _ _ h)⟩, k _ _ _ _ ds R1 s1 (fun i env' σ' W' H' M' R'' s'' => ?_) q1⟩⟩
      have e' := SqL.of (K := X.K) (R''.fit.fz _ _ (s''.le.fz _ _ h))
      have r' := Reps.mono s''.le _ _ r
      refine ⟨fun d hd => ?_, fun hi => ⟨_, e', by rw [r.length]; exact hi⟩⟩
      obtain ⟨v, hv, rv⟩ := r'.get hd
      refine ⟨⟨_, _, e', hv⟩, fun x H2 y => ?_⟩
      obtain ⟨eh, y⟩ := y
      have := y _ e'
      rw [hv] at this
      cases this
      exact ⟨W', eh ▸ R'', eh ▸ .refl, rv⟩
def rangeD (lo : Int) (n : Nat) : List D := (List.range n).map fun (i : Nat) => D.int (lo + (i : Int))
theorem rangeD_at {lo : Int} {n i : Nat} {d : D} (h : (rangeD lo n)[i]? = some d) : i < n ∧ d = .int (lo + i) := by
  unfold rangeD at h
  rw [List.getElem?_map] at h
  cases e : (List.range n)[i]? with
  | none => rw [e] at h; cases h
  | some j =>
    rw [e] at h
    obtain ⟨h1, h2⟩ := List.getElem?_eq_some_iff.mp e
    rw [List.getElem_range] at h2
    subst h2
    exact ⟨by simpa using h1, (Option.some.inj h).symm⟩
theorem itD_range {K : PySem.W.Frag} {W0 : Wd} {H0 : Hp} {lo : Int} {n : Nat} : ItD B K (Itr lo n) W0 H0 (rangeD lo n) := fun i env σ W H M R s => by
  refine ⟨fun d hd => ?_, fun hi => by unfold rangeD at hi; simpa [Itr] using hi⟩
  obtain ⟨h1, rfl⟩ := rangeD_at hd
  refine ⟨h1, fun x H' y => ?_⟩
  obtain ⟨rfl, rfl⟩ := y
  exact ⟨W, R, .refl, .int _⟩
def iRange1 (z : WA) : WI := fun env M R E => z env M (fun ds M1 => match ds with
  | [.int n] => n < 2 ^ 62 ∧ -(2 ^ 62) ≤ n ∧ R (rangeD 0 n.toNat) M1
  | _ => False) E
theorem di_range1 {tg : Expr} {p : Pos} (hg : Gl X "range") (hm : X.mg "range" = none) (ha : DA X B [a] z) (hs : starEach [a] X.env = [(false, eval a X.env)] := by rfl) : DI X B tg (.Call (.Name "range" p) [a] [] pos) (iRange1 z) := fun E tk => (pi_range1 hg hm (ha E tk) hs).imp fun σ H Q h => by
  obtain ⟨env, W, M, R', R, q, k⟩ := h
  refine ⟨env, W, M, _, R, q, fun vs H1 W1 ds M1 R1 s1 r1 q1 => ?_⟩
  split at q1
  · cases r1 with
    | cons h1 r1 =>
      cases r1
      cases h1
      exact ⟨_, rfl, q1.2.1, q1.1, k _ _ _ _ _ R1 s1 itD_range q1.2.2⟩
  · exact q1.elim
def iRange2 (z : WA) : WI := fun env M R E => z env M (fun ds M1 => match ds with
  | [.int m, .int n] => (-(2 ^ 62) ≤ m ∧ m < 2 ^ 62 ∧ -(2 ^ 62) ≤ n ∧ n < 2 ^ 62) ∧ R (rangeD m (n - m).toNat) M1
  | _ => False) E
theorem di_range2 {tg : Expr} {p : Pos} (hg : Gl X "range") (hm : X.mg "range" = none) (ha : DA X B [a, b] z) (hs : starEach [a, b] X.env = [(false, eval a X.env), (false, eval b X.env)] := by rfl) (hs2 : starEach [b] X.env = [(false, eval b X.env)] := by rfl) : DI X B tg (.Call (.Name "range" p) [a, b] [] pos) (iRange2 z) := fun E tk => (pi_range2 hg hm (ha E tk) hs hs2).imp fun σ H Q h => by
  obtain ⟨env, W, M, R', R, q, k⟩ := h
  refine ⟨env, W, M, _, R, q, fun vs H1 W1 ds M1 R1 s1 r1 q1 => ?_⟩
  split at q1
  · cases r1 with
    | cons h1 r1 =>
      cases r1 with
      | cons h2 r1 =>
        cases r1
        cases h1
        cases h2
        exact ⟨_, _, rfl, q1.1, k _ _ _ _ _ R1 s1 itD_range q1.2⟩
  · exact q1.elim
/-- the turns of a for -/
def sTurns (g : WG) (s1 : WS) : List D → Envd → Mem → EndsD → ExK → Prop
  | [], env, M, D, _ => D.nx env M
  | x :: xs, env, M, D, E => g x env M (fun env1 M1 => s1 env1 M1 { D with nx := fun e' M' => sTurns g s1 xs e' M' D E, ct := fun e' M' => sTurns g s1 xs e' M' D E, bk := D.nx } E) E
def sFor (wi : WI) (g : WG) (s1 : WS) : WS := fun env M D E => wi env M (fun items M1 => sTurns g s1 items env M1 D E) E
theorem ds_for {tg iter : Expr} {wi : WI} {g : WG} (hp : PassesOwn (model X.prog X.w) X.A X.env X.xe) (hc : X.calm = true) (hi : DI X B tg iter wi) (hg : DG X B tg g) (hb : DSs X B body s1) (hs : ∀ x, foldedSetIterable iter X.env x = pure x := by intro _; rfl) :
    DS X B (.For tg iter body [] pos) (sFor wi g s1) := fun E tk => (ps_for hp hc (hi E tk) (hg E tk) (hb E tk) hs).imp fun D σ H h => by
  obtain ⟨env, W, M, D', R, q, k1, k2, k3, k4⟩ := h
  refine ⟨env, W, M, _, R, q, fun J H1 W1 M1 items R1 s1' it q1 => ?_⟩
  refine ⟨fun i m σ' H' => m = items.length - i ∧ i ≤ items.length ∧ ∃ env' W' M', Rl B X.K env' σ' W' H' M' ∧ Since B.tb W1 H1 W' H' ∧ sTurns g s1 (items.drop i) env' M' D' E, ⟨_, rfl, Nat.zero_le _, env, W1, M1, R1, .refl, by simpa using q1⟩, ?_⟩
  rintro i m σ2 H2 ⟨rfl, hi', env2, W2, M2, R2, s2, q2⟩
  obtain ⟨go, stop⟩ := it i env2 σ2 W2 H2 M2 R2 s2
  by_cases hlt : i < items.length
  · have hd := List.drop_eq_getElem_cons hlt
    rw [hd] at q2
    obtain ⟨hgo, yl⟩ := go _ (List.getElem?_eq_getElem hlt)
    refine .inr ⟨hgo, fun σ' H' => ∃ env' W' M', Rl B X.K env' σ' W' H' M' ∧ Since B.tb W1 H1 W' H' ∧ sTurns g s1 (items.drop (i + 1)) env' M' D' E, fun σ' H' h' => ⟨_, by omega, rfl, hlt, h'⟩, fun x H3 hy => ?_⟩
    obtain ⟨W3, R3, s3, r3⟩ := yl x H3 hy
    have s23 := s2.trans s3
    refine ⟨env2, W3, M2, _, _, R3, r3, q2, fun e4 σ4 W4 H4 M4 R4 s4 q4 => ?_⟩
    have s24 := s23.trans s4
    exact ⟨e4, W4, M4, _, R4, q4, fun e5 σ5 W5 H5 M5 R5 s5 q5 => ⟨e5, W5, M5, R5, s24.trans s5, q5⟩, fun v H5 W5 d M5 f5 t5 s5 r5 q5 => k2 _ _ _ _ _ f5 t5 ((s1'.trans s24).trans s5) r5 q5,
      fun e5 σ5 W5 H5 M5 R5 s5 q5 => k1 _ _ _ _ _ R5 ((s1'.trans s24).trans s5) q5, fun e5 σ5 W5 H5 M5 R5 s5 q5 => ⟨e5, W5, M5, R5, s24.trans s5, q5⟩⟩
  · have e : items.drop i = [] := List.drop_eq_nil_of_le (by omega)
    rw [e] at q2
    exact .inl ⟨stop (by omega), k1 _ _ _ _ _ R2 (s1'.trans s2) q2⟩

/-! ### raise -/
def sRaise (cls : Str) : WS := fun _ M _ E => E ⟨cls, none⟩ M
theorem ds_raise {x m : Str} {j : Nat} {p p2 p3 : Pos} {C : Addr} {bmB : List Value} {Bn newId initId : String} (hc : X.calm = true) (F : ExcBaseFacts Bn newId initId bmB) (q : PySem.W.excIn X.K C bmB newId = true) (gC : X.mg x = some (.ref C)) (kC : PySem.W.keepIn X.K (.ref C) = true) (r : Raises X (.ref C)) (hg : Gl X x)
    (hdb : (x == ("__debug__" : Str)) = false := by decide) : DS X B (.Raise (some (.Call (.Name x p) [.Constant (.str m) j p2] [] p3)) none pos) (sRaise x) := fun E tk => (L2N.ps_raise hc tk (L2N.pmk_own F q gC kC r hg hdb)).imp fun D σ H h => by
  obtain ⟨env, W, M, D', R, q, k1, k2, k3, k4⟩ := h
  exact ⟨W, M, ⟨x, none⟩, R.fit, R.sin, R.tabs, ⟨gC, rfl⟩, q⟩

/-! ### contracts, calls -/
abbrev CtD := List D → Mem → KD → ExK → Prop
def spD (K : PySem.W.Frag) (mg : Str → Option Value) (tb : List (Addr × Str)) (n : Nat) (ct : CtD) : Sp := fun vs H Q E => ∃ (W : Wd) (M : Mem) (ds : List D) (Q' : KD) (E' : ExK), Fits K W H M ∧ LamX.Tabs tb H ∧ Reps K W vs ds ∧ ds.length = n ∧ ct ds M Q' E' ∧
  (∀ v H' W' d M', Fits K W' H' M' → Since tb W H W' H' → Rep K W' v d → Q' d M' → Q v H') ∧
  (∀ x cls dx H' W' M', Fits K W' H' M' → Since tb W H W' H' → ExnR K mg W' H' x cls dx → E' x M' → E cls dx H')
structure DFn (P : Program) (w : World) (K : PySem.W.Frag) (mg : Str → Option Value) (base : Heap) (x : Str) (n k : Nat) (ct : CtD) : Prop where
  ex : ∃ (f : Addr) (fd : FuncData) (ps : List Str), mg x = some (.ref f) ∧ PySem.W.keepIn K (.ref f) = true ∧ Binds K fd ps [] ∧ FnOk P w K mg base (L2N.CX P w) k f fd ps (spD K mg [] n ct)
def wCall (n : Nat) (ct : CtD) (z : WA) : WE := fun env M Q E => z env M (fun ds M1 => ds.length = n ∧ ct ds M1 Q E) E
theorem fn_read {n : Nat} {ct : CtD} {E : ExK} {env : Envd} {σ : L2.St} {W W1 : Wd} {H H1 : Hp} {M1 : Mem} {Q : VK} {Q' : KD} {vs : List V} {ds : List D} (R1 : Rl B X.K env σ W1 H1 M1) (s1 : Since B.tb W H W1 H1) (r1 : Reps X.K W1 vs ds) (hn : ds.length = n) (q : ct ds M1 Q' E)
    (k : ∀ v H' W' d M', Rl B X.K env σ W' H' M' → Since B.tb W H W' H' → Rep X.K W' v d → Q' d M' → Q v H') : spD X.K X.mg [] n ct vs H1 Q (fun cls d H' => wxD X B E cls d [] H') := by
  refine ⟨W1, M1, ds, Q', E, R1.fit, fun p hp => absurd hp (by simp), r1, hn, q, fun v H' W' d M' f s r q' => ?_, fun x cls dx H' W' M' f s xr q' => ?_⟩
  · have t := tabs_keep R1.tabs R1.fit s
    have sw := s.wide (tb := B.tb) f
    exact k v H' W' d M' (R1.step f sw t) (s1.trans sw) r q'
  · exact ⟨W', M', x, f, R1.sin.trans (s.wide f), tabs_keep R1.tabs R1.fit s, xr, q'⟩
theorem de_call {x : Str} {n k : Nat} {ct : CtD} {p : Pos} (F : DFn X.prog X.w X.K X.mg X.base x n k ct) (hr : Room k X.A) (hg : Gl X x) (ha : DA X B (e :: es) z) (hdb : (x == ("__debug__" : Str)) = false := by decide)
    (he : starEach (e :: es) X.env = (false, eval e X.env) :: starEach es X.env := by rfl) (hpl : (backTo pos (starEach es X.env)).any (·.1) = false := by rfl) : DE X B (.Call (.Name x p) (e :: es) [] pos) (wCall n ct z) := fun E tk => by
  obtain ⟨f, fd, ps, hm, hk, hb, F⟩ := F.ex
  refine (pe_call (dvs := []) (E := fun cls d H' => wxD X B E cls d [] H') F hr hg hm hk hb .nil (L2N.passes_call tk fun _ _ _ _ h => h) (ha E tk) hdb he hpl).imp fun σ H Q h => ?_
  obtain ⟨env, W, M, Q', R, q, k⟩ := h
  refine ⟨env, W, M, _, R, q, fun vs H1 W1 ds M1 R1 s1 r1 q1 => ?_⟩
  show spD X.K X.mg [] n ct (vs ++ []) H1 Q _
  rw [List.append_nil]
  exact fn_read R1 s1 r1 q1.1 q1.2 k
end
/-! ### a def keeps its contract -/
def startD (N : List Str) (ds : List D) : Envd := ds.map some ++ List.replicate (N.length - ds.length) none
theorem start_env {K : PySem.W.Frag} {W : Wd} {N : List Str} {vs : List V} {ds : List D} (r : Reps K W vs ds) : EnvR K W (startD N ds) (L2.start N vs) := by
  refine ⟨?_, fun i d e => ?_⟩
  · unfold startD L2.start
    simp [r.length]
  · unfold startD at e
    unfold L2.start
    by_cases hi : i < ds.length
    · rw [List.getElem?_append_left (by simpa using hi), List.getElem?_map] at e
      cases q : ds[i]? with
      | none => rw [q] at e; cases e
      | some d' =>
        rw [q] at e
        cases e
        obtain ⟨v, h1, h2⟩ := r.get q
        refine ⟨v, ?_, h2⟩
        rw [List.getElem?_append_left (by rw [List.length_map, r.length]; exact hi), List.getElem?_map, h1]
        rfl
    · rw [List.getElem?_append_right (by simpa using Nat.le_of_not_lt hi), List.getElem?_replicate] at e
      split at e <;> cases e
section
variable {P : Program} {w : World} {K : PySem.W.Frag} {mg : Str → Option Value} {base : Heap}
theorem okN {x qual : Str} {st : Stmt} {f : Addr} {fd : FuncData} {N ps : List Str} {k : Nat} {sp : Sp} (F : Fun K x qual st f fd) (S : FnScope N ps (defScope st)) (len : ∀ vs H Q E, sp vs H Q E → vs.length = ps.length)
    (hbody : ∀ (cdv : Value) (A : Around) (outer : List Env) (s : Shared) (H : Hp) (vs : List V) (Q : VK) (E : XK), Room k (A.deeper (envOfC qual (defScope st) s.heap.objs.size f cdv)) → sp vs H Q E →
      ∃ t, PSs (cxOf (L2N.CX P w) P w K mg base N qual (defScope st) f cdv A outer s H E) (defBody st) t ∧ t { nx := fun _ H' => Q .non H', rt := Q } (L2.start N vs) H) : FnOk P w K mg base (L2N.CX P w) (k + 1) f fd ps sp := by
  obtain ⟨oc, od, kV, doc, pm, an, cdv, ct, osl, rfl, lk, hcd⟩ := F.ex
  exact fn_of lk hcd S len fun A outer s H vs Q E hr h => hbody cdv A outer s H vs Q E hr h
theorem fnok_of {x qual : Str} {st : Stmt} {f : Addr} {fd : FuncData} {N ps : List Str} {k n : Nat} {tb : List (Addr × Str)} {ct : CtD} {wb : WS} (F : Fun K x qual st f fd) (S : FnScope N ps (defScope st)) (hn : ps.length = n)
    (hbody : ∀ (cdv : Value) (A : Around) (outer : List Env) (s : Shared) (H : Hp) (E : XK) (B : Bs), B.tb = tb → Room k (A.deeper (envOfC qual (defScope st) s.heap.objs.size f cdv)) →
      DSs (cxOf (L2N.CX P w) P w K mg base N qual (defScope st) f cdv A outer s H E) B (defBody st) wb)
    (hct : ∀ ds M Q E, ds.length = n → ct ds M Q E → wb (startD N ds) M { nx := fun _ M' => Q .non M', rt := Q, bk := fun _ _ => False, ct := fun _ _ => False } E) :
    FnOk P w K mg base (L2N.CX P w) (k + 1) f fd ps (spD K mg tb n ct) := by
  refine okN F S (fun vs H Q E h => ?_) fun cdv A outer s H vs Q E hr h => ?_
  · obtain ⟨W, M, ds, Q', E', f, t, r, hl, _⟩ := h
    rw [r.length, hl, hn]
  · obtain ⟨W, M, ds, Q', E', ft, t, r, hl, q, k1, k2⟩ := h
    have tk : TakesD (cxOf (L2N.CX P w) P w K mg base N qual (defScope st) f cdv A outer s H E) ⟨tb, W, H⟩ E' :=
      (L2N.takes_of (X := cxOf (L2N.CX P w) P w K mg base N qual (defScope st) f cdv A outer s H E) (E := E) rfl rfl rfl rfl).imp fun cls d σ H' h => by
        obtain ⟨W', M', xx, f', s', t', xr, q'⟩ := h
        exact k2 xx cls d H' W' M' f' s' xr q'
    refine ⟨_, hbody cdv A outer s H E ⟨tb, W, H⟩ rfl hr E' tk, startD N ds, W, M, _, ⟨ft, start_env r, .refl, t⟩, hct ds M Q' E' hl q, ?_, ?_, ?_, ?_⟩
    · exact fun env' σ' W' H' M' R' s' q' => k1 _ _ _ _ _ R'.fit s' .non q'
    · exact fun v H' W' d M' f' t' s' r' q' => k1 _ _ _ _ _ f' s' r' q'
    · exact fun env' σ' W' H' M' R' s' q' => q'.elim
    · exact fun env' σ' W' H' M' R' s' q' => q'.elim
theorem dfn_of {x qual : Str} {st : Stmt} {f : Addr} {fd : FuncData} {N ps : List Str} {k n : Nat} {ct : CtD} {wb : WS} (F : Fun K x qual st f fd) (hm : mg x = some (.ref f)) (hb : Binds K fd ps []) (S : FnScope N ps (defScope st)) (hn : ps.length = n)
    (hbody : ∀ (cdv : Value) (A : Around) (outer : List Env) (s : Shared) (H : Hp) (E : XK) (B : Bs), B.tb = [] → Room k (A.deeper (envOfC qual (defScope st) s.heap.objs.size f cdv)) →
      DSs (cxOf (L2N.CX P w) P w K mg base N qual (defScope st) f cdv A outer s H E) B (defBody st) wb)
    (hct : ∀ ds M Q E, ds.length = n → ct ds M Q E → wb (startD N ds) M { nx := fun _ M' => Q .non M', rt := Q, bk := fun _ _ => False, ct := fun _ _ => False } E) : DFn P w K mg base x n (k + 1) ct :=
  ⟨f, fd, ps, hm, F.kp, hb, fnok_of F S hn hbody hct⟩
end
end L3
set_option maxRecDepth 100000
set_option maxHeartbeats 4000000
/-! L3E: list comprehensions. -/
namespace L3
open PySem PySem.Spec PyProof.Rows L2

def wipeD (env : Envd) : List Nat → Envd
  | [] => env
  | v :: vs => (wipeD env vs).set v none
section
variable {B : Bs} {K : PySem.W.Frag} {env : Envd} {σ : L2.St} {W W' : Wd} {H H' : Hp} {M M' : Mem} {p : Addr} {o : HO} {tb : List (Addr × Str)}
theorem wipeD_length (env : Envd) : ∀ vs : List Nat, (wipeD env vs).length = env.length
  | [] => rfl
  | v :: vs => by unfold wipeD; rw [List.length_set, wipeD_length env vs]
theorem EnvR.wipe (r : EnvR K W env σ) : ∀ vs : List Nat, EnvR K W (wipeD env vs) (L2.wipe σ vs)
  | [] => r
  | v :: vs => by
    have q := EnvR.wipe r vs
    refine ⟨by unfold wipeD L2.wipe; rw [List.length_set, List.length_set]; exact q.len, fun i d e => ?_⟩
    unfold wipeD at e
    unfold L2.wipe
    by_cases hi : v = i
    · subst hi
      by_cases hv : v < (wipeD env vs).length
      · rw [List.getElem?_set_self hv] at e; cases e
      · rw [List.getElem?_eq_none (by simpa using hv)] at e; cases e
    · rw [List.getElem?_set_ne hi] at e
      rw [List.getElem?_set_ne hi]
      exact q.get i d e
theorem wipe_set {σ : L2.St} {i : Nat} {x : Option V} : ∀ {vs : List Nat}, i ∈ vs → L2.wipe (σ.set i x) vs = L2.wipe σ vs
  | [], h => absurd h (by simp)
  | v :: vs, h => by
    unfold L2.wipe
    by_cases hv : i ∈ vs
    · rw [wipe_set hv]
    · have e : i = v := by simpa [hv] using h
      subst e
      clear h hv
      induction vs with
      | nil => unfold L2.wipe; rw [List.set_set]
      | cons w vs ih =>
        unfold L2.wipe
        by_cases hw : w = i
        · subst hw; rw [List.set_set, List.set_set]; exact ih
        · rw [List.set_comm _ _ hw, List.set_comm _ _ hw, ih]
theorem wipe_wipe : ∀ (vs : List Nat) (σ : L2.St), L2.wipe (L2.wipe σ vs) vs = L2.wipe σ vs := by
  have key : ∀ (us vs : List Nat) (σ : L2.St), (∀ u ∈ us, u ∈ vs) → L2.wipe (L2.wipe σ us) vs = L2.wipe σ vs := by
    intro us
    induction us with
    | nil => intro vs σ _; rfl
    | cons u us ih =>
      intro vs σ h
      show L2.wipe ((L2.wipe σ us).set u none) vs = _
      rw [wipe_set (h u (by simp)), ih vs σ fun x hx => h x (by simp [hx])]
  exact fun vs σ => key vs vs σ fun _ h => h
/-- a target of a comprehension by its slots -/
structure CLink (K : PySem.W.Frag) (vs : List Nat) (t : TG) (g : D → Envd → Option Envd) : Prop where
  go : ∀ (B : Bs) (env : Envd) (σ : L2.St) (W : Wd) (H : Hp) (M : Mem) (v : V) (d : D) (env2 : Envd) (Q : L2.St → Hp → Prop), Rl B K env σ W H M → Rep K W v d → g d env = some env2 →
    (∀ σ2, Rl B K env2 σ2 W H M → L2.wipe σ2 vs = L2.wipe σ vs → Q σ2 H) → t v σ H Q
def cSet (i : Nat) : D → Envd → Option Envd := fun d env => some (env.set i (some d))
def cPair (i j : Nat) : D → Envd → Option Envd := fun d env => match d with
  | .tup [x, y] => some ((env.set i (some x)).set j (some y))
  | _ => none
def cTrip (i j l : Nat) : D → Envd → Option Envd := fun d env => match d with
  | .tup [x, y, z] => some (((env.set i (some x)).set j (some y)).set l (some z))
  | _ => none
theorem clink_name {i : Nat} {vs : List Nat} (hi : i ∈ vs) : CLink K vs (gName i) (cSet i) := ⟨fun B env σ W H M v d env2 Q R r e k => by
  cases e
  exact k _ (R.set r i) (wipe_set hi)⟩
theorem clink_pair {i j : Nat} {vs : List Nat} (hi : i ∈ vs) (hj : j ∈ vs) : CLink K vs (gTup K 2 (gCons (gName i) (gCons (gName j) gNil))) (cPair i j) := ⟨fun B env σ W H M v d env2 Q R r e k => by
  unfold cPair at e
  split at e
  · cases e
    cases r with
    | tup h r =>
      cases r with
      | cons h1 r =>
        cases r with
        | cons h2 r =>
          cases r
          exact ⟨_, _, rfl, SqT.of (R.fit.fz _ _ h), rfl, _, _, rfl, _, _, rfl, rfl, k _ ((R.set h1 i).set h2 j) (by rw [wipe_set hj, wipe_set hi])⟩
  · cases e⟩
theorem clink_trip {i j l : Nat} {vs : List Nat} (hi : i ∈ vs) (hj : j ∈ vs) (hl : l ∈ vs) : CLink K vs (gTup K 3 (gCons (gName i) (gCons (gName j) (gCons (gName l) gNil)))) (cTrip i j l) := ⟨fun B env σ W H M v d env2 Q R r e k => by
  unfold cTrip at e
  split at e
  · cases e
    cases r with
    | tup h r =>
      cases r with
      | cons h1 r =>
        cases r with
        | cons h2 r =>
          cases r with
          | cons h3 r =>
            cases r
            exact ⟨_, _, rfl, SqT.of (R.fit.fz _ _ h), rfl, _, _, rfl, _, _, rfl, _, _, rfl, rfl, k _ (((R.set h1 i).set h2 j).set h3 l) (by rw [wipe_set hl, wipe_set hj, wipe_set hi])⟩
  · cases e⟩
/-- the turns of a comprehension -/
def cTurns (g : D → Envd → Option Envd) (u : WT) (w : WE) : List D → List D → Envd → Mem → (List D → Mem → Prop) → Prop
  | [], acc, _, M, Q => Q acc M
  | x :: xs, acc, env, M, Q => match g x env with
    | some env2 => u env2 M (fun b M2 => if b = true then w env2 M2 (fun d M3 => acc.length < sizeLine ∧ cTurns g u w xs (acc ++ [d]) env M3 Q) noE else cTurns g u w xs acc env M2 Q) noE
    | none => False
def fLc (vs : List Nat) (wi : WI) (g : D → Envd → Option Envd) (u : WT) (w : WE) : WF := fun env M Q E => wi env M (fun items M1 => cTurns g u w items [] (wipeD env vs) M1 Q) E
theorem Since.over (s : Since tb W H W' H') (h0 : Fre tb H p) : Since tb W H W' (upd H' p o) := by
  have ne : ∀ {a : Addr} {u : HO}, H a = some u → (tb = [] ∨ tblO u = false) → a ≠ p := fun {a u} h n z => h0 u (by rw [← z]; exact h) n
  refine ⟨s.le, fun a u h n t => by rw [upd_ne (ne h t)]; exact s.keep a u h n t, s.newf, s.newr, fun a u h n => ?_⟩
  obtain ⟨o', e, n'⟩ := s.there a u h n
  exact ⟨o', by rw [upd_ne (ne h n)]; exact e, n'⟩
theorem Rl.over {u : HO} (R : Rl B K env σ W H M) (h0 : Fre B.tb B.H p) (hr : p ∉ W.ro) (hz : W.fz p = none) (h1 : H p = some u) (hu : plainO u = true) : Rl B K env σ W (upd H p o) M :=
  ⟨⟨fun b x q => by rw [upd_ne (fun z => by rw [z, hz] at q; cases q)]; exact R.fit.fz b x q, R.fit.len, R.fit.nd,
    fun i b m q q2 => (R.fit.obj i b m q q2).stay (.refl _) (fun z => z) fun x e => by rw [upd_ne (fun z => hr (by rw [← z]; exact List.mem_of_getElem? q))]; exact e,
    fun b m => by
      obtain ⟨x, e, q⟩ := R.fit.here b m
      exact ⟨x, by rw [upd_ne (fun z => hr (by rw [← z]; exact m))]; exact e, q⟩, R.fit.nt⟩, R.env, R.sin.over h0, tabs_upd R.tabs (.inr ⟨u, h1, hu⟩)⟩
theorem Rl.tbne {u : HO} (R : Rl B K env σ W H M) (h1 : H p = some u) (hu : plainO u = true) : p ∉ B.tb.map (·.1) := fun m => by
  obtain ⟨q, hq, e⟩ := List.mem_map.mp m
  obtain ⟨ps, e1, _⟩ := R.tabs q hq
  rw [e, h1] at e1
  cases e1
  cases hu
/-- a comprehension's reading -/
theorem lc_read {X : Cx} {vs : List Nat} {wi : WI} {g : D → Envd → Option Envd} {t : TG} {u : WT} {w : WE} {E : ExK} {Q : VK} (L : CLink X.K vs t g) (h : tFD B X.K (fLc vs wi g u w) E σ H Q) : tLc (tID B X.K wi E) t (tTD B X.K u noE) (tD B X.K w noE) vs σ H Q := by
  obtain ⟨env, W, M, Q', R, q, k⟩ := h
  refine ⟨env, W, M, _, R, q, fun J H1 W1 M1 items R1 s1 it q1 => fun D hD => ?_⟩
  have h0 : Fre B.tb H D := s1.frees (fre_none hD)
  have hB : Fre B.tb B.H D := R.sin.frees h0
  obtain ⟨Rb, sb, zb, nb⟩ := R1.bare (o := .lst []) hD rfl
  refine ⟨fun i m H2 => m = items.length - i ∧ i ≤ items.length ∧ ∃ W2 M2 vsa acc, Rl B X.K env σ W2 H2 M2 ∧ Since B.tb W1 H1 W2 H2 ∧ H2 D = some (.lst vsa) ∧ D ∉ W2.ro ∧ W2.fz D = none ∧ Reps X.K W2 vsa acc ∧
    cTurns g u w (items.drop i) acc (wipeD env vs) M2 Q', ⟨_, rfl, Nat.zero_le _, W1, M1, [], [], Rb, sb, upd_same, nb, zb, .nil, by simpa using q1⟩, ?_⟩
  rintro i m H2 ⟨rfl, hi, W2, M2, vsa, acc, R2, s2, eD, nD, zD, ra, q2⟩
  obtain ⟨go, stop⟩ := it i env σ W2 H2 M2 R2 s2
  by_cases hlt : i < items.length
  · rw [List.drop_eq_getElem_cons hlt] at q2
    obtain ⟨hgo, yl⟩ := go _ (List.getElem?_eq_getElem hlt)
    refine .inr ⟨hgo, fun H' => ∃ W' M' vsa acc, Rl B X.K env σ W' H' M' ∧ Since B.tb W1 H1 W' H' ∧ H' D = some (.lst vsa) ∧ D ∉ W'.ro ∧ W'.fz D = none ∧ Reps X.K W' vsa acc ∧
      cTurns g u w (items.drop (i + 1)) acc (wipeD env vs) M' Q', fun H' h' => ⟨_, by omega, rfl, hlt, h'⟩, fun x H3 hy => ?_⟩
    obtain ⟨W3, R3, s3, r3⟩ := yl x H3 hy
    unfold cTurns at q2
    split at q2
    · rename_i env2 eg
      have Rw : Rl B X.K (wipeD env vs) (L2.wipe σ vs) W3 H3 M2 := ⟨R3.fit, R3.env.wipe vs, R3.sin, R3.tabs⟩
      refine L.go B _ _ W3 H3 M2 x _ env2 _ Rw r3 eg fun σ2 Rg hw => ⟨by rw [hw, wipe_wipe], ?_⟩
      -- the list through a step
      have stays : ∀ {Wa Wb : Wd} {Ha Hb : Hp}, Since B.tb Wa Ha Wb Hb → Ha D = some (.lst vsa) → D ∉ Wa.ro → Wa.fz D = none → Hb D = some (.lst vsa) ∧ D ∉ Wb.ro ∧ Wb.fz D = none := fun {Wa Wb Ha Hb} s e n z => by
        refine ⟨s.keep D _ e n (.inr rfl), fun m => ?_, ?_⟩
        · rcases s.newr D m with m | m
          · exact n m
          · exact m _ e (.inr rfl)
        · cases q : Wb.fz D with
          | none => rfl
          | some y =>
            rcases s.newf D y q with h | h | h | ⟨xs, hy, h⟩
            · rw [z] at h; cases h
            · exact absurd (.inr rfl) (h _ e)
            · exact absurd h n
            · rw [e] at h; cases h; cases hy
      obtain ⟨e3, n3, z3⟩ := stays s3 eD nD zD
      refine ⟨env2, W3, M2, _, Rg, q2, fun b H4 W4 M4 R4 s4 q4 => ?_⟩
      obtain ⟨e4, n4, z4⟩ := stays s4 e3 n3 z3
      have s34 := s3.trans s4
      cases b with
      | false =>
        exact ⟨W4, M4, vsa, acc, ⟨R4.fit, R.env.mono ((s1.trans s2).trans s34).le, R4.sin, R4.tabs⟩, s2.trans s34, e4, n4, z4, Reps.mono s34.le _ _ ra, q4⟩
      | true =>
        refine ⟨env2, W4, M4, _, R4, q4, fun y H5 W5 d M5 R5 s5 r5 q5 => ?_⟩
        obtain ⟨e5, n5, z5⟩ := stays s5 e4 n4 z4
        have s35 := s34.trans s5
        have R5' : Rl B X.K env σ W5 H5 M5 := ⟨R5.fit, R.env.mono ((s1.trans s2).trans s35).le, R5.sin, R5.tabs⟩
        refine ⟨vsa, e5, by rw [ra.length]; exact q5.1, W5, M5, _, acc ++ [d], R5'.over hB n5 z5 e5 rfl, (s2.trans s35).over (fre_none hD), upd_same, n5, z5, (Reps.mono s35.le _ _ ra).append (.cons r5 .nil), q5.2⟩
    · exact q2.elim
  · have e : items.drop i = [] := List.drop_eq_nil_of_le (by omega)
    rw [e] at q2
    exact .inl ⟨stop (by omega), k D vsa H2 W2 acc M2 R2 (s1.trans s2) h0 eD zD nD ra q2⟩
end
section
variable {X : Cx} {B : Bs} {elt tg iter : Expr} {ifs : List Expr} {w : WE} {u : WT} {wi : WI} {pos : Pos}
def DTs (X : Cx) (B : Bs) (ifs : List Expr) (u : WT) : Prop := ∀ E, TakesD X B E → PTs X ifs (tTD B X.K u E)
def uYes : WT := fun _ M Q _ => Q true M
theorem dts_nil : DTs X B [] uYes := fun E tk => ⟨fun pins s σ H Q I h => by
  obtain ⟨env, W, M, Q', R, q, k⟩ := h
  exact pts_nil.run pins s σ H Q I (k true H W M R .refl q)⟩
theorem dts_one {c : Expr} (h : DT X B c u) : DTs X B [c] u := fun E tk => pts_one (h E tk)
theorem takes_blk {X : Cx} {B : Bs} {s : Shared} {H : Hp} {scope : Scope} {cenv : Env} {fp : List Addr} : TakesD (X.blk s H scope cenv fp) B noE := takesN0.imp fun c d σ H h => by
  obtain ⟨W, M, x, _, _, _, _, q⟩ := h
  exact q.elim
abbrev blkE (X : Cx) (scope : Scope) (s : Shared) (H : Hp) (C : Addr) (cl : List (Str × Addr)) (fp : List Addr) : Cx := X.blk s H scope (compEnvC scope cl C X.env) fp
theorem df_lc {scope : Scope} {own : List (Str × Nat)} {t : TG} {g : D → Envd → Option Envd} (hc : X.calm = true) (hN : X.N.Nodup) (hi : DI X B tg iter wi) (ok : BlkOk X.N X.env.scope scope own) (L : CLink X.K (own.map (·.2)) t g)
    (hg : ∀ (s : Shared) (H : Hp) (C : Addr) (cl : List (Str × Addr)) (fp : List Addr), PG (blkE X scope s H C cl fp) tg t) (ht : ∀ (s : Shared) (H : Hp) (C : Addr) (cl : List (Str × Addr)) (fp : List Addr), DTs (blkE X scope s H C cl fp) B ifs u)
    (he : ∀ (s : Shared) (H : Hp) (C : Addr) (cl : List (Str × Addr)) (fp : List Addr), DE (blkE X scope s H C cl fp) B elt w) (hs : ∀ x, foldedSetIterable iter X.env x = pure x := by intro _; rfl) :
    DF X B (.ListComp elt [⟨tg, iter, ifs, 0⟩] scope pos) (fLc (own.map (·.2)) wi g u w) := fun E tk =>
  (pe_lc hc hN (hi E tk) ok hg (fun s H C cl fp => ht s H C cl fp noE takes_blk) (fun s H C cl fp => he s H C cl fp noE takes_blk) hs).imp fun σ H Q h => lc_read L h
theorem tFD_fz {K : PySem.W.Frag} {wf : WF} {E : ExK} {σ : L2.St} {H : Hp} {Q : VK} (h : tD B K (wFz wf) E σ H Q) : tFD B K wf E σ H Q := by
  obtain ⟨env, W, M, Q', R, q, k⟩ := h
  refine ⟨env, W, M, _, R, q, fun p vs H' W' ds M' R' s' h0 h1 hz hr r q' => ?_⟩
  obtain ⟨R2, s2⟩ := Rl.adoptF R R' s' h0 h1 hz hr
  exact k _ _ _ _ _ R2 s2 (.lst upd_same (Reps.mono (.add hz) _ _ r)) q'
theorem tFD_st {K : PySem.W.Frag} {wf : WF} {E : ExK} {σ : L2.St} {H : Hp} {Q : VK} (h : tD B K (wSt wf) E σ H Q) : tFD B K wf E σ H Q := by
  obtain ⟨env, W, M, Q', R, q, k⟩ := h
  refine ⟨env, W, M, _, R, q, fun p vs H' W' ds M' R' s' h0 h1 hz hr r q' => ?_⟩
  obtain ⟨R2, s2⟩ := Rl.adoptR (m := .lst ds) R R' s' h0 h1 rfl hr ⟨hz, vs, h1, Reps.mono .more _ _ r⟩
  refine k _ _ _ _ _ R2 s2 (.ref ?_) q'
  show (W'.ro ++ [p])[M'.length]? = some p
  rw [← R'.fit.len, List.getElem?_append_right (Nat.le_refl _)]
  simp
/-- y = [..], y a local -/
theorem ds_setLc {i : Nat} {y : Str} {py spos : Pos} {scope : Scope} {own : List (Str × Nat)} {t : TG} {g : D → Envd → Option Envd} (hc : X.calm = true) (hN : X.N.Nodup) (hy : X.N[i]? = some y) (hyl : X.env.scope.names.lookup y = some .local)
    (hsw : swapsWith (.ListComp elt [⟨tg, iter, ifs, 0⟩] scope pos) (some (.Name y py)) spos.line X.env = pure true) (hi : DI X B tg iter wi) (ok : BlkOk X.N X.env.scope scope own) (L : CLink X.K (own.map (·.2)) t g)
    (hg : ∀ (s : Shared) (H : Hp) (C : Addr) (cl : List (Str × Addr)) (fp : List Addr), PG (blkE X scope s H C cl fp) tg t) (ht : ∀ (s : Shared) (H : Hp) (C : Addr) (cl : List (Str × Addr)) (fp : List Addr), DTs (blkE X scope s H C cl fp) B ifs u)
    (he : ∀ (s : Shared) (H : Hp) (C : Addr) (cl : List (Str × Addr)) (fp : List Addr), DE (blkE X scope s H C cl fp) B elt w) (hs : ∀ x, foldedSetIterable iter X.env x = pure x := by intro _; rfl) :
    DS X B (.Assign [.Name y py] (.ListComp elt [⟨tg, iter, ifs, 0⟩] scope pos) spos) (sSet i (wFz (fLc (own.map (·.2)) wi g u w))) := fun E tk =>
  (ps_setLc hc hN hy hyl hsw (hi E tk) ok hg (fun s H C cl fp => ht s H C cl fp noE takes_blk) (fun s H C cl fp => he s H C cl fp noE takes_blk) hs).imp fun D σ H h => by
    obtain ⟨env, W, M, D', R, q, k1, k2, k3, k4⟩ := h
    exact lc_read L (tFD_fz ⟨env, W, M, _, R, q, fun v H1 W1 d M1 R1 s1 r1 q1 => k1 _ _ _ _ _ (R1.set r1 i) s1 q1⟩)
theorem ds_setLcR {i : Nat} {y : Str} {py spos : Pos} {scope : Scope} {own : List (Str × Nat)} {t : TG} {g : D → Envd → Option Envd} (hc : X.calm = true) (hN : X.N.Nodup) (hy : X.N[i]? = some y) (hyl : X.env.scope.names.lookup y = some .local)
    (hsw : swapsWith (.ListComp elt [⟨tg, iter, ifs, 0⟩] scope pos) (some (.Name y py)) spos.line X.env = pure true) (hi : DI X B tg iter wi) (ok : BlkOk X.N X.env.scope scope own) (L : CLink X.K (own.map (·.2)) t g)
    (hg : ∀ (s : Shared) (H : Hp) (C : Addr) (cl : List (Str × Addr)) (fp : List Addr), PG (blkE X scope s H C cl fp) tg t) (ht : ∀ (s : Shared) (H : Hp) (C : Addr) (cl : List (Str × Addr)) (fp : List Addr), DTs (blkE X scope s H C cl fp) B ifs u)
    (he : ∀ (s : Shared) (H : Hp) (C : Addr) (cl : List (Str × Addr)) (fp : List Addr), DE (blkE X scope s H C cl fp) B elt w) (hs : ∀ x, foldedSetIterable iter X.env x = pure x := by intro _; rfl) :
    DS X B (.Assign [.Name y py] (.ListComp elt [⟨tg, iter, ifs, 0⟩] scope pos) spos) (sSet i (wSt (fLc (own.map (·.2)) wi g u w))) := fun E tk =>
  (ps_setLc hc hN hy hyl hsw (hi E tk) ok hg (fun s H C cl fp => ht s H C cl fp noE takes_blk) (fun s H C cl fp => he s H C cl fp noE takes_blk) hs).imp fun D σ H h => by
    obtain ⟨env, W, M, D', R, q, k1, k2, k3, k4⟩ := h
    exact lc_read L (tFD_st ⟨env, W, M, _, R, q, fun v H1 W1 d M1 R1 s1 r1 q1 => k1 _ _ _ _ _ (R1.set r1 i) s1 q1⟩)
end
end L3
set_option maxRecDepth 100000
set_option maxHeartbeats 4000000
/-! L3F0: min of two values whose order the state decides. -/
namespace L3
open PySem PySem.Spec PyProof.Rows L2
section
variable {prog : Program} {w : World} {A : Around} {E : Value → Shared → Prop} {s : Shared}
theorem min_two_by {a b : Value} {bt : Bool} {Q : Value → Shared → Prop} (hh : A.handled = none)
    (cmp : ∀ (s' : Shared) (Q : Value → Shared → Prop) (E : Value → Shared → Prop), (∀ c o, s.heap.get? c = some o → s'.heap.get? c = some o) → Q (.bool bt) s' → wpAny (model prog w) A.in1 (richCompare .Lt b a) Q E s')
    (h : ∀ h' tk, (∀ c o, s.heap.get? c = some o → h'.get? c = some o) → Q (if bt = true then b else a) { s with heap := h', toks := tk }) : wpAny (model prog w) A (call (.builtin "min") [a, b]) Q E s := by
  have hl : (toString "min" ++ toString ".loop" : String) = "min.loop" := by decide
  refine call_function_tree F.kind_min F.plain_min F.entry_min (F.args_min2 a b) ?_
  show wpAny (model prog w) A.in1 (Builtin.Builtins.bindParams "min" ["key", "default"] 0 ⟨[], []⟩ >>= _) _ _ s
  refine wpAny_bind (wpAny_of_eq (rfl : Builtin.Builtins.bindParams "min" ["key", "default"] 0 ⟨[], []⟩ = pure [none, none]) ?_)
  show wpAny (model prog w) A.in1 (newTuple [a, b] >>= _) _ _ s
  refine wpAny_bind (wpAny_newObj_type ?_)
  generalize hT : s.heap.objs.size = T
  generalize h1 : s.heap.push { cls := .type "tuple", data := .seq [a, b].toArray } = g1
  have k1 : ∀ c o, s.heap.get? c = some o → g1.get? c = some o := fun c o e => by rw [← h1]; exact Heap.get?_push_of_some _ e
  have t1 : g1.get? T = some { cls := .type "tuple", data := .seq [a, b].toArray } := by rw [← h1, ← hT]; exact Heap.get?_push_size _ rfl
  have z1 : g1.objs.size = T + 1 := by rw [← h1, Heap.size_push, hT]
  refine wpAny_bind (wpAny_pyIter_tuple (items := [a, b].toArray) ⟨_, t1, rfl, 0, rfl⟩ ?_)
  show wpAny (model prog w) A.in1 _ _ _ _
  generalize hI : g1.objs.size = I
  generalize h2 : g1.push { cls := .type "tuple_iterator", data := .fields #[.ref T, .int 0 0] } = g2
  have k2 : ∀ c o, g1.get? c = some o → g2.get? c = some o := fun c o e => by rw [← h2]; exact Heap.get?_push_of_some _ e
  have i2 : g2.get? I = some { cls := .type "tuple_iterator", data := .fields #[.ref T, .int 0 0] } := by rw [← h2, ← hI]; exact Heap.get?_push_size _ rfl
  have z2 : g2.objs.size = I + 1 := by rw [← h2, Heap.size_push, hI]
  have neTI : T ≠ I := by omega
  have W := Walks.tuple (prog := prog) (w := w) (A := A.in1) hh I T neTI [a, b].toArray
  have st2 : g2.IsTupleIter I T 0 ∧ g2.IsTuple T [a, b].toArray := ⟨⟨_, i2, rfl, rfl⟩, ⟨_, k2 _ _ t1, rfl, 0, rfl⟩⟩
  refine wpAny_bind (wpAny_newObj_type ?_)
  generalize hS : g2.objs.size = S
  generalize h3 : g2.push { cls := .type "list", data := .seq #[] } = g3
  have k3 : ∀ c o, g2.get? c = some o → g3.get? c = some o := fun c o e => by rw [← h3]; exact Heap.get?_push_of_some _ e
  have s3 : g3.get? S = some { cls := .type "list", data := .seq #[] } := by rw [← h3, ← hS]; exact Heap.get?_push_size _ rfl
  have st3 := W.frame 0 g2 g3 st2 fun c _ o e => k3 c o e
  have neS : S ∉ [I] := by simp; omega
  have neST : S ≠ T ∧ S ≠ I := by omega
  have old : ∀ c o, s.heap.get? c = some o → c ≠ S ∧ c ∉ [I] ∧ g3.get? c = some o := fun c o e => by
    have hc : c < T := by rw [← hT]; exact Heap.lt_size e
    have l1 : T < I := by omega
    have l2 : T < S := by omega
    exact ⟨Nat.ne_of_lt (Nat.lt_trans hc l2), by simp; exact Nat.ne_of_lt (Nat.lt_trans hc l1), k3 c o (k2 c o (k1 c o e))⟩
  rw [hl]
  refine wpAny_pure ⟨plainId_quiet F.plain_min_loop _, ?_⟩
  -- the first turn: a
  refine codeAny_builtin F.entry_min_loop ?_
  rw [Around.under_plainId F.plain_min_loop]
  show wpAny (model prog w) A.in1 (seqItems? (.ref S) >>= _) _ _ _
  refine wpAny_bind (wpAny_seqItems s3 rfl ?_)
  show wpAny (model prog w) A.in1 (tryCatch (pyNext (.ref I)) _ >>= _) _ _ _
  refine wpAny_bind (wpAny_tryCatch (W.item 0 ⟨g3, s.gens, s.drawn, s.toks, s.os⟩ _ _ (show 0 < 2 by decide) st3 fun v g4 tk4 hv st4 k4 => ?_))
  obtain rfl : a = v := by simpa using hv
  have s4 := k4 S _ neS s3
  show wpAny (model prog w) A.in1 (updateSeq S (fun _ => #[a, a]) >>= _) _ _ _
  refine wpAny_bind ?_
  refine wpAny_updateSeq s4 rfl ?_
  rw [hl]
  refine wpAny_pure ⟨plainId_quiet F.plain_min_loop _, ?_⟩
  have s5 := Heap.get?_update_self (Obj.mapSeq fun _ => #[a, a]) s4 rfl
  dsimp only at s5 ⊢
  generalize h5 : g4.update S (Obj.mapSeq fun _ => #[a, a]) = g5 at s5 ⊢
  have st5 := W.frame 1 g4 g5 st4 fun c hc o e => by
    rw [← h5]
    refine (Heap.get?_update_other _ _ (fun z : S = c => ?_)).trans e
    have hc' : S ∈ [I, T] := by rw [z]; exact hc
    simp at hc'
    exact hc'.elim neST.2 neST.1
  have k5 : ∀ c o, s.heap.get? c = some o → g5.get? c = some o := fun c o e => by
    obtain ⟨n1, n2, e3⟩ := old c o e
    rw [← h5]
    exact (Heap.get?_update_other _ _ (Ne.symm n1)).trans (k4 c o n2 e3)
  -- the second turn: b
  refine codeAny_builtin F.entry_min_loop ?_
  rw [Around.under_plainId F.plain_min_loop]
  show wpAny (model prog w) A.in1 (seqItems? (.ref S) >>= _) _ _ _
  refine wpAny_bind (wpAny_seqItems s5 rfl ?_)
  show wpAny (model prog w) A.in1 (tryCatch (pyNext (.ref I)) _ >>= _) _ _ _
  refine wpAny_bind (wpAny_tryCatch (W.item 1 ⟨g5, s.gens, s.drawn, tk4, s.os⟩ _ _ (show 1 < 2 by decide) st5 fun v g6 tk6 hv st6 k6 => ?_))
  obtain rfl : b = v := by simpa using hv
  have s6 := k6 S _ neS s5
  have k6' : ∀ c o, s.heap.get? c = some o → g6.get? c = some o := fun c o e => k6 c o (old c o e).2.1 (k5 c o e)
  show wpAny (model prog w) A.in1 (tryCatch (holding [b, b] (richCompare .Lt b a >>= _)) _ >>= _) _ _ _
  refine wpAny_bind (wpAny_tryCatch (wpAny_holding (wpAny_bind (cmp _ _ _ k6' ?_))))
  refine wpAny_bind (wpAny_holding (wpAny_truthy_bool ?_))
  refine wpAny_bind (wpAny_letGo (wpAny_pure ?_))
  -- the last turn
  have last : ∀ (R : Result → Shared → Prop) (g : Heap) (tk : Nat) (x : Value) (c : Nat), g.get? S = some { cls := .type "list", data := .seq #[x, x] c } → (g.IsTupleIter I T 2 ∧ g.IsTuple T [a, b].toArray) → (∀ c o, s.heap.get? c = some o → g.get? c = some o) →
      (∀ h' tk, (∀ c o, s.heap.get? c = some o → h'.get? c = some o) → R (.ok (.ret x)) { s with heap := h', toks := tk }) →
      codeAny (model prog w) A (.builtin "min.loop" ⟨[.ref I, .none, .ref S], []⟩) R ⟨g, s.gens, s.drawn, tk, s.os⟩ := by
    intro R g tk x c sg stg kg hq
    refine codeAny_builtin F.entry_min_loop ?_
    rw [Around.under_plainId F.plain_min_loop]
    show wpAny (model prog w) A.in1 (seqItems? (.ref S) >>= _) _ _ _
    refine wpAny_bind (wpAny_seqItems sg rfl ?_)
    show wpAny (model prog w) A.in1 (tryCatch (pyNext (.ref I)) _ >>= _) _ _ _
    refine wpAny_bind (wpAny_tryCatch (W.done ⟨g, s.gens, s.drawn, tk, s.os⟩ _ _ stg fun g' tk' kg' => ?_))
    have sg' := kg' S _ neS sg
    show wpAny (model prog w) A.in1 (updateSeq S (fun _ => #[]) >>= _) _ _ _
    refine wpAny_bind (wpAny_updateSeq sg' rfl (wpAny_bind (wpAny_letGo (wpAny_pure ?_))))
    exact hq _ tk' fun c o e => (Heap.get?_update_other _ _ (Ne.symm (old c o e).1)).trans (kg' c o (old c o e).2.1 (kg c o e))
  cases bt with
  | true =>
    simp only [if_true]
    refine wpAny_bind ?_
    refine wpAny_updateSeq s6 rfl (wpAny_bind (wpAny_letGo ?_))
    rw [hl]
    refine wpAny_pure ⟨plainId_quiet F.plain_min_loop _, ?_⟩
    have s7 := Heap.get?_update_self (Obj.mapSeq fun _ => #[b, b]) s6 rfl
    have st7 := W.frame 2 g6 (g6.update S (Obj.mapSeq fun _ => #[b, b])) st6 fun c hc o e => by
      refine (Heap.get?_update_other _ _ (fun z : S = c => ?_)).trans e
      have hc' : S ∈ [I, T] := by rw [z]; exact hc
      simp at hc'
      exact hc'.elim neST.2 neST.1
    exact last _ _ _ b _ s7 st7 (fun c o e => (Heap.get?_update_other _ _ (Ne.symm (old c o e).1)).trans (k6' c o e)) fun h' tk k => h h' tk k
  | false =>
    simp only [Bool.false_eq_true, if_false]
    refine wpAny_bind (wpAny_letGo ?_)
    rw [hl]
    refine wpAny_pure ⟨plainId_quiet F.plain_min_loop _, ?_⟩
    exact last _ _ _ a _ s6 st6 k6' fun h' tk k => h h' tk k
end
section
variable {X : Cx}
/-- min of two tuples of ints -/
theorem call_minT (hc : X.calm = true) (hu : X.A.units + 1 < cLine) : CallR X (.builtin "min") (fun xs H Q => ∃ (a b : Addr) (ns ms : List Int), xs = [.ref a, .ref b] ∧ H a = some (.tup (ns.map V.int)) ∧ H b = some (.tup (ms.map V.int)) ∧ Q (.ref (if HT.lexLt ms ns = true then b else a)) H) := by
  intro pins s σ H xs us Q I r h
  obtain ⟨a, b, ns, ms, rfl, ha, hb, q⟩ := h
  obtain ⟨u1, u2, rfl, r1, r2⟩ := vals2 r
  cases r1
  cases r2
  obtain ⟨its, rv, pt, _⟩ := I.tuple (SqT.of ha)
  obtain ⟨its2, rv2, pt2, _⟩ := I.tuple (SqT.of hb)
  refine min_two_by (bt := HT.lexLt ms ns) (I.ok.hd hc) (fun s' Q E k q => ?_) fun h' tk k => ?_
  · obtain ⟨o, e, z⟩ := pt
    obtain ⟨o2, e2, z2⟩ := pt2
    exact HT.lt_tupInts (A := X.A.in1) (l := b) (b := a) ⟨o2, k _ _ e2, z2⟩ ⟨o, k _ _ e, z⟩ (by simpa using rv2.ints) (by simpa using rv.ints) hu q
  · refine ⟨_, H, I.kept k, ?_, q⟩
    cases HT.lexLt ms ns <;> rfl
end
end L3
set_option maxRecDepth 100000
set_option maxHeartbeats 4000000
/-! L3F: built-ins by name, isinstance, membership, slices, methods. -/
namespace L3
open PySem PySem.Spec PyProof.Rows L2
section
variable {X : Cx} {B : Bs} {e a b c : Expr} {es : List Expr} {w wa wb wc : WE} {u : WT} {z : WA} {pos : Pos}

/-! ### built-ins by values -/
abbrev OcD := List D → Mem → (D → Prop) → Prop
def LiftC (B : Bs) (K : PySem.W.Frag) (r : List V → Hp → VK → Prop) (o : OcD) : Prop :=
  ∀ (env : Envd) (σ : L2.St) (W : Wd) (H : Hp) (M : Mem) (vs : List V) (ds : List D) (Q : VK) (Q' : D → Prop), Rl B K env σ W H M → Reps K W vs ds → o ds M Q' →
    (∀ v H' W' d, Rl B K env σ W' H' M → Since B.tb W H W' H' → Rep K W' v d → Q' d → Q v H') → r vs H Q
def wB (o : OcD) (z : WA) : WE := fun env M Q E => z env M (fun ds M1 => o ds M1 fun d => Q d M1) E
theorem tcb_lift {r : List V → Hp → VK → Prop} {o : OcD} {K : PySem.W.Frag} (hl : LiftC B K r o) {E : ExK} {σ : L2.St} {H : Hp} {Q : VK} (h : tD B K (wB o z) E σ H Q) : tCB r (tAD B K z E) σ H Q := by
  obtain ⟨env, W, M, Q', R, q, k⟩ := h
  refine ⟨env, W, M, _, R, q, fun vs H1 W1 ds M1 R1 s1 r1 q1 => ?_⟩
  exact hl env σ W1 H1 M1 vs ds Q _ R1 r1 q1 fun v H2 W2 d R2 s2 r2 q2 => k v H2 W2 d M1 R2 (s1.trans s2) r2 q2
theorem de_blt {x : Str} {p : Pos} {id : String} {r : List V → Hp → VK → Prop} {o : OcD} (hc : CallR X (.builtin id) r) (hl : LiftC B X.K r o) (hg : Gl X x) (hm : X.mg x = none) (hv : bootBuiltins x = some (.builtin id)) (ha : DA X B (e :: es) z) (hn : x ≠ "__name__" := by decide) (hdb : (x == ("__debug__" : Str)) = false := by decide)
    (he : starEach (e :: es) X.env = (false, eval e X.env) :: starEach es X.env := by rfl) (hpl : (backTo pos (starEach es X.env)).any (·.1) = false := by rfl) : DE X B (.Call (.Name x p) (e :: es) [] pos) (wB o z) := fun E tk =>
  (pe_callB hc hg hm hv (ha E tk) hn hdb he hpl).imp fun σ H Q h => tcb_lift hl h
theorem de_bty {x : Str} {p : Pos} {T : String} {r : List V → Hp → VK → Prop} {o : OcD} (hc : CallR X (.type T) r) (hl : LiftC B X.K r o) (hg : Gl X x) (hm : X.mg x = none) (hv : bootBuiltins x = some (.type T)) (ha : DA X B (e :: es) z) (hn : x ≠ "__name__" := by decide) (hdb : (x == ("__debug__" : Str)) = false := by decide)
    (he : starEach (e :: es) X.env = (false, eval e X.env) :: starEach es X.env := by rfl) (hpl : (backTo pos (starEach es X.env)).any (·.1) = false := by rfl) : DE X B (.Call (.Name x p) (e :: es) [] pos) (wB o z) := fun E tk =>
  (pe_callTy hc hg hm hv (ha E tk) hn hdb he hpl).imp fun σ H Q h => tcb_lift hl h
/-- len -/
def lenD : D → Option Nat
  | .str x => some x.length
  | .tup ds => some ds.length
  | .lst ds => some ds.length
  | .scr ns => some ns.length
  | _ => none
def oLen : OcD := fun ds M Q => match ds with
  | [d] => match seeD M d with
    | .str x => x.length ≤ sizeLine ∧ Q (.int (x.length : Nat))
    | .tup xs => Q (.int (xs.length : Nat))
    | .lst xs => Q (.int (xs.length : Nat))
    | .scr ns => Q (.int (ns.length : Nat))
    | _ => False
  | _ => False
theorem lift_len {K : PySem.W.Frag} : LiftC B K (fun xs H Q => ∃ x n, xs = [x] ∧ LenV K x H n ∧ Q (.int n) H) oLen := by
  intro env σ W H M vs ds Q Q' R rs q k
  dsimp only [oLen] at q
  split at q
  · rename_i d
    cases rs with
    | cons r rr =>
      cases rr
      split at q
      · rename_i x e
        obtain rfl := seeD_ne e (fun _ z => nomatch z) (fun _ z => nomatch z)
        cases r
        exact ⟨_, _, rfl, ⟨q.1, rfl⟩, k _ _ _ _ R .refl (.int _) q.2⟩
      · rename_i x e
        obtain rfl := seeD_ne e (fun _ z => nomatch z) (fun _ z => nomatch z)
        obtain ⟨p, xs, rfl, e1, _, r1⟩ := tup_at R r
        exact ⟨_, _, rfl, .inr ⟨xs, SqT.of e1, rfl⟩, k _ _ _ _ R .refl (.int _) (by rw [r1.length]; exact q)⟩
      · rename_i x e
        obtain ⟨p, xs, rfl, e1, r1⟩ := seeD_lst R r e
        exact ⟨_, _, rfl, .inl ⟨xs, SqL.of e1, rfl⟩, k _ _ _ _ R .refl (.int _) (by rw [r1.length]; exact q)⟩
      · rename_i ns e
        obtain rfl := seeD_ne e (fun _ z => nomatch z) (fun _ z => nomatch z)
        cases r with
        | scr h => exact ⟨_, _, rfl, .inl ⟨_, sqL_mono R.fit.fz h, rfl⟩, k _ _ _ _ R .refl (.int _) (by rw [List.length_map]; exact q)⟩
      · exact q.elim
  · exact q.elim
theorem de_len {p : Pos} (hg : Gl X "len") (hm : X.mg "len" = none) (ha : DA X B [a] z) (he : starEach [a] X.env = (false, eval a X.env) :: starEach [] X.env := by rfl) : DE X B (.Call (.Name "len" p) [a] [] pos) (wB oLen z) :=
  de_blt call_len lift_len hg hm PySem.boot_len ha (he := he) (hpl := rfl)
/-- abs, int, str, bool -/
def oAbs : OcD := fun ds _ Q => match ds with
  | [.int i] => Q (.int (if i < 0 then -i else i))
  | _ => False
theorem lift_abs {K : PySem.W.Frag} : LiftC B K (fun xs H Q => ∃ i, xs = [.int i] ∧ Q (.int (if i < 0 then -i else i)) H) oAbs := by
  intro env σ W H M vs ds Q Q' R rs q k
  dsimp only [oAbs] at q
  split at q
  · cases rs with
    | cons r rr =>
      cases rr
      cases r
      exact ⟨_, rfl, k _ _ _ _ R .refl (.int _) q⟩
  · exact q.elim
theorem de_abs {p : Pos} (hg : Gl X "abs") (hm : X.mg "abs" = none) (ha : DA X B [a] z) (he : starEach [a] X.env = (false, eval a X.env) :: starEach [] X.env := by rfl) : DE X B (.Call (.Name "abs" p) [a] [] pos) (wB oAbs z) :=
  de_blt call_abs lift_abs hg hm (by decide +kernel) ha (he := he) (hpl := rfl)
def oInt : OcD := fun ds _ Q => match ds with
  | [.int i] => Q (.int i)
  | [.bl k] => Q (.int (if k = true then 1 else 0))
  | [.str x] => x.length ≤ 640 ∧ match PySem.intText? x with
    | some n => Q (.int n)
    | none => False
  | _ => False
theorem lift_int {K : PySem.W.Frag} : LiftC B K (fun xs H Q => ((∃ i, xs = [.int i] ∧ Q (.int i) H) ∨ ∃ k : Bool, xs = [.bl k] ∧ Q (.int (if k then 1 else 0)) H) ∨ ∃ a n, xs = [.str a] ∧ PySem.intText? a = some n ∧ a.length ≤ 640 ∧ Q (.int n) H) oInt := by
  intro env σ W H M vs ds Q Q' R rs q k
  dsimp only [oInt] at q
  split at q
  · cases rs with
    | cons r rr =>
      cases rr
      cases r
      exact .inl (.inl ⟨_, rfl, k _ _ _ _ R .refl (.int _) q⟩)
  · cases rs with
    | cons r rr =>
      cases rr
      cases r
      exact .inl (.inr ⟨_, rfl, k _ _ _ _ R .refl (.int _) q⟩)
  · cases rs with
    | cons r rr =>
      cases rr
      cases r
      obtain ⟨hz, q⟩ := q
      split at q
      · rename_i n en
        exact .inr ⟨_, n, rfl, en, hz, k _ _ _ _ R .refl (.int _) q⟩
      · exact q.elim
  · exact q.elim
theorem de_intc {p : Pos} (hg : Gl X "int") (hm : X.mg "int" = none) (ha : DA X B [a] z) (he : starEach [a] X.env = (false, eval a X.env) :: starEach [] X.env := by rfl) : DE X B (.Call (.Name "int" p) [a] [] pos) (wB oInt z) :=
  de_bty (CallR.or call_int1 call_int_str) lift_int hg hm (by decide +kernel) ha (he := he) (hpl := rfl)
def oStr : OcD := fun ds _ Q => match ds with
  | [.int i] => i.natAbs.log2 < 1920 ∧ Q (.str (toString i))
  | _ => False
theorem lift_str {K : PySem.W.Frag} : LiftC B K (fun xs H Q => ∃ i : Int, xs = [.int i] ∧ i.natAbs.log2 < 1920 ∧ Q (.str (toString i)) H) oStr := by
  intro env σ W H M vs ds Q Q' R rs q k
  dsimp only [oStr] at q
  split at q
  · cases rs with
    | cons r rr =>
      cases rr
      cases r
      exact ⟨_, rfl, q.1, k _ _ _ _ R .refl (.str _) q.2⟩
  · exact q.elim
theorem de_strc {p : Pos} (hg : Gl X "str") (hm : X.mg "str" = none) (ha : DA X B [a] z) (he : starEach [a] X.env = (false, eval a X.env) :: starEach [] X.env := by rfl) : DE X B (.Call (.Name "str" p) [a] [] pos) (wB oStr z) :=
  de_bty call_str_int lift_str hg hm (by decide +kernel) ha (he := he) (hpl := rfl)
/-- max, min of two ints; min of two tuples of two ints -/
def oMax2 : OcD := fun ds _ Q => match ds with
  | [.int i, .int j] => Q (.int (if j > i then j else i))
  | _ => False
theorem de_max2 {p : Pos} (hc : X.calm = true) (hg : Gl X "max") (hm : X.mg "max" = none) (ha : DA X B [a, b] z) (he : starEach [a, b] X.env = (false, eval a X.env) :: starEach [b] X.env := by rfl) (hpl : (backTo pos (starEach [b] X.env)).any (·.1) = false := by rfl) : DE X B (.Call (.Name "max" p) [a, b] [] pos) (wB oMax2 z) :=
  de_blt (call_max2 hc) (fun env σ W H M vs ds Q Q' R rs q k => by
    dsimp only [oMax2] at q
    split at q
    · cases rs with
      | cons r rr =>
        cases rr with
        | cons r2 rr =>
          cases rr
          cases r
          cases r2
          exact ⟨_, _, rfl, k _ _ _ _ R .refl (.int _) q⟩
    · exact q.elim) hg hm (by decide +kernel) ha (he := he) (hpl := hpl)
def ltP (i j m n : Int) : Bool := if i = m then decide (j < n) else decide (i < m)
def oMin2 : OcD := fun ds _ Q => match ds with
  | [.int i, .int j] => Q (.int (if j < i then j else i))
  | [.tup [.int i, .int j], .tup [.int m, .int n]] => Q (if ltP m n i j = true then .tup [.int m, .int n] else .tup [.int i, .int j])
  | _ => False
theorem reps_pair {K : PySem.W.Frag} {W : Wd} {xs : List V} {i j : Int} (r : Reps K W xs [.int i, .int j]) : xs = [i, j].map V.int := by
  cases r with
  | cons h r =>
    cases r with
    | cons h2 r =>
      cases r
      cases h
      cases h2
      rfl
theorem de_min2 {p : Pos} (hc : X.calm = true) (hu : X.A.units + 1 < cLine) (hg : Gl X "min") (hm : X.mg "min" = none) (ha : DA X B [a, b] z) (he : starEach [a, b] X.env = (false, eval a X.env) :: starEach [b] X.env := by rfl) (hpl : (backTo pos (starEach [b] X.env)).any (·.1) = false := by rfl) : DE X B (.Call (.Name "min" p) [a, b] [] pos) (wB oMin2 z) :=
  de_blt (CallR.or (call_min2 hc) (call_minT hc hu)) (fun env σ W H M vs ds Q Q' R rs q k => by
    dsimp only [oMin2] at q
    split at q
    · cases rs with
      | cons r rr =>
        cases rr with
        | cons r2 rr =>
          cases rr
          cases r
          cases r2
          exact .inl ⟨_, _, rfl, k _ _ _ _ R .refl (.int _) q⟩
    · rename_i i j m n
      cases rs with
      | cons r rr =>
        cases rr with
        | cons r2 rr =>
          cases rr
          obtain ⟨p, xs, rfl, e1, f1, r1⟩ := tup_at R r
          obtain ⟨p2, ys, rfl, e2, f2, r2'⟩ := tup_at R r2
          have ex := reps_pair r1
          have ey := reps_pair r2'
          refine .inr ⟨p, p2, [i, j], [m, n], rfl, by rw [← ex]; exact e1, by rw [← ey]; exact e2, k _ _ _ _ R .refl ?_ q⟩
          have el : HT.lexLt [m, n] [i, j] = ltP m n i j := by
            show (if m = i then HT.lexLt [n] [j] else decide (m < i)) = _
            unfold ltP
            split
            · show (if n = j then HT.lexLt [] [] else decide (n < j)) = _
              split
              · rename_i h
                subst h
                simp [HT.lexLt_nil_nil]
              · rfl
            · rfl
          rw [el]
          cases ltP m n i j with
          | true => exact r2
          | false => exact r
    · exact q.elim) hg hm (by decide +kernel) ha (he := he) (hpl := hpl)
/-- tuple(x) -/
def oTuple : OcD := fun ds M Q => match ds with
  | [d] => match seeD M d with
    | .lst xs => Q (.tup xs)
    | .tup xs => Q (.tup xs)
    | _ => False
  | _ => False
theorem lift_tuple {K : PySem.W.Frag} : LiftC B K (fun xs H Q => ∃ p ys, xs = [.ref p] ∧ ((SqL K H p ys ∧ ∀ l, H l = none → Q (.ref l) (upd H l (.tup ys))) ∨ (SqT K H p ys ∧ Q (.ref p) H))) oTuple := by
  intro env σ W H M vs ds Q Q' R rs q k
  dsimp only [oTuple] at q
  split at q
  · cases rs with
    | cons r rr =>
      cases rr
      split at q
      · rename_i xs e
        obtain ⟨p, ys, rfl, e1, r1⟩ := seeD_lst R r e
        refine ⟨p, ys, rfl, .inl ⟨SqL.of e1, fun l hl => ?_⟩⟩
        obtain ⟨R', s'⟩ := R.laid (o := .tup ys) hl
        exact k _ _ _ _ R' s' (.tup upd_same (Reps.mono s'.le _ _ r1)) q
      · rename_i xs e
        obtain rfl := seeD_ne e (fun _ z => nomatch z) (fun _ z => nomatch z)
        obtain ⟨p, ys, rfl, e1, _, r1⟩ := tup_at R r
        exact ⟨p, ys, rfl, .inr ⟨SqT.of e1, k _ _ _ _ R .refl r q⟩⟩
      · exact q.elim
  · exact q.elim
theorem de_tuplec {p : Pos} (hg : Gl X "tuple") (hm : X.mg "tuple" = none) (ha : DA X B [a] z) (he : starEach [a] X.env = (false, eval a X.env) :: starEach [] X.env := by rfl) : DE X B (.Call (.Name "tuple" p) [a] [] pos) (wB oTuple z) :=
  de_bty call_tuple_of lift_tuple hg hm (by decide +kernel) ha (he := he) (hpl := rfl)
/-- list(x) -/
def fListc (z : WA) : WF := fun env M Q E => z env M (fun ds M1 => match ds with
  | [d] => match seeD M1 d with
    | .lst xs => Q xs M1
    | .tup xs => Q xs M1
    | _ => False
  | _ => False) E
theorem df_listc {p : Pos} (hg : Gl X "list") (hm : X.mg "list" = none) (ha : DA X B [a] z) (he : starEach [a] X.env = (false, eval a X.env) :: starEach [] X.env := by rfl) : DF X B (.Call (.Name "list" p) [a] [] pos) (fListc z) := fun E tk =>
  (pe_callTy call_list_of hg hm (by decide +kernel) (ha E tk) (he := he) (hpl := rfl)).imp fun σ H Q h => by
    obtain ⟨env, W, M, Q', R, q, k⟩ := h
    refine ⟨env, W, M, _, R, q, fun vs H1 W1 ds M1 R1 s1 r1 q1 => ?_⟩
    have fin : ∀ {pa : Addr} {ys : List V} {xs : List D}, (SqL X.K H1 pa ys ∨ SqT X.K H1 pa ys) → Reps X.K W1 ys xs → vs = [.ref pa] → Q' xs M1 → ∃ p ys, vs = [.ref p] ∧ (SqL X.K H1 p ys ∨ SqT X.K H1 p ys) ∧ ∀ l, H1 l = none → Q (.ref l) (upd H1 l (.lst ys)) := fun {pa ys xs} hs rr ev q' => by
      refine ⟨pa, ys, ev, hs, fun l hl => ?_⟩
      obtain ⟨R', s', hz, hr⟩ := R1.bare (o := .lst ys) hl rfl
      exact k l ys _ _ _ _ R' (s1.trans s') (s1.frees (fre_none hl)) upd_same hz hr rr q'
    split at q1
    · cases r1 with
      | cons r rr =>
        cases rr
        split at q1
        · rename_i xs e
          obtain ⟨p, ys, rfl, e1, r1⟩ := seeD_lst R1 r e
          exact fin (.inl (SqL.of e1)) r1 rfl q1
        · rename_i xs e
          obtain rfl := seeD_ne e (fun _ z => nomatch z) (fun _ z => nomatch z)
          obtain ⟨p, ys, rfl, e1, _, r1⟩ := tup_at R1 r
          exact fin (.inr (SqT.of e1)) r1 rfl q1
        · exact q1.elim
    · exact q1.elim
/-- all, any of a list of truth values -/
def blsD : List D → Option (List Bool)
  | [] => some []
  | .bl b :: ds => (blsD ds).map (b :: ·)
  | _ :: _ => none
theorem blsD_of : ∀ {ds : List D} {bs : List Bool}, blsD ds = some bs → ds = bs.map D.bl
  | [], _, h => by cases h; rfl
  | d :: ds, bs, h => by
    cases d with
    | bl b =>
      have h' : (blsD ds).map (b :: ·) = some bs := h
      cases e : blsD ds with
      | none => rw [e] at h'; cases h'
      | some cs =>
        rw [e] at h'
        cases h'
        rw [blsD_of e]; rfl
    | _ => exact absurd h (by simp [blsD])
def oAll : OcD := fun ds M Q => match ds with
  | [d] => match seeD M d with
    | .lst xs => match blsD xs with
      | some bs => Q (.bl (bs.all id))
      | none => False
    | _ => False
  | _ => False
theorem de_all {p : Pos} (hc : X.calm = true) (hg : Gl X "all") (hm : X.mg "all" = none) (ha : DA X B [a] z) (he : starEach [a] X.env = (false, eval a X.env) :: starEach [] X.env := by rfl) : DE X B (.Call (.Name "all" p) [a] [] pos) (wB oAll z) :=
  de_blt (cr_all hc) (fun env σ W H M vs ds Q Q' R rs q k => by
    dsimp only [oAll] at q
    split at q
    · cases rs with
      | cons r rr =>
        cases rr
        split at q
        · rename_i xs e
          split at q
          · rename_i bs eb
            obtain ⟨p, ys, rfl, e1, r1⟩ := seeD_lst R r e
            rw [blsD_of eb] at r1
            exact ⟨p, bs, rfl, by rw [← r1.bls_of]; exact SqL.of e1, k _ _ _ _ R .refl (.bl _) q⟩
          · exact q.elim
        · exact q.elim
    · exact q.elim) hg hm (by decide +kernel) ha (he := he) (hpl := rfl)

/-! ### isinstance of a built-in class -/
def tyD : D → Option String
  | .non => some "NoneType"
  | .bl _ => some "bool"
  | .int _ => some "int"
  | .str _ => some "str"
  | .tup _ => some "tuple"
  | .lst _ => some "list"
  | .kup _ => some "tuple"
  | _ => none
theorem seeD_ty {K : PySem.W.Frag} {env : Envd} {σ : L2.St} {W : Wd} {H : Hp} {M : Mem} {v : V} {d : D} {t : String} (R : Rl B K env σ W H M) (r : Rep K W v d) (h : tyD (seeD M d) = some t) : TyX K H v (.type t) := by
  by_cases hl : ∃ ds, seeD M d = .lst ds
  · obtain ⟨ds, e⟩ := hl
    obtain ⟨a, xs, rfl, e1, _⟩ := seeD_lst R r e
    rw [e] at h
    cases h
    exact .base (.lst e1)
  · have e : d = seeD M d := by
      unfold seeD
      split
      · split
        · rename_i ds em
          exfalso
          apply hl
          unfold seeD
          dsimp only
          rw [em]
          exact ⟨_, rfl⟩
        · rfl
      · rfl
    rw [← e] at h
    cases r with
    | non => cases h; exact .base .non
    | bl b => cases h; exact .base (.bl b)
    | int i => cases h; exact .base (.int i)
    | str x => cases h; exact .base (.str x)
    | tup hh rr => cases h; exact .base (.tup (R.fit.fz _ _ hh))
    | lst hh rr => cases h; exact .base (.lst (R.fit.fz _ _ hh))
    | dic hh rr => cases h
    | ref hh => cases h
    | adr _ => cases h
    | scr _ => cases h
    | kup hh rr =>
      cases h
      rcases sqT_mono R.fit.fz hh with (h1 | ⟨o, h1⟩) | ⟨o, its, n, hk, hc, _⟩
      · exact .base (.tup h1)
      · exact .fTuple h1
      · exact .kTuple hk hc
def wIsi (T : String) (w : WE) : WE := fun env M Q E => w env M (fun d M1 => match (tyD (seeD M1 d)).bind fun t => kitB t T with
  | some b => Q (.bl b) M1
  | none => False) E
theorem de_isi {T : String} {x : Str} {p p2 : Pos} (h : DE X B a w) (hg : Gl X "isinstance") (hm : X.mg "isinstance" = none) (hg2 : Gl X x) (hm2 : X.mg x = none) (hv2 : bootBuiltins x = some (.type T)) (hn : x ≠ "__name__" := by decide) (hd : (x == ("__debug__" : Str)) = false := by decide)
    (he : starEach [a, .Name x p2] X.env = (false, eval a X.env) :: starEach [.Name x p2] X.env := by rfl) (he2 : starEach [.Name x p2] X.env = (false, eval (.Name x p2) X.env) :: starEach [] X.env := by rfl) (hpl : (backTo pos (starEach [.Name x p2] X.env)).any (·.1) = false := by rfl) :
    DE X B (.Call (.Name "isinstance" p) [a, .Name x p2] [] pos) (wIsi T w) := fun E tk =>
  (pe_callB call_isi hg hm (by decide +kernel) (pa_cons (h E tk) (pa_cons (pe_bltn (v := .ty T) hg2 hm2 hv2 rfl hn hd) pa_nil he2) he) (he := he) (hpl := hpl)).imp fun σ H Q h => by
    obtain ⟨env, W, M, Q', R, q, k⟩ := h
    refine ⟨env, W, M, _, R, q, fun v H1 W1 d M1 R1 s1 r1 q1 => ?_⟩
    split at q1
    · rename_i b eb
      cases et : tyD (seeD M1 d) with
      | none => rw [et] at eb; cases eb
      | some t =>
        rw [et] at eb
        exact ⟨v, .ty T, _, _, b, rfl, .ty T, seeD_ty R1 r1 et, kit_ty eb, k _ _ _ _ _ R1 s1 (.bl b) q1⟩
    · exact q1.elim
/-- isinstance(x, (S, T)) -/
def wIsi2 (S T : String) (w : WE) : WE := fun env M Q E => w env M (fun d M1 => match tyD (seeD M1 d) with
  | some t => match kitB t S, kitB t T with
    | some b, some c => Q (.bl (b || c)) M1
    | _, _ => False
  | none => False) E
theorem de_isi2 {S T : String} {x y : Str} {p p2 p3 p4 : Pos} {k2 : Nat} (h : DE X B a w) (hg : Gl X "isinstance") (hm : X.mg "isinstance" = none) (hg2 : Gl X x) (hm2 : X.mg x = none) (hv2 : bootBuiltins x = some (.type S)) (hg3 : Gl X y) (hm3 : X.mg y = none) (hv3 : bootBuiltins y = some (.type T))
    (hn : x ≠ "__name__" := by decide) (hd : (x == ("__debug__" : Str)) = false := by decide) (hn3 : y ≠ "__name__" := by decide) (hd3 : (y == ("__debug__" : Str)) = false := by decide)
    (he : starEach [a, .Tuple [.Name x p2, .Name y p3] k2 p4] X.env = (false, eval a X.env) :: starEach [.Tuple [.Name x p2, .Name y p3] k2 p4] X.env := by rfl) (he2 : starEach [.Tuple [.Name x p2, .Name y p3] k2 p4] X.env = (false, eval (.Tuple [.Name x p2, .Name y p3] k2 p4) X.env) :: starEach [] X.env := by rfl)
    (hpl : (backTo pos (starEach [.Tuple [.Name x p2, .Name y p3] k2 p4] X.env)).any (·.1) = false := by rfl) :
    DE X B (.Call (.Name "isinstance" p) [a, .Tuple [.Name x p2, .Name y p3] k2 p4] [] pos) (wIsi2 S T w) := fun E tk =>
  (pe_callB call_isiT hg hm (by decide +kernel) (pa_cons (h E tk) (pa_cons (pe_tup (pa_cons (pe_bltn (v := .ty S) hg2 hm2 hv2 rfl hn hd) (pa_cons (pe_bltn (v := .ty T) hg3 hm3 hv3 rfl hn3 hd3) pa_nil))) pa_nil he2) he) (he := he) (hpl := hpl)).imp fun σ H Q h => by
    obtain ⟨env, W, M, Q', R, q, k⟩ := h
    refine ⟨env, W, M, _, R, q, fun v H1 W1 d M1 R1 s1 r1 q1 => ⟨by show 2 ≤ sizeLine; decide, fun tp hp => ?_⟩⟩
    split at q1
    · rename_i t et
      split at q1
      · rename_i b c eb ec
        obtain ⟨R', s', _, _⟩ : Rl B X.K env σ W1 (upd H1 tp (.tup [.ty S, .ty T])) M1 ∧ Since B.tb W1 H1 W1 (upd H1 tp (.tup [.ty S, .ty T])) ∧ True ∧ True := by
          have s : Since B.tb W1 H1 W1 (upd H1 tp (.tup [.ty S, .ty T])) := ⟨.refl _, fun b u q _ _ => by rw [upd_ne (ne_of_none q hp)]; exact q, fun _ _ q => .inl q, fun _ m => .inl m, fun b u q n => ⟨u, by rw [upd_ne (ne_of_none q hp)]; exact q, n⟩⟩
          refine ⟨R1.step ⟨fun b u q => ?_, R1.fit.len, R1.fit.nd, fun i b m q q2 => ?_, fun b m => ?_, R1.fit.nt⟩ s (tabs_upd R1.tabs (.inl hp)), s, trivial, trivial⟩
          · have e := R1.fit.fz b u q
            rw [upd_ne (ne_of_none e hp)]; exact e
          · exact (R1.fit.obj i b m q q2).stay (.refl _) (fun z => z) fun u e => by rw [upd_ne (ne_of_none e hp)]; exact e
          · obtain ⟨u, e, q⟩ := R1.fit.here b m
            exact ⟨u, by rw [upd_ne (ne_of_none e hp)]; exact e, q⟩
        refine ⟨v, tp, [.ty S, .ty T], .type t, [.type S, .type T], b || c, rfl, upd_same, .cons (.ty S) (.cons (.ty T) .nil), seeD_ty R' r1 et, ?_, k _ _ _ _ _ R' (s1.trans s') (.bl _) q1⟩
        refine kitAny_cons (kit_ty eb) (fun hb => ?_) fun hb => by rw [hb]; rfl
        refine kitAny_cons (kit_ty ec) (fun hc => ?_) fun hc => by rw [hc]; cases b <;> rfl
        rw [hb, hc]
        exact kitAny_nil
      · exact q1.elim
    · exact q1.elim

/-! ### membership -/
theorem eqD_any (x : D) (px : x.pure = true) : ∀ {ds : List D}, D.pures ds = true → ((D.pys ds).any fun z => PyData.eqv z x.py) = ds.any fun y => eqD y x
  | [], _ => rfl
  | d :: ds, h => by
    have h' : (d.pure && D.pures ds) = true := h
    rw [Bool.and_eq_true] at h'
    show (PyData.eqv d.py x.py || (D.pys ds).any fun z => PyData.eqv z x.py) = (eqD d x || ds.any fun y => eqD y x)
    rw [eqD_py d x h'.1 px, eqD_any x px h'.2]
def rInDT (K : PySem.W.Frag) (neg : Bool) : R2 := fun x y H Q => ∃ d ds, Dp K H x d ∧ (Dp K H y (.list ds) ∨ Dp K H y (.tuple ds)) ∧ SeqAt.shaped d = true ∧ SeqAt.shaped (.list ds) = true ∧ Q (.bl (if neg then !(ds.any fun z => PyData.eqv z d) else ds.any fun z => PyData.eqv z d)) H
theorem op_inDT (hu : X.A.units + 65 < cLine) : OpR X (compareOp .In) (rInDT X.K false) := by
  intro pins s σ H x y v u Q I rx ry h
  obtain ⟨d, ds, hd, he, sd, se, q⟩ := h
  obtain ⟨as, r1⟩ := Dp.reads I d x v hd rx
  have hcl : PyData.canLayAll0 ds = true := SeqAt.canLay_of_shaped se
  rcases he with he | he
  · obtain ⟨bs, r2⟩ := Dp.reads I (.list ds) y u he ry
    exact SeqAt.in_list_reads r2 r1 hcl (SeqAt.canLay_of_shaped sd) (room_in_shaped sd hu) ⟨.bl _, H, I, rfl, q⟩
  · obtain ⟨bs, r2⟩ := Dp.reads I (.tuple ds) y u he ry
    exact SeqAt.in_tuple_reads r2 r1 hcl (SeqAt.canLay_of_shaped sd) (room_in_shaped sd hu) ⟨.bl _, H, I, rfl, q⟩
theorem op_notInDT (hu : X.A.units + 65 < cLine) : OpR X (compareOp .NotIn) (rInDT X.K true) := by
  intro pins s σ H x y v u Q I rx ry h
  obtain ⟨d, ds, hd, he, sd, se, q⟩ := h
  obtain ⟨as, r1⟩ := Dp.reads I d x v hd rx
  have hcl : PyData.canLayAll0 ds = true := SeqAt.canLay_of_shaped se
  rcases he with he | he
  · obtain ⟨bs, r2⟩ := Dp.reads I (.list ds) y u he ry
    exact SeqAt.notIn_list_reads r2 r1 hcl (SeqAt.canLay_of_shaped sd) (room_in_shaped sd hu) ⟨.bl _, H, I, rfl, q⟩
  · obtain ⟨bs, r2⟩ := Dp.reads I (.tuple ds) y u he ry
    exact SeqAt.notIn_tuple_reads r2 r1 hcl (SeqAt.canLay_of_shaped sd) (room_in_shaped sd hu) ⟨.bl _, H, I, rfl, q⟩
/-- x in ys, ys a list, a tuple, a text -/
def oIn (neg : Bool) : OpD := fun x y M Q => match seeD M y with
  | .lst ds => x.ok 60 = true ∧ D.oks 59 ds = true ∧ Q (.bl (if neg then !(ds.any fun z => eqD z x) else ds.any fun z => eqD z x))
  | .tup ds => x.ok 60 = true ∧ D.oks 59 ds = true ∧ Q (.bl (if neg then !(ds.any fun z => eqD z x) else ds.any fun z => eqD z x))
  | .kup ds => match x with
    | .int i => ∃ ns : List Int, ds = ns.map D.int ∧ Q (.bl (if neg then !decide (i ∈ ns) else decide (i ∈ ns)))
    | _ => False
  | _ => False
theorem inV_ints (i : Int) : ∀ ns : List Int, inV (.int i) (ns.map V.int) = decide (i ∈ ns)
  | [] => rfl
  | n :: ns => by
    show (eqV (.int n) (.int i) || inV (.int i) (ns.map V.int)) = _
    rw [inV_ints i ns]
    have : eqV (.int n) (.int i) = decide (i = n) := by
      show (n == i) = _
      rw [Bool.beq_eq_decide_eq]
      exact decide_eq_decide.mpr eq_comm
    rw [this]
    simp
theorem flat_ints : ∀ ns : List Int, (ns.map V.int).all flatV = true
  | [] => rfl
  | n :: ns => by
    show (flatV (.int n) && (ns.map V.int).all flatV) = true
    rw [flat_ints ns]; rfl
theorem lift_in {K : PySem.W.Frag} {neg : Bool} : Lift2 B K (fun x y H Q => rInDT K neg x y H Q ∨ rIn K neg x y H Q) (oIn neg) := by
  intro env σ W H M x y dx dy Q Q' R rx ry q k
  have hsh : ∀ {ds : List D}, D.oks 59 ds = true → SeqAt.shaped (.list (D.pys ds)) = true ∧ D.pures ds = true := fun {ds} h => by
    have := D.ok_shaped (d := .lst ds) h
    exact ⟨this.1, this.2⟩
  dsimp only [oIn] at q
  split at q
  · rename_i ds e
    obtain ⟨h1, h2, q⟩ := q
    obtain ⟨p, ys, rfl, e1, r1⟩ := seeD_lst R ry e
    obtain ⟨s1, p1⟩ := D.ok_shaped h1
    obtain ⟨s2, p2⟩ := hsh h2
    refine .inl ⟨_, _, Rep.dp R.fit.fz _ _ p1 rx, .inl (.lst (SqL.of e1) (Reps.dp R.fit.fz _ _ p2 r1)), s1, s2, ?_⟩
    rw [eqD_any _ p1 p2]
    exact k _ _ _ _ R .refl (.bl _) q
  · rename_i ds e
    obtain ⟨h1, h2, q⟩ := q
    obtain rfl := seeD_ne e (fun _ z => nomatch z) (fun _ z => nomatch z)
    obtain ⟨p, ys, rfl, e1, _, r1⟩ := tup_at R ry
    obtain ⟨s1, p1⟩ := D.ok_shaped h1
    obtain ⟨s2, p2⟩ := hsh h2
    refine .inl ⟨_, _, Rep.dp R.fit.fz _ _ p1 rx, .inr (.tup (SqT.of e1) (Reps.dp R.fit.fz _ _ p2 r1)), s1, s2, ?_⟩
    rw [eqD_any _ p1 p2]
    exact k _ _ _ _ R .refl (.bl _) q
  · rename_i ds e
    obtain rfl := seeD_ne e (fun _ z => nomatch z) (fun _ z => nomatch z)
    split at q
    · rename_i i
      obtain ⟨ns, rfl, q⟩ := q
      cases rx
      cases ry with
      | kup h r =>
        have ex := r.ints_of
        subst ex
        refine .inr ⟨_, _, rfl, .inr (sqT_mono R.fit.fz h), rfl, flat_ints ns, ?_⟩
        rw [inV_ints]
        exact k _ _ _ _ R .refl (.bl _) q
    · exact q.elim
  · exact q.elim
theorem de_in (hu : X.A.units + 65 < cLine) (ha : DE X B a wa) (hb : DE X B b wb) (hm : behindInMarks .In b = false := by rfl) : DE X B (.Compare a [.In] [b] pos) (wOp (oIn false) wa wb) := de_cmp (OpR.or (op_inDT hu) op_in_seq) lift_in ha hb hm
theorem de_notIn (hu : X.A.units + 65 < cLine) (ha : DE X B a wa) (hb : DE X B b wb) (hm : behindInMarks .NotIn b = false := by rfl) : DE X B (.Compare a [.NotIn] [b] pos) (wOp (oIn true) wa wb) := de_cmp (OpR.or (op_notInDT hu) op_notIn_seq) lift_in ha hb hm
theorem dt_in (hu : X.A.units + 65 < cLine) (ha : DE X B a wa) (hb : DE X B b wb) (hm : behindInMarks .In b = false := by rfl) : DT X B (.Compare a [.In] [b] pos) (tstOp (oIn false) wa wb) := dt_cmp (OpR.or (op_inDT hu) op_in_seq) lift_in ha hb hm
theorem dt_notIn (hu : X.A.units + 65 < cLine) (ha : DE X B a wa) (hb : DE X B b wb) (hm : behindInMarks .NotIn b = false := by rfl) : DT X B (.Compare a [.NotIn] [b] pos) (tstOp (oIn true) wa wb) := dt_cmp (OpR.or (op_notInDT hu) op_notIn_seq) lift_in ha hb hm

/-! ### slices -/
def cutD (xs : List D) (lo hi : Option Int) : List D := (xs.drop (HT.sIx xs.length 0 lo)).take (HT.sIx xs.length xs.length hi - HT.sIx xs.length 0 lo)
theorem reps_cut {K : PySem.W.Frag} {W : Wd} {vs : List V} {ds : List D} (r : Reps K W vs ds) (lo hi : Option Int) : Reps K W (cutV vs lo hi) (cutD ds lo hi) := by
  unfold cutV cutD
  rw [r.length]
  exact (r.drop _).take _
abbrev WO := Envd → Mem → (Option Int → Mem → Prop) → ExK → Prop
def oNone : WO := fun _ M Q _ => Q none M
def oSome (w : WE) : WO := fun env M Q E => w env M (fun d M1 => match d with
  | .int i => Q (some i) M1
  | _ => False) E
def tOD (B : Bs) (K : PySem.W.Frag) (w : WO) (E : ExK) : TO := fun σ H Q => ∃ (env : Envd) (W : Wd) (M : Mem) (Q' : Option Int → Mem → Prop), Rl B K env σ W H M ∧ w env M Q' E ∧
  ∀ o H' W' M', Rl B K env σ W' H' M' → Since B.tb W H W' H' → Q' o M' → Q o H'
def DO (X : Cx) (B : Bs) (e : Option Expr) (w : WO) : Prop := ∀ E, TakesD X B E → PO X e (tOD B X.K w E)
theorem do_none : DO X B none oNone := fun E tk => ⟨fun pins s σ H Q I h => by
  obtain ⟨env, W, M, Q', R, q, k⟩ := h
  exact po_none.run pins s σ H Q I (k none H W M R .refl q)⟩
theorem do_some (h : DE X B e w) : DO X B (some e) (oSome w) := fun E tk => ⟨fun pins s σ H Q I h' => by
  refine (po_some (h E tk)).run pins s σ H Q I ?_
  obtain ⟨env, W, M, Q', R, q, k⟩ := h'
  refine ⟨env, W, M, _, R, q, fun v H1 W1 d M1 R1 s1 r1 q1 => ?_⟩
  cases d <;> first | exact q1.elim | skip
  cases r1
  exact ⟨_, rfl, k _ _ _ _ R1 s1 q1⟩⟩
def wSl (w : WE) (lo hi : WO) : WE := fun env M Q E => w env M (fun x M1 => lo env M1 (fun l M2 => hi env M2 (fun h M3 => match seeD M3 x with
  | .lst ds => Q (.lst (cutD ds l h)) M3
  | .tup ds => Q (.tup (cutD ds l h)) M3
  | .str z => z.length ≤ sizeLine ∧ Q (.str (cutS z l h)) M3
  | _ => False) E) E) E
theorem cut_whole {ds : List D} {lo hi : Option Int} (h : HT.sIx ds.length 0 lo = 0 ∧ HT.sIx ds.length ds.length hi = ds.length) : cutD ds lo hi = ds := by
  unfold cutD
  rw [h.1, h.2]
  simp
theorem de_slice {lo hi : Option Expr} {wl wh : WO} {p2 : Pos} (h : DE X B e w) (hl : DO X B lo wl) (hh : DO X B hi wh) : DE X B (.Subscript e (.Slice lo hi none p2) pos) (wSl w wl wh) := fun E tk =>
  (pe_slice (SlR.or sl_list (SlR.or sl_tupA sl_str)) (h E tk) (hl E tk) (hh E tk)).imp fun σ H Q h => by
    obtain ⟨env, W, M, Q', R, q, k⟩ := h
    refine ⟨env, W, M, _, R, q, fun v H1 W1 d M1 R1 s1 r1 q1 => ⟨env, W1, M1, _, R1, q1, fun l H2 W2 M2 R2 s2 q2 => ⟨env, W2, M2, _, R2, q2, fun r H3 W3 M3 R3 s3 q3 => ?_⟩⟩⟩
    have r3 := Rep.mono (s2.trans s3).le _ _ r1
    have s13 := s1.trans (s2.trans s3)
    split at q3
    · rename_i ds e
      obtain ⟨p, ys, rfl, e1, rr⟩ := seeD_lst R3 r3 e
      refine .inl ⟨p, ys, rfl, SqL.of e1, fun n hn => ?_⟩
      obtain ⟨R', s'⟩ := R3.laid (o := .lst (cutV ys l r)) hn
      exact k _ _ _ _ _ R' (s13.trans s') (.lst upd_same (Reps.mono s'.le _ _ (reps_cut rr l r))) q3
    · rename_i ds e
      obtain rfl := seeD_ne e (fun _ z => nomatch z) (fun _ z => nomatch z)
      obtain ⟨p, ys, rfl, e1, f1, rr⟩ := tup_at R3 r3
      refine .inr (.inl ⟨p, ys, rfl, SqT.of e1, fun hw => ?_, fun hw n hn => ?_⟩)
      · rw [rr.length] at hw
        rw [cut_whole hw] at q3
        exact k _ _ _ _ _ R3 s13 r3 q3
      · obtain ⟨R', s'⟩ := R3.laid (o := .tup (cutV ys l r)) hn
        exact k _ _ _ _ _ R' (s13.trans s') (.tup upd_same (Reps.mono s'.le _ _ (reps_cut rr l r))) q3
    · rename_i z e
      obtain rfl := seeD_ne e (fun _ z => nomatch z) (fun _ z => nomatch z)
      cases r3
      exact .inr (.inr ⟨_, rfl, q3.1, k _ _ _ _ _ R3 s13 (.str _) q3.2⟩)
    · exact q3.elim
/-- xs[::-1] of a list -/
def fRevL (w : WE) : WF := fun env M Q E => w env M (fun d M1 => match seeD M1 d with
  | .lst ds => Q ds.reverse M1
  | _ => False) E
theorem df_revL {k : Nat} {p1 p2 p3 : Pos} (h : DE X B e w) : DF X B (.Subscript e (.Slice none none (some (.UnaryOp .USub (.Constant (.int 1) k p1) p2)) p3) pos) (fRevL w) := fun E tk => (pe_revL (h E tk)).imp fun σ H Q h => by
  obtain ⟨env, W, M, Q', R, q, k⟩ := h
  refine ⟨env, W, M, _, R, q, fun v H1 W1 d M1 R1 s1 r1 q1 => ?_⟩
  split at q1
  · rename_i ds e
    obtain ⟨p, ys, rfl, e1, rr⟩ := seeD_lst R1 r1 e
    refine ⟨p, ys, rfl, SqL.of e1, fun n hn => ?_⟩
    obtain ⟨R', s', hz, hr⟩ := R1.bare (o := .lst ys.reverse) hn rfl
    exact k n _ _ _ _ _ R' (s1.trans s') (s1.frees (fre_none hn)) upd_same hz hr rr.reverse q1
  · exact q1.elim

/-! ### methods -/
/-- xs.append(x), xs a list of the store -/
def wAppend (wo : WE) (w : WE) : WE := fun env M Q E => wo env M (fun o M1 => (∃ ds, viewL M1 o = some ds) ∧ w env M1 (fun d M2 => match o with
  | .ref r => match M2[r]? with
    | some (.lst ds) => ds.length < sizeLine ∧ Q .non (M2.set r (.lst (ds ++ [d])))
    | _ => False
  | _ => False) E) E
theorem de_append {apos : Pos} {wo : WE} (ho : DE X B a wo) (h : DE X B b w) (hbase : attributeBase a "append" X.env (eval a X.env) = eval a X.env := by rfl)
    (hfew : ((backTo pos (starEach [b] X.env)).all (fun x => !x.1) && (backToKw pos (keywordEach [] X.env)).all (fun x => x.1.isSome)
      && decide ([b].length + ([] : List Keyword).length + (if ([] : List Keyword).isEmpty then 0 else 1) < 30)) = true := by rfl)
    (hline : (apos.endLine == pos.line) = true := by rfl) (hs : starEach [b] X.env = (false, eval b X.env) :: starEach [] X.env := by rfl) (hplain : (backTo pos (starEach [] X.env)).any (·.1) = false := by rfl) : DE X B (.Call (.Attribute a "append" apos) [b] [] pos) (wAppend wo w) := fun E tk =>
  (pe_bm PySem.F.plainAttrs_list PySem.F.slot_list_append PySem.F.type_list_append mt_append (ho E tk) (pa_cons (h E tk) pa_nil hs) hbase hfew hline hs hplain).imp fun σ H Q h => by
    obtain ⟨env, W, M, Q', R, q, k⟩ := h
    refine ⟨env, W, M, _, R, q, fun v H1 W1 d M1 R1 s1 r1 q1 => ?_⟩
    obtain ⟨⟨ds0, e0⟩, q1⟩ := q1
    obtain ⟨p0, xs0, rfl, e0', _⟩ := viewL_at R1 r1 e0
    refine ⟨.inl ⟨rfl, xs0, SqL.of e0'⟩, env, W1, M1, _, R1, q1, fun v2 H2 W2 d2 M2 R2 s2 r2 q2 => ?_⟩
    cases d <;> first | exact q2.elim | skip
    rename_i i
    dsimp only at q2
    split at q2
    · rename_i ds em
      cases Rep.mono s2.le _ _ r1 with
      | ref hi =>
        obtain ⟨hz, xs, e1, rr⟩ := R2.fit.obj i _ _ hi em
        have s12 := s1.trans s2
        refine ⟨p0, xs, v2, rfl, rfl, e1, by rw [rr.length]; exact q2.1, ?_⟩
        obtain ⟨R3, s3⟩ := R2.write (m := .lst (ds ++ [d2])) (o := .lst (xs ++ [v2])) hi hz rfl ⟨hz, _, upd_same, rr.append (.cons r2 .nil)⟩
        exact k _ _ _ _ _ R3 (s12.trans s3) .non q2.2
    · exact q2.elim
/-- xs.pop(), xs a list of the store -/
def wPop (wo : WE) : WE := fun env M Q E => wo env M (fun o M1 => match o with
  | .ref r => match M1[r]? with
    | some (.lst ds) => match ds[ds.length - 1]? with
      | some d => Q d (M1.set r (.lst ds.dropLast))
      | none => False
    | _ => False
  | _ => False) E
theorem de_pop {apos : Pos} {wo : WE} (ho : DE X B a wo) (hbase : attributeBase a "pop" X.env (eval a X.env) = eval a X.env := by rfl) (hline : (apos.endLine == pos.line) = true := by rfl) : DE X B (.Call (.Attribute a "pop" apos) [] [] pos) (wPop wo) := fun E tk =>
  (pe_bm0 PySem.F.plainAttrs_list PySem.F.slot_list_pop PySem.F.type_list_pop mt_pop (ho E tk) hbase hline).imp fun σ H Q h => by
    obtain ⟨env, W, M, Q', R, q, k⟩ := h
    refine ⟨env, W, M, _, R, q, fun v H1 W1 d M1 R1 s1 r1 q1 => ?_⟩
    cases d <;> first | exact q1.elim | skip
    rename_i i
    dsimp only at q1
    split at q1
    · rename_i ds em
      split at q1
      · rename_i x ex
        cases r1 with
        | ref hi =>
          obtain ⟨hz, xs, e1, rr⟩ := R1.fit.obj i _ _ hi em
          obtain ⟨y, ey, ry⟩ := rr.get ex
          refine ⟨.inl ⟨rfl, xs, SqL.of e1⟩, _, xs, y, rfl, rfl, e1, by rw [rr.length]; exact ey, ?_⟩
          obtain ⟨R3, s3⟩ := R1.write (m := .lst ds.dropLast) (o := .lst xs.dropLast) hi hz rfl ⟨hz, _, upd_same, rr.dropLast⟩
          exact k _ _ _ _ _ R3 (s1.trans s3) (Rep.mono s3.le _ _ ry) q1
      · exact q1.elim
    · exact q1.elim
/-- sep.join(xs) -/
def strsD : List D → Option (List Str)
  | [] => some []
  | .str b :: ds => (strsD ds).map (b :: ·)
  | _ :: _ => none
theorem strsD_of : ∀ {ds : List D} {bs : List Str}, strsD ds = some bs → ds = bs.map D.str
  | [], _, h => by cases h; rfl
  | d :: ds, bs, h => by
    cases d with
    | str b =>
      have h' : (strsD ds).map (b :: ·) = some bs := h
      cases e : strsD ds with
      | none => rw [e] at h'; cases h'
      | some cs =>
        rw [e] at h'
        cases h'
        rw [strsD_of e]; rfl
    | _ => exact absurd h (by simp [strsD])
theorem strsD_map (xs : List Str) : strsD (xs.map D.str) = some xs := by
  induction xs with
  | nil => rfl
  | cons x xs ih =>
    show (strsD (xs.map D.str)).map (x :: ·) = _
    rw [ih]; rfl
theorem blsD_map (xs : List Bool) : blsD (xs.map D.bl) = some xs := by
  induction xs with
  | nil => rfl
  | cons x xs ih =>
    show (blsD (xs.map D.bl)).map (x :: ·) = _
    rw [ih]; rfl
def wJoin (wo w : WE) : WE := fun env M Q E => wo env M (fun o M1 => w env M1 (fun d M2 => match o, seeD M2 d with
  | .str a, .lst ds => match strsD ds with
    | some ys => (ys.map (·.length)).sum + ys.length * a.length ≤ 16777216 ∧ Q (.str (Txt.join a ys)) M2
    | none => False
  | _, _ => False) E) E
theorem de_join {apos : Pos} {sep : Str} {j : Nat} {ps : Pos} (h : DE X B b w) (hs : starEach [b] X.env = [(false, eval b X.env)] := by rfl) (hbase : attributeBase (.Constant (.str sep) j ps) "join" X.env (eval (.Constant (.str sep) j ps) X.env) = eval (.Constant (.str sep) j ps) X.env := by rfl) (hline : (apos.endLine == pos.line) = true := by rfl) :
    DE X B (.Call (.Attribute (.Constant (.str sep) j ps) "join" apos) [b] [] pos) (wJoin (wC (.str sep)) w) := fun E tk => (pe_join pe_str (h E tk) hs hbase hline).imp fun σ H Q h => by
  obtain ⟨env, W, M, Q', R, q, k⟩ := h
  refine ⟨⟨_, rfl⟩, env, W, M, _, R, q, fun v H1 W1 d M1 R1 s1 r1 q1 => ?_⟩
  split at q1
  · rename_i a' ds e1 e2
    cases e1
    split at q1
    · rename_i ys ey
      obtain ⟨p, xs, rfl, e1, rr⟩ := seeD_lst R1 r1 e2
      rw [strsD_of ey] at rr
      exact ⟨_, p, ys, rfl, rfl, .inl (by rw [← rr.strs_of]; exact SqL.of e1), q1.1, k _ _ _ _ _ R1 s1 (.str _) q1.2⟩
    · exact q1.elim
  · exact q1.elim
/-- s.split(sep) -/
def fSplit (wo w : WE) : WF := fun env M Q E => wo env M (fun o M1 => match o with
  | .str a => w env M1 (fun d M2 => match d with
    | .str b => (b.length == 0) = false ∧ a.length + 2 ≤ sizeLine ∧ Q ((Txt.split a b).map D.str) M2
    | _ => False) E
  | _ => False) E
theorem Reps.strs {K : PySem.W.Frag} {W : Wd} : ∀ {ns : List Str}, Reps K W (ns.map V.str) (ns.map D.str)
  | [] => .nil
  | n :: ns => .cons (.str n) Reps.strs
theorem df_split {apos : Pos} {wo : WE} (ho : DE X B a wo) (h : DE X B b w) (hs : starEach [b] X.env = [(false, eval b X.env)] := by rfl) (hbase : attributeBase a "split" X.env (eval a X.env) = eval a X.env := by rfl) (hline : (apos.endLine == pos.line) = true := by rfl) :
    DF X B (.Call (.Attribute a "split" apos) [b] [] pos) (fSplit wo w) := fun E tk => (pe_split (ho E tk) (h E tk) hs hbase hline).imp fun σ H Q h => by
  obtain ⟨env, W, M, Q', R, q, k⟩ := h
  refine ⟨env, W, M, _, R, q, fun v H1 W1 d M1 R1 s1 r1 q1 => ?_⟩
  cases d <;> first | exact q1.elim | skip
  cases r1
  refine ⟨⟨_, rfl⟩, env, W1, M1, _, R1, q1, fun v2 H2 W2 d2 M2 R2 s2 r2 q2 => ?_⟩
  cases d2 <;> first | exact q2.elim | skip
  cases r2
  refine ⟨_, _, rfl, rfl, q2.1, q2.2.1, fun p hp => ?_⟩
  have s12 := s1.trans s2
  obtain ⟨R', s', hz, hr⟩ := R2.bare (o := .lst ((Txt.split _ _).map V.str)) hp rfl
  exact k p _ _ _ _ _ R' (s12.trans s') (s12.frees (fre_none hp)) upd_same hz hr Reps.strs q2.2.2
end
end L3
set_option maxRecDepth 100000
set_option maxHeartbeats 4000000
/-! L3G: freezing, letting go, rooms. -/
namespace L3
open PySem PySem.Spec PyProof.Rows L2

theorem _root_.L2.Room.u65 {k : Nat} {A : Around} (r : Room k A) : A.units + 65 < cLine := by have := r.un; omega
theorem _root_.L2.Room.u1 {k : Nat} {A : Around} (r : Room k A) : A.units + 1 < cLine := by have := r.un; omega
section
variable {X : Cx} {B : Bs} {e a b c : Expr} {es : List Expr} {w wa wb wc : WE} {u : WT} {z : WA} {pos : Pos}
/-- a list of the store becomes a value -/
def wFrz (w : WE) : WE := fun env M Q E => w env M (fun d M1 => match d with
  | .ref i => match M1[i]? with
    | some (.lst ds) => Q (.lst ds) (M1.set i .gone)
    | _ => False
  | _ => False) E
theorem de_frz (h : DE X B e w) : DE X B e (wFrz w) := fun E tk => (h E tk).imp fun σ H Q h => by
  obtain ⟨env, W, M, Q', R, q, k⟩ := h
  refine ⟨env, W, M, _, R, q, fun v H1 W1 d M1 R1 s1 r1 q1 => ?_⟩
  cases d <;> first | exact q1.elim | skip
  rename_i i
  dsimp only at q1
  split at q1
  · rename_i ds em
    cases r1 with
    | ref hi =>
      obtain ⟨hz, xs, e1, rr⟩ := R1.fit.obj i _ _ hi em
      obtain ⟨R2, s2⟩ := R1.freeze hi hz e1
      exact k _ _ _ _ _ R2 (s1.trans s2) (.lst upd_same (Reps.mono s2.le _ _ rr)) q1
  · exact q1.elim

/-! ### letting go of what a def has allotted -/
mutual
def D.under : Nat → D → Bool
  | _, .non => true
  | _, .bl _ => true
  | _, .int _ => true
  | _, .str _ => true
  | n, .tup ds => D.unders n ds
  | n, .lst ds => D.unders n ds
  | n, .dic kvs => D.underk n kvs
  | n, .ref i => decide (i < n)
  | _, .adr _ => true
  | _, .scr _ => true
  | n, .kup ds => D.unders n ds
def D.unders : Nat → List D → Bool
  | _, [] => true
  | n, d :: ds => D.under n d && D.unders n ds
def D.underk : Nat → List (List Key × D) → Bool
  | _, [] => true
  | n, (_, d) :: ds => D.under n d && D.underk n ds
end
def MObj.under (n : Nat) : MObj → Bool
  | .gone => true
  | .lst ds => D.unders n ds
  | .dic kvs => D.underk n kvs
section
variable {K : PySem.W.Frag} {W : Wd}
mutual
theorem Rep.under : ∀ (d : D) (v : V), Rep K W v d → d.under W.ro.length = true
  | .non, _, _ => rfl
  | .bl _, _, _ => rfl
  | .int _, _, _ => rfl
  | .str _, _, _ => rfl
  | .tup ds, _, h => by
    cases h with
    | tup h r => exact Reps.under ds _ r
  | .lst ds, _, h => by
    cases h with
    | lst h r => exact Reps.under ds _ r
  | .dic kvs, _, h => by
    cases h with
    | dic h r => exact RepK.under kvs _ r
  | .ref i, _, h => by
    cases h with
    | ref h => exact decide_eq_true (List.getElem?_eq_some_iff.mp h).1
  | .adr _, _, _ => rfl
  | .scr _, _, _ => rfl
  | .kup ds, _, h => by
    cases h with
    | kup h r => exact Reps.under ds _ r
theorem Reps.under : ∀ (ds : List D) (vs : List V), Reps K W vs ds → D.unders W.ro.length ds = true
  | [], _, _ => rfl
  | d :: ds, _, h => by
    cases h with
    | cons h r =>
      show (D.under _ d && D.unders _ ds) = true
      rw [Rep.under d _ h, Reps.under ds _ r]; rfl
theorem RepK.under : ∀ (ds : List (List Key × D)) (vs : List (List Key × V)), RepK K W vs ds → D.underk W.ro.length ds = true
  | [], _, _ => rfl
  | (k, d) :: ds, _, h => by
    cases h with
    | cons h r =>
      show (D.under _ d && D.underk _ ds) = true
      rw [Rep.under d _ h, RepK.under ds _ r]; rfl
end
mutual
theorem Rep.cut (n : Nat) : ∀ (d : D) (v : V), Rep K W v d → d.under n = true → Rep K ⟨W.fz, W.ro.take n⟩ v d
  | .non, _, h, _ => by cases h; exact .non
  | .bl _, _, h, _ => by cases h; exact .bl _
  | .int _, _, h, _ => by cases h; exact .int _
  | .str _, _, h, _ => by cases h; exact .str _
  | .tup ds, _, h, b => by
    cases h with
    | tup h r => exact .tup h (Reps.cut n ds _ r b)
  | .lst ds, _, h, b => by
    cases h with
    | lst h r => exact .lst h (Reps.cut n ds _ r b)
  | .dic kvs, _, h, b => by
    cases h with
    | dic h r => exact .dic h (RepK.cut n kvs _ r b)
  | .ref i, _, h, b => by
    cases h with
    | ref h =>
      refine .ref ?_
      show (W.ro.take n)[i]? = _
      rw [List.getElem?_take_of_lt (of_decide_eq_true b)]
      exact h
  | .adr _, _, h, _ => by cases h; exact .adr _
  | .scr _, _, h, _ => by
    cases h with
    | scr h => exact .scr h
  | .kup ds, _, h, b => by
    cases h with
    | kup h r => exact .kup h (Reps.cut n ds _ r b)
theorem Reps.cut (n : Nat) : ∀ (ds : List D) (vs : List V), Reps K W vs ds → D.unders n ds = true → Reps K ⟨W.fz, W.ro.take n⟩ vs ds
  | [], _, h, _ => by cases h; exact .nil
  | d :: ds, _, h, b => by
    cases h with
    | cons h r =>
      have b' : (D.under n d && D.unders n ds) = true := b
      rw [Bool.and_eq_true] at b'
      exact .cons (Rep.cut n d _ h b'.1) (Reps.cut n ds _ r b'.2)
theorem RepK.cut (n : Nat) : ∀ (ds : List (List Key × D)) (vs : List (List Key × V)), RepK K W vs ds → D.underk n ds = true → RepK K ⟨W.fz, W.ro.take n⟩ vs ds
  | [], _, h, _ => by cases h; exact .nil
  | (k, d) :: ds, _, h, b => by
    cases h with
    | cons h r =>
      have b' : (D.under n d && D.underk n ds) = true := b
      rw [Bool.and_eq_true] at b'
      exact .cons (Rep.cut n d _ h b'.1) (RepK.cut n ds _ r b'.2)
end
end
/-- the store may be cut back to what stood at the start -/
def GcOk (M M' : Mem) : Prop := M.length ≤ M'.length ∧ ∀ (i : Nat) (m : MObj), i < M.length → M'[i]? = some m → M[i]? = some m ∨ m.under M.length = true
theorem gc_fits {K : PySem.W.Frag} {tb : List (Addr × Str)} {W W' : Wd} {H H' : Hp} {M M' : Mem} (f : Fits K W H M) (f' : Fits K W' H' M') (s : Since tb W H W' H') (g : GcOk M M') :
    Fits K ⟨W'.fz, W'.ro.take M.length⟩ H' (M'.take M.length) ∧ Since tb W H ⟨W'.fz, W'.ro.take M.length⟩ H' := by
  obtain ⟨r, er⟩ := s.le.ro
  have et : W'.ro.take M.length = W.ro := by rw [er, ← f.len, List.take_left]
  refine ⟨⟨f'.fz, ?_, ?_, fun i a m h1 h2 => ?_, fun a ha => f'.here a (List.mem_of_mem_take ha), f'.nt⟩, ⟨⟨s.le.fz, [], by show W'.ro.take M.length = W.ro ++ []; rw [et, List.append_nil]⟩, s.keep, s.newf, fun a ha => s.newr a (List.mem_of_mem_take ha), s.there⟩⟩
  · show (W'.ro.take M.length).length = _
    rw [et, f.len, List.length_take, Nat.min_eq_left g.1]
  · show (W'.ro.take M.length).Nodup
    rw [et]; exact f.nd
  · have h1 : (W'.ro.take M.length)[i]? = some a := h1
    have hi : i < M.length := by
      have := (List.getElem?_eq_some_iff.mp h1).1
      rw [List.length_take] at this
      omega
    rw [List.getElem?_take_of_lt hi] at h1 h2
    have hb : m.under M.length = true := by
      rcases g.2 i m hi h2 with e | e
      · have ha : W.ro[i]? = some a := by
          rw [er, List.getElem?_append_left (by rw [f.len]; exact hi)] at h1
          exact h1
        have q := f.obj i a m ha e
        cases m with
        | gone => rfl
        | lst ds =>
          obtain ⟨_, xs, _, rr⟩ := q
          rw [← f.len]
          exact Reps.under _ _ rr
        | dic ds =>
          obtain ⟨_, xs, _, rr⟩ := q
          rw [← f.len]
          exact RepK.under _ _ rr
      · exact e
    have q := f'.obj i a m h1 h2
    cases m with
    | gone => trivial
    | lst ds =>
      obtain ⟨z, xs, e, rr⟩ := q
      exact ⟨z, xs, e, Reps.cut _ _ _ rr hb⟩
    | dic ds =>
      obtain ⟨z, xs, e, rr⟩ := q
      exact ⟨z, xs, e, RepK.cut _ _ _ rr hb⟩
/-- a def's body that leaves nothing behind in the store -/
def sGc (s : WS) : WS := fun env M D E => s env M { D with rt := fun d M' => GcOk M M' ∧ d.under M.length = true ∧ D.rt d (M'.take M.length), nx := fun _ M' => GcOk M M' ∧ D.rt .non (M'.take M.length) } (fun x M' => GcOk M M' ∧ (match x.arg with | none => true | some (_, d) => d.under M.length) = true ∧ E x (M'.take M.length))
end
section
variable {P : Program} {w : World} {K : PySem.W.Frag} {mg : Str → Option Value} {base : Heap}
theorem fnok_gc {x qual : Str} {st : Stmt} {f : Addr} {fd : FuncData} {N ps : List Str} {k n : Nat} {tb : List (Addr × Str)} {ct : CtD} {wb : WS} (F : Fun K x qual st f fd) (S : FnScope N ps (defScope st)) (hn : ps.length = n)
    (hbody : ∀ (cdv : Value) (A : Around) (outer : List Env) (s : Shared) (H : Hp) (E : XK) (B : Bs), B.tb = tb → Room k (A.deeper (envOfC qual (defScope st) s.heap.objs.size f cdv)) →
      DSs (cxOf (L2N.CX P w) P w K mg base N qual (defScope st) f cdv A outer s H E) B (defBody st) wb)
    (hct : ∀ ds M Q E, ds.length = n → ct ds M Q E → sGc wb (startD N ds) M { nx := fun _ M' => Q .non M', rt := Q, bk := fun _ _ => False, ct := fun _ _ => False } E) :
    FnOk P w K mg base (L2N.CX P w) (k + 1) f fd ps (spD K mg tb n ct) := by
  refine okN F S (fun vs H Q E h => ?_) fun cdv A outer s H vs Q E hr h => ?_
  · obtain ⟨W, M, ds, Q', E', ft, t, r, hl, _⟩ := h
    rw [r.length, hl, hn]
  · obtain ⟨W, M, ds, Q', E', ft, t, r, hl, q, k1, k2⟩ := h
    generalize hE : (fun (x : Exn) (M' : Mem) => GcOk M M' ∧ (match x.arg with | none => true | some (_, d) => d.under M.length) = true ∧ E' x (M'.take M.length)) = E2
    have tk : TakesD (cxOf (L2N.CX P w) P w K mg base N qual (defScope st) f cdv A outer s H E) ⟨tb, W, H⟩ E2 :=
      (L2N.takes_of (X := cxOf (L2N.CX P w) P w K mg base N qual (defScope st) f cdv A outer s H E) (E := E) rfl rfl rfl rfl).imp fun cls d σ H' h => by
        obtain ⟨W', M', xx, f', s', t', xr, q'⟩ := h
        rw [← hE] at q'
        obtain ⟨g1, g2, g3⟩ := q'
        obtain ⟨fc, sc⟩ := gc_fits ft f' s' g1
        refine k2 xx cls d H' _ _ fc sc ⟨xr.1, ?_⟩ g3
        have x2 := xr.2
        cases ea : xx.arg with
        | none => rw [ea] at x2; exact x2
        | some p =>
          obtain ⟨fn, dd⟩ := p
          rw [ea] at x2 g2
          obtain ⟨pp, v, e1, e2, rr⟩ := x2
          exact ⟨pp, v, e1, e2, Rep.cut _ _ _ rr g2⟩
    have q2 := hct ds M Q' E' hl q
    unfold sGc at q2
    rw [hE] at q2
    refine ⟨_, hbody cdv A outer s H E ⟨tb, W, H⟩ rfl hr E2 tk, startD N ds, W, M, _, ⟨ft, start_env r, .refl, t⟩, q2, ?_, ?_, ?_, ?_⟩
    · intro env' σ' W' H' M' R' s' q'
      obtain ⟨fc, sc⟩ := gc_fits ft R'.fit s' q'.1
      exact k1 _ _ _ _ _ fc sc .non q'.2
    · intro v H' W' d M' f' t' s' r' q'
      obtain ⟨fc, sc⟩ := gc_fits ft f' s' q'.1
      exact k1 _ _ _ _ _ fc sc (Rep.cut _ _ _ r' q'.2.1) q'.2.2
    · exact fun env' σ' W' H' M' R' s' q' => q'.elim
    · exact fun env' σ' W' H' M' R' s' q' => q'.elim
theorem dfn_gc {x qual : Str} {st : Stmt} {f : Addr} {fd : FuncData} {N ps : List Str} {k n : Nat} {ct : CtD} {wb : WS} (F : Fun K x qual st f fd) (hm : mg x = some (.ref f)) (hb : Binds K fd ps []) (S : FnScope N ps (defScope st)) (hn : ps.length = n)
    (hbody : ∀ (cdv : Value) (A : Around) (outer : List Env) (s : Shared) (H : Hp) (E : XK) (B : Bs), B.tb = [] → Room k (A.deeper (envOfC qual (defScope st) s.heap.objs.size f cdv)) →
      DSs (cxOf (L2N.CX P w) P w K mg base N qual (defScope st) f cdv A outer s H E) B (defBody st) wb)
    (hct : ∀ ds M Q E, ds.length = n → ct ds M Q E → sGc wb (startD N ds) M { nx := fun _ M' => Q .non M', rt := Q, bk := fun _ _ => False, ct := fun _ _ => False } E) : DFn P w K mg base x n (k + 1) ct :=
  ⟨f, fd, ps, hm, F.kp, hb, fnok_gc F S hn hbody hct⟩
end
end L3
set_option maxRecDepth 100000
set_option maxHeartbeats 4000000
/-! L3H: what the top has left, as facts. -/
namespace L3
open PySem PySem.Spec PyProof.Rows L2
/-- a def of the text -/
def DefAt (K : PySem.W.Frag) (mg : Str → Option Value) (x : Str) (st : Stmt) (ps : List Str) : Prop := ∃ (f : Addr) (fd : FuncData), mg x = some (.ref f) ∧ Fun K x x st f fd ∧ Binds K fd ps []
/-- an own class of error without __init__ -/
def ExcF (K : PySem.W.Frag) (mg : Str → Option Value) (x : Str) : Prop := ∃ C : Addr, mg x = some (.ref C) ∧ PySem.W.excIn K C [.type "ValueError", .type "Exception", .type "BaseException", .type "object"] "ValueError.__new__" = true ∧ PySem.W.keepIn K (.ref C) = true ∧
  PySem.W.subIn K (.ref C) (.type "BaseException") = some true ∧ PySem.W.typeIn K (.ref C) = some (.type "type")
/-- a written tuple of ints -/
def TupK (K : PySem.W.Frag) (mg : Str → Option Value) (x : Str) (ns : List Int) : Prop := ∃ (a : Addr) (o : Obj) (its : Array Value) (n : Nat), mg x = some (.ref a) ∧ K.lookup a = some o ∧ o.cls = .type "tuple" ∧ o.data = .seq its n ∧ its.size ≤ sizeLine ∧ Vals (ns.map V.int) its.toList
section
variable {X : Cx} {B : Bs} {pos : Pos}
theorem de_globI {x : Str} {i : Int} (hg : Gl X x) (h : ∃ t, X.mg x = some (.int i t)) (hd : (x == ("__debug__" : Str)) = false := by decide) : DE X B (.Name x pos) (wC (.int i)) := by
  obtain ⟨t, h⟩ := h
  exact de_glob (v := .int i) hg h ⟨_, rfl⟩ (fun _ => .int i) hd
theorem de_globS {x z : Str} (hg : Gl X x) (h : ∃ t, X.mg x = some (.str z t)) (hd : (x == ("__debug__" : Str)) = false := by decide) : DE X B (.Name x pos) (wC (.str z)) := by
  obtain ⟨t, h⟩ := h
  exact de_glob (v := .str z) hg h ⟨_, rfl⟩ (fun _ => .str z) hd
theorem de_globK {x : Str} {ns : List Int} (hg : Gl X x) (h : TupK X.K X.mg x ns) (hd : (x == ("__debug__" : Str)) = false := by decide) : DE X B (.Name x pos) (wC (.kup (ns.map D.int))) := by
  obtain ⟨a, o, its, n, h1, h2, h3, h4, h5, h6⟩ := h
  exact de_glob (v := .ref a) hg h1 rfl (fun _ => .kup (.inr ⟨o, its, n, h2, h3, h4, h5, h6⟩) Reps.ints) hd
theorem ds_raiseT {x m : Str} {j : Nat} {p p2 p3 : Pos} (hc : X.calm = true) (h : ExcF X.K X.mg x) (hg : Gl X x) (hdb : (x == ("__debug__" : Str)) = false := by decide) :
    DS X B (.Raise (some (.Call (.Name x p) [.Constant (.str m) j p2] [] p3)) none pos) (sRaise x) := by
  obtain ⟨C, h1, h2, h3, h4, h5⟩ := h
  exact ds_raise hc PySem.F.excBase_ValueError h2 h1 h3 (raises_own h4 h5) hg hdb
end
end L3
set_option maxRecDepth 100000
set_option maxHeartbeats 4000000
/-! L3I: iterators that end while an exception is handled. -/
namespace L3
open PySem PySem.Spec PyProof.Rows L2 HotX
section
variable {prog : Program} {w : World} {A : Around} {E : Value → Shared → Prop} {s : Shared}
abbrev Keep (h h' : Heap) : Prop := ∀ b o, h.get? b = some o → h'.get? b = some o
abbrev IsStop (h : Heap) (e : Addr) : Prop := ∃ o, h.get? e = some o ∧ o.cls = .type "StopIteration"
theorem hot_keep {x1 : Addr} {h h' : Heap} (hot : HotAt A x1 h) (k : ∀ o, h.get? x1 = some o → h'.get? x1 = some o) : HotAt A x1 h' := by
  obtain ⟨a, o, vs, g, d, c⟩ := hot
  exact ⟨a, o, vs, k o g, d, c⟩
theorem stop_hot {α : Type} {x1 : Addr} {Q : α → Shared → Prop} (hot : HotAt A x1 s.heap) (hE : ∀ h' e, Keep s.heap h' → IsStop h' e → E (.ref e) { s with heap := h' }) :
    wpAny (model prog w) A (newExc (.type "StopIteration") [] >>= fun v => (raiseNew v : Sem α)) Q E s := by
  obtain ⟨a0, o0, vs0, g0, d0, c0⟩ := hot
  unfold newExc newTuple
  refine wpAny_bind (wpAny_bind (wpAny_newObj_type (wpAny_bind (m := firstArgMember _ _) (wpAny_of_eq (a := Value.none) (by first | rfl | (simp only [firstArgMember]; rfl)) (wpAny_newObj_type ?_ (by size_fits)))) (by size_fits)))
  have up : ∀ (o1 : Obj), Keep s.heap (s.heap.push o1) := fun o1 b o e => Heap.get?_push_of_some _ e
  refine raiseNew_hot ⟨a0, o0, vs0, Heap.get?_push_of_some _ (up _ _ _ g0), d0, c0⟩ (Nat.ne_of_lt (Heap.lt_size (up _ _ _ g0))) (Heap.get?_push_size _ rfl) rfl (by first | (simp; done) | (simp; omega) | (simp only [Array.size_append]; simp; omega))
    (hE _ _ (fun b o e => ?_) ⟨_, Heap.get?_update_self _ (Heap.get?_push_size _ rfl) rfl, rfl⟩)
  rw [Heap.get?_update_other _ _ (Nat.ne_of_gt (Heap.lt_size (up _ _ _ e)))]
  exact Heap.get?_push_of_some _ (up _ _ _ e)
/-- a list's iterator, a tuple's iterator at the end -/
theorem run_list_end {it l x1 : Addr} {i : Nat} {items : Array Value} {R : Fin → Shared → Prop} (hot : HotAt A x1 s.heap) (nx : x1 ≠ it) (hit : s.heap.IsListIter it l i) (hl : s.heap.IsList l items) (hx : items[i]? = none)
    (hE : ∀ h' e, Heap.ExtBut it s.heap h' → IsStop h' e → E (.ref e) { s with heap := h' }) : wpAny (model prog w) A (Builtin.«list_iterator.__next__» ⟨[.ref it], []⟩) R E s := by
  obtain ⟨oi, gi, ci, di⟩ := id hit
  obtain ⟨ol, gl, _, nl, dl⟩ := hl
  refine wpAny_bind (m := field (.ref it) 0) (wpAny_field gi di (x := .ref l) rfl ?_)
  show wpAny _ _ (if (Value.ref l == Value.none) = true then _ else _) _ _ s
  rw [if_neg (show ¬ ((Value.ref l == Value.none) = true) from Bool.false_ne_true)]
  refine wpAny_bind (m := field (.ref it) 1) (wpAny_field gi di (x := .int i 0) rfl ?_)
  refine wpAny_bind (m := seqItems? (.ref l)) (wpAny_seqItems gl dl ?_)
  simp only [Int.toNat_natCast, hx]
  refine wpAny_bind (wpAny_rule (wpAny_bind (wpAny_setField gi di (by simp) ?_)))
  have eb : ∀ f, Heap.ExtBut it s.heap (s.heap.update it f) := fun f => (Heap.SameBut.update s.heap it f).extBut
  exact stop_hot (hot_keep hot fun o e => eb _ _ _ nx e) fun h' e k st => hE h' e (fun b o hb q => k b o (eb _ b o hb q)) st
theorem run_tuple_end {it l x1 : Addr} {i : Nat} {items : Array Value} {R : Fin → Shared → Prop} (hot : HotAt A x1 s.heap) (nx : x1 ≠ it) (hit : IsTupIter s.heap it l i) (hl : IsTup s.heap l items) (hx : items[i]? = none)
    (hE : ∀ h' e, Heap.ExtBut it s.heap h' → IsStop h' e → E (.ref e) { s with heap := h' }) : wpAny (model prog w) A (Builtin.«tuple_iterator.__next__» ⟨[.ref it], []⟩) R E s := by
  obtain ⟨oi, gi, ci, di⟩ := id hit
  obtain ⟨ol, gl, _, nl, dl⟩ := hl
  refine wpAny_bind (m := field (.ref it) 0) (wpAny_field gi di (x := .ref l) rfl ?_)
  show wpAny _ _ (if (Value.ref l == Value.none) = true then _ else _) _ _ s
  rw [if_neg (show ¬ ((Value.ref l == Value.none) = true) from Bool.false_ne_true)]
  refine wpAny_bind (m := field (.ref it) 1) (wpAny_field gi di (x := .int i 0) rfl ?_)
  refine wpAny_bind (m := seqItems? (.ref l)) (wpAny_seqItems gl dl ?_)
  simp only [Int.toNat_natCast, hx]
  refine wpAny_bind (wpAny_rule (wpAny_bind (wpAny_setField gi di (by simp) ?_)))
  have eb : ∀ f, Heap.ExtBut it s.heap (s.heap.update it f) := fun f => (Heap.SameBut.update s.heap it f).extBut
  exact stop_hot (hot_keep hot fun o e => eb _ _ _ nx e) fun h' e k st => hE h' e (fun b o hb q => k b o (eb _ b o hb q)) st
theorem list_ends {it l x1 : Addr} {i : Nat} {items : Array Value} {Q : Value → Shared → Prop} (hot : HotAt A x1 s.heap) (nx : x1 ≠ it) (hit : s.heap.IsListIter it l i) (hl : s.heap.IsList l items) (hx : items[i]? = none)
    (hE : ∀ h' e, Heap.ExtBut it s.heap h' → IsStop h' e → E (.ref e) { s with heap := h' }) : wpAny (model prog w) A (Builtin.SmallTypes.nextOf (.ref it)) Q E s := by
  unfold Builtin.SmallTypes.nextOf
  exact wpAny_bind (wpAny_callSpecial?_slot (name := Str.ofString "__next__") hit.typeIs slot_listiter_next (wpAny_call_entry slot_listiter_next hit.typeIs entry_listiter_next (run_list_end (A := A.in1) hot nx hit hl hx hE) (args_listiter_next _)))
theorem tuple_ends {it l x1 : Addr} {i : Nat} {items : Array Value} {Q : Option Value → Shared → Prop} (hot : HotAt A x1 s.heap) (nx : x1 ≠ it) (hit : IsTupIter s.heap it l i) (hl : IsTup s.heap l items) (hx : items[i]? = none)
    (hQ : ∀ h', Heap.ExtBut it s.heap h' → Q none { s with heap := h' }) : wpAny (model prog w) A (pyNext (.ref it)) Q E s := by
  unfold pyNext
  refine wpAny_bind (wpAny_attempt (wpAny_callSpecial?_slot (name := Str.ofString "__next__") hit.typeIs slot_tupleiter_next (wpAny_call_entry slot_tupleiter_next hit.typeIs entry_tupleiter_next (run_tuple_end (A := A.in1) hot nx hit hl hx fun h' e k st => ?_) (args_tupleiter_next _))))
  obtain ⟨o, g, c⟩ := st
  exact wpAny_bind (wpAny_isInstance (T := "StopIteration") (b := true) ⟨o, g, c⟩ isSubtype_stop (wpAny_pure (hQ h' k)))
/-- a tuple taken apart -/
theorem apart_hot {env : Env} {elts : List Expr} {kk : Nat} {pos : Pos} {t x1 : Addr} {items : Array Value} {Q : Unit → Shared → Prop} (hot : HotAt A x1 s.heap) (ht : IsTup s.heap t items) (hn : (assignEach elts env).length = items.size) (hstar : (assignEach elts env).findIdx? (·.1) = none)
    (h : ∀ h', Keep s.heap h' → wpAny (model prog w) A (assignInOrder ((assignEach elts env).map (·.2)) items.toList) Q E { s with heap := h' }) : wpAny (model prog w) A (assign (.Tuple elts kk pos) env (.ref t)) Q E s := by
  have new : ∀ {b o}, s.heap.get? b = some o → b ≠ s.heap.objs.size := fun e => Nat.ne_of_lt (Heap.lt_size e)
  have tn : t ≠ s.heap.objs.size := by obtain ⟨o, g, _⟩ := ht; exact new g
  have xn : x1 ≠ s.heap.objs.size := by obtain ⟨_, o, _, g, _⟩ := hot; exact new g
  rw [assign_Tuple]
  refine wpAny_bind (wpAny_standAt ?_)
  unfold unpack
  rw [hn, hstar]
  refine wpAny_bind (wpAny_holding ?_)
  unfold unpackItems notIterableAtAll
  refine wpAny_bind (wpAny_bind (wpAny_specialOf ht.typeIs slot_tuple_iter.lookup (wpAny_pure ?_)))
  rw [if_neg Bool.false_ne_true]
  refine wpAny_bind (wpAny_holding (iter_tuple ht (wpAny_bind (wpAny_holding (draw_tuple tn items.size 0 _ _ ⟨_, Heap.get?_push_size _ rfl, rfl, rfl⟩ (ht.push _) (by omega) fun h1 hit1 sb1 => ?_)))))
  have k1 : Keep s.heap h1 := fun b o e => sb1.extBut b o (new e) (Heap.get?_push_of_some _ e)
  rw [List.drop_zero, List.take_of_length_le (by simp), if_neg (by simp)]
  have ht1 : IsTup h1 t items := (ht.push _).extBut sb1.extBut tn
  refine wpAny_bind (wpAny_holding (tuple_ends (s := { s with heap := h1 }) (hot_keep hot fun o e => k1 _ o e) xn hit1 ht1 (by simp) fun h2 k2 => ?_))
  rw [if_neg (by simp)]
  exact wpAny_pure (h h2 fun b o e => k2 b o (new e) (k1 b o e))
/-- zip of two lists, the first at its end -/
theorem zip_ends {z TI TO i1 i2 l1 l2 x1 : Addr} {n : Nat} {xs : Array Value} {Q : Option Value → Shared → Prop} (hot : HotAt A x1 s.heap) (nz : x1 ≠ z) (n1 : x1 ≠ i1) (D : ZipApart z TI TO i1 i2 l1 l2) (hz : IsZip s.heap z TI TO .none)
    (hTI : IsPair s.heap TI (.ref i1) (.ref i2)) (h1 : s.heap.IsListIter i1 l1 n) (hl1 : s.heap.IsList l1 xs) (hx : xs[n]? = none)
    (hQ : ∀ h', (∀ c o, c ≠ z → c ≠ i1 → s.heap.get? c = some o → h'.get? c = some o) → Q none { s with heap := h' }) : wpAny (model prog w) A (pyNext (.ref z)) Q E s := by
  have hT : s.TypeIs (.ref z) "zip" := ⟨_, hz, rfl⟩
  unfold pyNext
  refine wpAny_bind (wpAny_attempt (wpAny_callSpecial?_slot (name := Str.ofString "__next__") hT F.slot_zip_next (wpAny_call_entry F.slot_zip_next hT F.entry_zip_next ?_ (F.args_zip_next_1 _))))
  refine wpAny_bind (m := field (.ref z) 2) (wpAny_field hz rfl (x := .bool false) rfl ?_)
  refine wpAny_bind (m := field (.ref z) 3) (wpAny_field hz rfl (x := .ref TI) rfl ?_)
  refine wpAny_bind (wpAny_seqItems hTI rfl ?_)
  refine wpAny_bind (m := Builtin.SmallTypes.ownedTupleIsFree (.ref z)) ?_
  unfold Builtin.SmallTypes.ownedTupleIsFree
  refine wpAny_bind (wpAny_field hz rfl (x := .none) rfl (wpAny_pure ?_))
  rw [if_pos rfl]
  refine wpAny_bind (wpAny_rule (wpAny_bind (wpAny_field hz rfl (x := .ref TO) rfl ?_)))
  refine wpAny_bind (wpAny_setField_rec hz (by simp) fun ha za sa => ?_)
  have za' : IsZip ha z TI TO .ellipsis := za
  refine wpAny_bind ?_
  simp only [List.zipIdx_cons, List.zipIdx_nil, List.forIn_cons, List.forIn_nil]
  refine wpAny_bind (wpAny_bind (wpAny_onRaise ?_))
  refine wpAny_bind (m := Builtin.SmallTypes.nextOf (.ref i1)) (list_ends (hot_keep hot fun o e => sa.extBut _ _ nz e) n1 (h1.extBut sa.extBut D.i1z) (hl1.extBut sa.extBut D.l1z) hx fun hb e kb st => ?_)
  obtain ⟨oe, ge, ce⟩ := st
  have zb : IsZip hb z TI TO .ellipsis := kb _ _ D.i1z.symm za'
  have nez : e ≠ z := fun x => by
    rw [x, zb] at ge
    have q := Option.some.inj ge
    rw [← q] at ce
    simp at ce
  refine wpAny_setField_rec zb (by simp) fun hc _ sc => ?_
  refine wpAny_bind (wpAny_isInstance (T := "StopIteration") (b := true) ⟨oe, sc.extBut _ _ nez ge, ce⟩ isSubtype_stop (wpAny_pure (hQ hc fun c o c1 c2 x => sc.extBut _ _ c1 (kb _ _ c2 (sa.extBut _ _ c1 x)))))
end
/-! ### the turns -/
/-- an iterator's turns where x1 is handled (x1 is none of the iterator's objects) -/
structure HTurn (P : Program) (w : World) (K : PySem.W.Frag) (tg : Expr) (J : It) (fp : List Addr) (it : Addr) (tn : Nat → Heap → Prop) : Prop where
  obj : ∀ i h, tn i h → ∀ b ∈ fp, ∃ o, h.get? b = some o ∧ ∀ v, o.data ≠ .cell v
  keep : ∀ i h h', tn i h → (∀ b ∈ fp, ∀ o, h.get? b = some o → h'.get? b = some o) → tn i h'
  item : ∀ (X : Cx), X.prog = P → X.w = w → X.K = K → ∀ (i : Nat) (pins : List (Addr × Obj)) (s : Shared) (σ : L2.St) (H : Hp) (E : Value → Shared → Prop), Inv X pins σ H s → (∀ b ∈ fp, FpOk X pins H b) → tn i s.heap → J.go i H →
    wpAny (model P w) X.A (pyNext (.ref it)) (fun r s1 => ∃ u, r = some u ∧
      wpAny (model P w) X.A (letOwnedTupleGo tg (.ref it) u) (fun _ s2 => ∃ x H', Inv X pins σ H' s2 ∧ RelV x u ∧ J.yld i H x H' ∧ tn (i + 1) s2.heap ∧ ∀ b ∈ fp, H' b = none) E s1) E s
  done : ∀ (X : Cx), X.prog = P → X.w = w → X.K = K → ∀ (i : Nat) (pins : List (Addr × Obj)) (s : Shared) (σ : L2.St) (H : Hp) (E : Value → Shared → Prop) (x1 : Addr), HotAt X.A x1 s.heap → x1 ∉ fp → Inv X pins σ H s → (∀ b ∈ fp, FpOk X pins H b) → tn i s.heap → J.stop i H →
    wpAny (model P w) X.A (pyNext (.ref it)) (fun r s1 => r = none ∧ Inv X pins σ H s1) E s
  self : ∀ (A : Around) (i : Nat) (s : Shared) (Q : Value → Shared → Prop) (E : Value → Shared → Prop), tn i s.heap → Q (.ref it) s → wpAny (model P w) A (pyIter (.ref it)) Q E s
/-- two lists of one length -/
def ItzE (K : PySem.W.Frag) (a b : Addr) : It := ⟨(Itz K a b).go, (Itz K a b).yld, fun i H => ∃ xs : List V, SqL K H a xs ∧ xs.length ≤ i⟩
theorem hturn_zip {P : Program} {w : World} {K : PySem.W.Frag} {elts : List Expr} {kk : Nat} {tpos : Pos} {a b z TI TO i1 i2 : Addr} (D : ZipApart z TI TO i1 i2 a b) :
    HTurn P w K (.Tuple elts kk tpos) (ItzE K a b) [z, TI, TO, i1, i2] z (fun i h => IsZip h z TI TO .none ∧ IsPair h TI (.ref i1) (.ref i2) ∧ (∃ x y, IsPair h TO x y) ∧ h.IsListIter i1 a i ∧ h.IsListIter i2 b i) := by
  have T := turn_zip (P := P) (w := w) (K := K) (elts := elts) (kk := kk) (tpos := tpos) D
  refine ⟨T.obj, T.keep, ?_, ?_, T.self⟩
  · intro X hP hw hK i pins s σ H E I hf st hg
    subst hP hw hK
    obtain ⟨hz, hTI, ⟨x0, y0, hTO⟩, h1, h2⟩ := st
    obtain ⟨xs, ys, x, y, hqx, hqy, hx, hy⟩ := hg
    obtain ⟨its, rv, p, _⟩ := I.list hqx
    obtain ⟨its2, rv2, p2, _⟩ := I.list hqy
    obtain ⟨u, hu, ru⟩ := rv.get hx
    obtain ⟨u2, hu2, ru2⟩ := rv2.get hy
    have sz : ∀ {c o}, s.heap.get? c = some o → c < s.heap.objs.size := fun e => Heap.lt_size e
    have nin : ∀ {c : Addr}, c ∉ [z, TI, TO, i1, i2] → c ≠ z ∧ c ≠ TI ∧ c ≠ TO ∧ c ≠ i1 ∧ c ≠ i2 := fun {c} h => by simpa using h
    refine wpAny_pyNext_zip_item D hz hTI hTO h1 h2 p.isList p2.isList (x := u) (y := u2) (by simpa using hu) (by simpa using hu2) fun ha za TOa h1a h2a hT _ hk => ⟨_, rfl, ?_⟩
    refine wpAny_letOwnedTupleGo_zip (s := { s with heap := ha }) za fun hb zb sb => ?_
    have hTb : hb.get? s.heap.objs.size = some { cls := .type "tuple", data := .seq #[u, u2] } := (sb.2 _ (Nat.ne_of_gt (sz hz))).trans hT
    have new : ObjOk X.prog X.w (upd H s.heap.objs.size (.tup [x, y])) hb s.heap.objs.size (.tup [x, y]) := ⟨by show 2 ≤ sizeLine; decide, [u, u2], .cons ru (.cons ru2 .nil), ⟨_, hTb, rfl, _, rfl⟩⟩
    have J := I.turnedNew (t' := s.toks) (ch := [z, TI, TO, i1, i2]) (h' := hb) (fun c o hc e => by
      obtain ⟨c1, c2, c3, c4, c5⟩ := nin hc
      exact (sb.2 c c1).trans (hk c o c1 c3 c4 c5 e)) hf (Nat.le_refl _) new
    refine ⟨.ref s.heap.objs.size, _, J, rfl, ⟨_, x, y, rfl, I.hok.fresh (Nat.le_refl _), rfl, fun l hl => by rw [I.list_inj hl hqx]; exact hx, fun l hl => by rw [I.list_inj hl hqy]; exact hy⟩, ⟨zb, (sb.2 _ D.TIz).trans (hk _ _ D.TIz D.TITO D.TIi1 D.TIi2 hTI), ⟨u, u2, (sb.2 _ D.TOz).trans TOa⟩, h1a.at fun o q => (sb.2 _ D.i1z).trans q, h2a.at fun o q => (sb.2 _ D.i2z).trans q⟩, fun c hc => ?_⟩
    obtain ⟨o, e, _⟩ := T.obj i s.heap ⟨hz, hTI, ⟨x0, y0, hTO⟩, h1, h2⟩ c hc
    rw [upd_ne (Nat.ne_of_lt (sz e))]
    exact (hf c hc).1
  · intro X hP hw hK i pins s σ H E x1 hot hx1 I hf st hg
    subst hP hw hK
    obtain ⟨hz, hTI, _, h1, _⟩ := st
    obtain ⟨xs, hq, hl⟩ := hg
    obtain ⟨its, rv, p, _⟩ := I.list hq
    have e := rv.length
    refine zip_ends hot (fun q => hx1 (by simp [q])) (fun q => hx1 (by simp [q])) D hz hTI h1 p.isList (by simp; omega) fun h' hk => ⟨rfl, ?_⟩
    exact I.turnedL (t' := s.toks) (ch := [z, TI, TO, i1, i2]) (fun c o hc q => hk c o (fun y => hc (by simp [y])) (fun y => hc (by simp [y])) q) hf
end L3
set_option maxRecDepth 100000
set_option maxHeartbeats 4000000
/-! L3J: a comprehension while an exception is handled. -/
namespace L3
open PySem PySem.Spec PyProof.Rows L2 HotX L2H
/-- the block of a comprehension that keeps sight of the exception -/
abbrev blkP (X : Cx) (p : Addr × Obj) (scope : Scope) (s : Shared) (H : Hp) (C : Addr) (cl : List (Str × Addr)) (fp : List Addr) : Cx := { X.blk s H scope (compEnvC scope cl C X.env) fp with pn := [p] }
theorem takes_blkP {X : Cx} {B : Bs} {p : Addr × Obj} {scope : Scope} {s : Shared} {H : Hp} {C : Addr} {cl : List (Str × Addr)} {fp : List Addr} : TakesD (blkP X p scope s H C cl fp) B noE := takesN0.imp fun c d σ H h => by
  obtain ⟨W, M, x, _, _, _, _, q⟩ := h
  exact q.elim
theorem hotAt_of {X : Cx} {pins : List (Addr × Obj)} {σ : L2.St} {H : Hp} {s : Shared} {p : Addr × Obj} (h1 : Hot1 X.A p) (hp : p ∈ X.pn) (I : Inv X pins σ H s) : HotAt X.A p.1 s.heap := by
  obtain ⟨hh, v, e, c⟩ := h1
  exact ⟨hh, p.2, v, (I.pin p (List.mem_append_left _ hp)).1, e, c⟩
theorem pg_tupH {X : Cx} {es : List Expr} {k n : Nat} {t : TGs} {pos : Pos} (hot : HotC X) (h : PGs X es t) (hn : (assignEach es X.env).length = n := by rfl) (hst : (assignEach es X.env).findIdx? (·.1) = none := by rfl) : PG X (.Tuple es k pos) (gTup X.K n t) := by
  refine ⟨fun pins s σ H v u Q I r hw => ?_⟩
  obtain ⟨a, xs, rfl, hq, hl, hw⟩ := hw
  obtain rfl : u = Value.ref a := r
  obtain ⟨its, rv, ht, _⟩ := I.tuple hq
  obtain ⟨x1, ha⟩ := hot.at I
  refine apart_hot ha ht (by simp [hn, ← hl, rv.length]) hst fun h' k => ?_
  exact h.run pins { s with heap := h' } σ H xs _ Q (I.kept (t' := s.toks) k) (by simpa using rv) hw

def PIEh (X : Cx) (pins : List (Addr × Obj)) (σ : L2.St) (tg : Expr) (R : It → Hp → Prop) (itv : Value) (s2 : Shared) : Prop :=
  ∃ (it : Addr) (fp : List Addr) (tn : Nat → Heap → Prop) (J : It) (H' : Hp), itv = .ref it ∧ Inv X pins σ H' s2 ∧ HTurn X.prog X.w X.K tg J fp it tn ∧ tn 0 s2.heap ∧ (∀ b ∈ fp, FpOk X pins H' b) ∧ R J H'
structure PIh (X : Cx) (tg iter : Expr) (wi : TI) : Prop where
  run : ∀ (pins : List (Addr × Obj)) (s : Shared) (σ : L2.St) (H : Hp) (R : It → Hp → Prop), Inv X pins σ H s → wi σ H R → wpAny (model X.prog X.w) X.A (eval iter X.env) (fun v s1 => wpAny (model X.prog X.w) X.A (pyIter v) (PIEh X pins σ tg R) X.xe s1) X.xe s
section
variable {X : Cx} {elt tg iter : Expr} {ifs : List Expr} {scope : Scope} {own : List (Str × Nat)} {pos : Pos} {wi : TI} {g : TG} {tt : TT} {te : TE}
theorem pe_lcH (hot : HotC X) (hN : X.N.Nodup) (hi : PIh X tg iter wi) (ok : BlkOk X.N X.env.scope scope own)
    (hg : ∀ (p : Addr × Obj) (s : Shared) (H : Hp) (C : Addr) (cl : List (Str × Addr)) (fp : List Addr), Hot1 X.A p → PG (blkP X p scope s H C cl fp) tg g)
    (ht : ∀ (p : Addr × Obj) (s : Shared) (H : Hp) (C : Addr) (cl : List (Str × Addr)) (fp : List Addr), PTs (blkP X p scope s H C cl fp) ifs tt)
    (he : ∀ (p : Addr × Obj) (s : Shared) (H : Hp) (C : Addr) (cl : List (Str × Addr)) (fp : List Addr), PE (blkP X p scope s H C cl fp) elt te) (hs : ∀ x, foldedSetIterable iter X.env x = pure x := by intro _; rfl) :
    PE X (.ListComp elt [⟨tg, iter, ifs, 0⟩] scope pos) (tLc wi g tt te (own.map (·.2))) := by
  obtain ⟨p, hp1, hp⟩ := hot
  refine ⟨fun pins s σ H Q I h => ?_⟩
  have hfree : ∀ y ∈ scope.names, y.2 = .free → ∃ c, X.env.cells.lookup y.1 = some c := fun y hy e => (ok.free y hy e).elim (fun k => I.ok.has _ (.inl k)) (fun k => I.ok.has _ (.inr k))
  rw [eval_ListComp]
  refine wpAny_comprehension_free rfl hs (closure_ok hfree) ok.kind (fun y hy e => by rw [ok.uniq y hy, e]) (thn (hi.run pins s σ H _ I h) fun _ _ hx => thn hx fun _ s2 h2 => ?_)
  obtain ⟨it, fp, tn, J, H2, rfl, I2, T, st2, f2, q⟩ := h2
  refine wpAny_newObj_type (newEnv_comp ?_) (by show 0 ≤ sizeLine; decide)
  obtain ⟨D, hD⟩ : ∃ D, s2.heap.objs.size = D := ⟨_, rfl⟩
  obtain ⟨W, ⟨m0, w0⟩, turn⟩ := q D (I2.hok.fresh (Nat.le_of_eq hD))
  rw [hD]
  obtain ⟨s3, e3⟩ : ∃ s3 : Shared, s3 = { s2 with heap := s2.heap.push { cls := .type "list", data := .seq ([] : List Value).toArray } } := ⟨_, rfl⟩
  have k3 : ∀ b o, s2.heap.get? b = some o → s3.heap.get? b = some o := fun b o e => by rw [e3]; exact Heap.get?_push_of_some _ e
  have I3 : Inv X pins σ (upd H2 D (.lst [])) s3 := by
    rw [e3]
    refine I2.laid (t' := s2.toks) (fun b o e => Heap.get?_push_of_some _ e) (Nat.le_of_eq hD) ⟨Nat.zero_le _, [], 0, .nil, ?_⟩
    rw [← hD]
    exact Heap.get?_push_size _ rfl
  obtain ⟨H3, eH⟩ : ∃ H3, H3 = upd H2 D (.lst []) := ⟨_, rfl⟩
  rw [← eH] at I3 w0
  have low : ∀ b ∈ fp, b < s2.heap.objs.size := fun b hb => by
    obtain ⟨o, e, _⟩ := T.obj _ _ st2 b hb
    exact Heap.lt_size e
  have f3 : ∀ b ∈ fp, FpOk X pins H3 b ∧ b < s3.heap.objs.size := fun b hb => by
    have l := low b hb
    obtain ⟨a1, a2⟩ := f2 b hb
    refine ⟨⟨by rw [eH, upd_ne (by rw [← hD]; exact Nat.ne_of_lt l)]; exact a1, a2⟩, ?_⟩
    rw [e3]
    exact Nat.lt_of_lt_of_le l (by rw [Heap.size_push]; exact Nat.le_succ _)
  have st3 : tn 0 s3.heap := T.keep _ _ _ st2 fun b _ o e => k3 b o e
  rw [← e3]
  -- the block
  have P3 := I3.pin p (List.mem_append_left _ hp)
  have nfp : p.1 ∉ fp := fun m => (f3 p.1 m).1.2.2.2.2.2 p (List.mem_append_left _ hp) rfl
  obtain ⟨ce, ece⟩ : ∃ ce, ce = compEnvC scope (cellsFrom (s3.heap.objs.size + 1) scope.names (cloFrom X.env.cells scope.names [])) s3.heap.objs.size X.env := ⟨_, rfl⟩
  have I4 := block_start I3 ok hN f3
  have cL : ce.locals = s3.heap.objs.size := by rw [ece]; rfl
  obtain ⟨s4, e4⟩ : ∃ s4 : Shared, s4 = { s3 with heap := pushCells (s3.heap.push { cls := .type "dict", data := .dict #[] }) scope.names } := ⟨_, rfl⟩
  have k4 : ∀ b o, s3.heap.get? b = some o → s4.heap.get? b = some o := fun b o e => by rw [e4]; exact pushCells_keeps _ _ _ _ (Heap.get?_push_of_some _ e)
  obtain ⟨Y, eY⟩ : ∃ Y : Cx, Y = { X.blk s3 H3 scope ce fp with pn := [p] } := ⟨_, rfl⟩
  have pg : PG Y tg g := by rw [eY, ece]; exact hg p s3 H3 s3.heap.objs.size _ fp hp1
  have pt : PTs Y ifs tt := by rw [eY, ece]; exact ht p s3 H3 s3.heap.objs.size _ fp
  have pe : PE Y elt te := by rw [eY, ece]; exact he p s3 H3 s3.heap.objs.size _ fp
  have J4 : Inv Y [] (L2.wipe σ (own.map (·.2))) H3 s4 := by
    rw [eY, ece, e4]
    have O := I4.ok
    refine ⟨⟨O.mod, O.kind, O.glob, O.blt, O.above, O.inj, O.has, O.cab, O.hd, O.frames, O.stk, O.exf, O.bs, O.bsz, O.noex, O.exfs, O.funs, O.frf⟩, I4.os, I4.bare, I4.base, I4.loc, I4.cell, I4.free, I4.freeC, fun q hq => ?_, I4.hok, I4.len⟩
    have eq : q = p := by simpa using hq
    rw [eq]
    refine ⟨?_, P3.2.1, ?_, ?_, P3.2.2.2.2⟩
    · rw [← e4]; exact k4 _ _ P3.1
    · rw [← ece, cL]; exact Nat.ne_of_lt (Heap.lt_size P3.1)
    · intro m
      rcases List.mem_cons.mp (I3.stkSub p.1 m) with z | z
      · exact P3.2.2.1 z
      · exact P3.2.2.2.1 z
  have stat : ∀ {σ' : L2.St} {H' : Hp} {s' : Shared}, Inv Y [] σ' H' s' → (∀ b ∈ fp, H' b = none) → ∀ b ∈ fp, FpOk Y [] H' b := fun {σ' H' s'} I' hn b hb => by
    have x1 := (I'.ok.exf b (by rw [eY]; exact hb))
    refine ⟨hn b hb, x1.1, I'.ok.exfs b (by rw [eY]; exact hb), .inl (by rw [eY]; exact hb), fun x c e => x1.2 x c e, fun r hr => ?_⟩
    have er : r = p := by rw [eY] at hr; simpa using hr
    rw [er]
    exact fun z => nfp (z ▸ hb)
  have hotY : ∀ {σ' : L2.St} {H' : Hp} {s' : Shared} {pins' : List (Addr × Obj)}, Inv Y pins' σ' H' s' → HotAt Y.A p.1 s'.heap := fun {σ' H' s' pins'} I' => hotAt_of (p := p) (by rw [eY]; exact hp1) (by rw [eY]; simp) I'
  have st4 : tn 0 s4.heap := T.keep _ _ _ st3 fun b _ o e => k4 b o e
  have Yp : Y.prog = X.prog := by rw [eY]
  have Yw : Y.w = X.w := by rw [eY]
  have YK : Y.K = X.K := by rw [eY]
  have YA : Y.A = X.A := by rw [eY]
  have Ye : Y.env = ce := by rw [eY]
  have Yx : Y.xe = fun _ _ => False := by rw [eY]
  have loop : codeAny (model X.prog X.w) X.A (.compLoop (.ListComp elt [⟨tg, iter, ifs, 0⟩] scope pos) 0 (.ref it) (.ref D) ce) (compPost (model X.prog X.w) X.A X.xe none (EP X pins σ Q) (.ref D) s3.heap.objs.size) s4 := by
    refine compLoop_any (fun n s' => ∃ i H', Inv Y [] (L2.wipe σ (own.map (·.2))) H' s' ∧ tn i s'.heap ∧ (∀ b ∈ fp, H' b = none) ∧ W i n H') ?_ m0 ⟨0, H3, J4, st4, fun b hb => (f3 b hb).1.1, w0⟩
    rintro n s5 ⟨i, H5, I5, st5, n5, w5⟩
    rcases turn i n H5 w5 with ⟨stop, qq⟩ | ⟨go, Nx, hNx, step⟩
    · have td := T.done Y Yp Yw YK i [] s5 _ H5 (fun _ _ => False) p.1 (hotY I5) nfp I5 (stat I5 n5) st5 stop
      rw [YA] at td
      refine thnF td fun r s6 ⟨hr, I6⟩ => ?_
      subst hr
      -- the comprehension's own names are let go
      have I7 : Inv X pins σ H5 s6 := by
        have o := I6.os
        have b := I6.base
        have k := I6.hok
        rw [eY] at o b
        rw [Yp, Yw] at k
        exact I3.call' (ch := fp) o b k I6.bare fun c hc => ⟨(f3 c hc).1.2.2.2.1, (f3 c hc).1.2.1, (f3 c hc).1.2.2.2.2.1, (f3 c hc).1.2.2.2.2.2⟩
      have nC : H5 s3.heap.objs.size = none := by
        have z := I6.free
        rw [Ye, cL] at z
        exact z
      obtain ⟨m, hn, _⟩ := I6.loc
      rw [Ye, cL] at hn
      obtain ⟨g0, g1, g2, g3, g4, g5⟩ := I3.fpOk (H' := H5) (Nat.le_refl s3.heap.objs.size) nC
      exact ⟨m, hn, fun h'' sb => ⟨.ref D, H5, I7.turned (t' := s6.toks) (fun b o hb e => (sb.2 b hb).trans e) g0 g1 g3 g4 g5, rfl, qq⟩⟩
    · have ti := T.item Y Yp Yw YK i [] s5 _ H5 (fun _ _ => False) I5 (stat I5 n5) st5 go
      rw [YA] at ti
      refine thnF ti fun r s6 ⟨u, hr, h6⟩ => ?_
      subst hr
      refine thnF h6 fun _ s7 ⟨x, H7, I7, r7, y7, st7, n7⟩ => ?_
      have I7' := I7.pinned (stat I7 n7) (T.obj _ _ st7)
      have rg := pg.run _ s7 _ H7 x u _ I7' r7 (step x H7 y7)
      rw [Yp, Yw, YA, Ye, Yx] at rg
      refine thnF rg fun _ s8 ⟨σ8, H8, I8, hw8, q8⟩ => ?_
      have rt := pt.run _ s8 σ8 H8 _ I8 q8
      rw [Yp, Yw, YA, Ye, Yx] at rt
      refine thnF rt fun b s9 ⟨H9, I9, q9⟩ => ?_
      have fin : ∀ {s' : Shared} {H' : Hp}, Inv Y ([] ++ pinsAt fp s7.heap) σ8 H' s' → Nx H' → ∃ m, m < n ∧ ∃ i H', Inv Y [] (L2.wipe σ (own.map (·.2))) H' s' ∧ tn i s'.heap ∧ (∀ b ∈ fp, H' b = none) ∧ W i m H' := fun {s' H'} I' nx => by
        obtain ⟨m', hm, w'⟩ := hNx H' nx
        have held : ∀ b ∈ fp, ∀ o, s7.heap.get? b = some o → s'.heap.get? b = some o ∧ H' b = none := fun b hb o e => by
          have z := I'.pin (b, o) (List.mem_append_right _ (List.mem_append_right _ (mem_pinsAt hb e)))
          exact ⟨z.1, z.2.1⟩
        refine ⟨m', hm, i + 1, H', (I'.unpinned (pins := [])).weak (by rw [← hw8, wipe_length]) (fun j v e => (wipe_some (by rw [hw8]; exact e)).1), T.keep _ _ _ st7 fun b hb o e => (held b hb o e).1, fun b hb => ?_, w'⟩
        obtain ⟨o, e, _⟩ := T.obj _ _ st7 b hb
        exact (held b hb o e).2
      cases b with
      | false => exact fin I9 q9
      | true =>
        have re := pe.run _ s9 σ8 H9 _ I9 q9
        rw [Yp, Yw, YA, Ye, Yx] at re
        refine thnF re fun v s10 ⟨yv, H10, I10, r10, acc, hD10, hz10, nx⟩ => ?_
        have ra := fun E => app_ok (X := Y) (E := E) (Q := fun _ s' => ∃ m, m < n ∧ ∃ i H', Inv Y [] (L2.wipe σ (own.map (·.2))) H' s' ∧ tn i s'.heap ∧ (∀ b ∈ fp, H' b = none) ∧ W i m H') I10 hD10 hz10 r10 fun s11 I11 => fin I11 nx
        rw [Yp, Yw, YA] at ra
        exact ra _
  show codeAny _ _ (.compStart (.ListComp elt [⟨tg, iter, ifs, 0⟩] scope pos) 0 (.ref it) (.ref D) (compEnvC scope (cellsFrom (s3.heap.objs.size + 1) scope.names (cloFrom X.env.cells scope.names [])) s3.heap.objs.size X.env)) (compPost (model X.prog X.w) X.A X.xe none (EP X pins σ Q) (.ref D) s3.heap.objs.size) { s3 with heap := pushCells (s3.heap.push { cls := .type "dict", data := .dict #[] }) scope.names }
  rw [← ece, ← e4]
  exact codeAny_compStart_list loop (T.self X.A 0 _ _ _ st4 loop)
end

/-! ### zip of two lists, in data -/
theorem pih_zip {X : Cx} {e e2 : Expr} {ta : TA} {p pos tpos : Pos} {elts : List Expr} {kk : Nat} (hg : Gl X "zip") (hm : X.mg "zip" = none) (ha : PA X [e, e2] ta) (hs : starEach [e, e2] X.env = (false, eval e X.env) :: starEach [e2] X.env := by rfl)
    (hpl : (backTo pos (starEach [e2] X.env)).any (·.1) = false := by rfl) : PIh X (.Tuple elts kk tpos) (.Call (.Name "zip" p) [e, e2] [] pos) (fun σ H R => ta σ H fun vs H1 => ∃ a b xs ys, vs = [.ref a, .ref b] ∧ SqL X.K H1 a xs ∧ SqL X.K H1 b ys ∧ R (ItzE X.K a b) H1) := by
  refine ⟨fun pins s σ H R I h => Call_ (ld_blt I hg hm PyProof.Rows.boot_zip (PyProof.Rows.callWith_type1 (thn (ha.run pos pins s σ H _ I h) fun us s1 ⟨vs, H1, I1, r1, q1⟩ => ?_) hs hpl))⟩
  obtain ⟨a, b, xs, ys, rfl, hqx, hqy, q⟩ := q1
  obtain ⟨u1, us, rfl⟩ : ∃ x y, us = x :: y := by cases r1; exact ⟨_, _, rfl⟩
  cases r1 with
  | cons ra rr =>
    cases rr with
    | cons rb rr =>
      cases rr
      cases ra
      cases rb
      obtain ⟨its, rv, p1, _⟩ := I1.list hqx
      obtain ⟨its2, rv2, p2, _⟩ := I1.list hqy
      refine call_zip_2 p1.isList p2.isList fun h' hz hTI hTO h1 h2 _ hk => wpAny_pyIter_zip hz ?_
      refine ⟨s1.heap.objs.size + 4, [s1.heap.objs.size + 4, s1.heap.objs.size + 2, s1.heap.objs.size + 3, s1.heap.objs.size, s1.heap.objs.size + 1], _, _, H1, rfl, I1.kept (t' := s1.toks) hk, hturn_zip (PySem.W.ktu_apart s1.heap.objs.size a b p1.lt p2.lt), ⟨hz, hTI, ⟨_, _, hTO⟩, h1, h2⟩, fun c hc => ?_, q⟩
      have le : s1.heap.objs.size ≤ c := by
        have e' : c = s1.heap.objs.size + 4 ∨ c = s1.heap.objs.size + 2 ∨ c = s1.heap.objs.size + 3 ∨ c = s1.heap.objs.size ∨ c = s1.heap.objs.size + 1 := by simpa using hc
        have le : ∀ n, s1.heap.objs.size ≤ s1.heap.objs.size + n := fun n => Nat.le_add_right _ _
        rcases e' with z | z | z | z | z <;> rw [z] <;> first | exact le _ | exact Nat.le_refl _
      exact I1.fpOk le (I1.hok.fresh le)
def zipD : List D → List D → List D
  | x :: xs, y :: ys => .tup [x, y] :: zipD xs ys
  | _, _ => []
theorem zipD_at : ∀ {xs ys : List D} {i : Nat} {d : D}, (zipD xs ys)[i]? = some d → ∃ x y, d = .tup [x, y] ∧ xs[i]? = some x ∧ ys[i]? = some y
  | [], _, _, _, h => by simp [zipD] at h
  | _ :: _, [], _, _, h => by simp [zipD] at h
  | x :: xs, y :: ys, 0, d, h => by
    have h' : D.tup [x, y] = d := by simpa [zipD] using h
    exact ⟨x, y, h'.symm, rfl, rfl⟩
  | x :: xs, y :: ys, i + 1, d, h => by
    obtain ⟨a, b, e, h1, h2⟩ := zipD_at (xs := xs) (ys := ys) (i := i) (d := d) (by simpa [zipD] using h)
    exact ⟨a, b, e, by simpa using h1, by simpa using h2⟩
theorem zipD_len : ∀ {xs ys : List D}, xs.length = ys.length → (zipD xs ys).length = xs.length
  | [], _, _ => rfl
  | _ :: _, [], h => by simp at h
  | x :: xs, y :: ys, h => by
    have h' : xs.length = ys.length := by simpa using h
    show (zipD xs ys).length + 1 = xs.length + 1
    rw [zipD_len h']
def DIh (X : Cx) (B : Bs) (tg iter : Expr) (w : WI) : Prop := ∀ E, TakesD X B E → PIh X tg iter (tID B X.K w E)
def iZip (z : WA) : WI := fun env M R E => z env M (fun ds M1 => match ds with
  | [.lst xs, .lst ys] => xs.length = ys.length ∧ R (zipD xs ys) M1
  | _ => False) E
theorem dih_zip {X : Cx} {B : Bs} {a b : Expr} {z : WA} {p pos tpos : Pos} {elts : List Expr} {kk : Nat} (hg : Gl X "zip") (hm : X.mg "zip" = none) (ha : DA X B [a, b] z) (hs : starEach [a, b] X.env = (false, eval a X.env) :: starEach [b] X.env := by rfl)
    (hpl : (backTo pos (starEach [b] X.env)).any (·.1) = false := by rfl) : DIh X B (.Tuple elts kk tpos) (.Call (.Name "zip" p) [a, b] [] pos) (iZip z) := fun E tk => by
  refine ⟨fun pins s σ H R I h => (pih_zip hg hm (ha E tk) hs hpl).run pins s σ H R I ?_⟩
  obtain ⟨env, W, M, R', Rr, q, k⟩ := h
  refine ⟨env, W, M, _, Rr, q, fun vs H1 W1 ds M1 R1 s1 r1 q1 => ?_⟩
  split at q1
  · rename_i xs ys
    obtain ⟨hl, q1⟩ := q1
    cases r1 with
    | cons ra rr =>
      cases rr with
      | cons rb rr =>
        cases rr
        cases ra with
        | lst ea ra =>
          cases rb with
          | lst eb rb =>
            refine ⟨_, _, _, _, rfl, SqL.of (R1.fit.fz _ _ ea), SqL.of (R1.fit.fz _ _ eb), k _ _ _ _ _ R1 s1 (fun i env' σ' W' H' M' R'' s'' => ?_) q1⟩
            have fa := SqL.of (K := X.K) (R''.fit.fz _ _ (s''.le.fz _ _ ea))
            have fb := SqL.of (K := X.K) (R''.fit.fz _ _ (s''.le.fz _ _ eb))
            have r1 := Reps.mono s''.le _ _ ra
            have r2 := Reps.mono s''.le _ _ rb
            refine ⟨fun d hd => ?_, fun hi => ⟨_, fa, by rw [zipD_len hl] at hi; rw [r1.length]; exact hi⟩⟩
            obtain ⟨x, y, rfl, hx, hy⟩ := zipD_at hd
            obtain ⟨v, hv, rv⟩ := r1.get hx
            obtain ⟨u, hu, ru⟩ := r2.get hy
            refine ⟨⟨_, _, _, _, fa, fb, hv, hu⟩, fun t H2 y' => ?_⟩
            obtain ⟨T, x', y2, rfl, hT, rfl, g1, g2⟩ := y'
            have e1 := g1 _ fa
            have e2 := g2 _ fb
            rw [hv] at e1
            rw [hu] at e2
            cases e1
            cases e2
            obtain ⟨R3, s3⟩ := R''.laid (o := .tup [v, u]) hT
            exact ⟨_, R3, s3, .tup upd_same (.cons (Rep.mono s3.le _ _ rv) (.cons (Rep.mono s3.le _ _ ru) .nil))⟩
  · exact q1.elim
theorem df_lcH {X : Cx} {B : Bs} {elt tg iter : Expr} {ifs : List Expr} {w : WE} {u : WT} {wi : WI} {pos : Pos} {scope : Scope} {own : List (Str × Nat)} {t : TG} {g : D → Envd → Option Envd} (hot : HotC X) (hN : X.N.Nodup) (hi : DIh X B tg iter wi) (ok : BlkOk X.N X.env.scope scope own) (L : CLink X.K (own.map (·.2)) t g)
    (hg : ∀ (p : Addr × Obj) (s : Shared) (H : Hp) (C : Addr) (cl : List (Str × Addr)) (fp : List Addr), HotC (blkP X p scope s H C cl fp) → PG (blkP X p scope s H C cl fp) tg t)
    (ht : ∀ (p : Addr × Obj) (s : Shared) (H : Hp) (C : Addr) (cl : List (Str × Addr)) (fp : List Addr), DTs (blkP X p scope s H C cl fp) B ifs u)
    (he : ∀ (p : Addr × Obj) (s : Shared) (H : Hp) (C : Addr) (cl : List (Str × Addr)) (fp : List Addr), DE (blkP X p scope s H C cl fp) B elt w) (hs : ∀ x, foldedSetIterable iter X.env x = pure x := by intro _; rfl) :
    DF X B (.ListComp elt [⟨tg, iter, ifs, 0⟩] scope pos) (fLc (own.map (·.2)) wi g u w) := fun E tk =>
  (pe_lcH hot hN (hi E tk) ok (fun p s H C cl fp h1 => hg p s H C cl fp ⟨p, h1, by simp⟩) (fun p s H C cl fp => ht p s H C cl fp noE takes_blkP) (fun p s H C cl fp => he p s H C cl fp noE takes_blkP) hs).imp fun σ H Q h => lc_read L h
end L3
set_option maxRecDepth 100000
set_option maxHeartbeats 4000000
/-! L3K: errors caught by name; what a suite may ask of them; lambdas. -/
namespace L3
open PySem PySem.Spec PyProof.Rows L2 HotX L2H

/-! ### try with several clauses, each with the one name -/
/-- what is wished of an exception: the first class of the list that fits; n: the number of slots, i: the name's slot -/
def wK (K : PySem.W.Frag) (n i : Nat) (nx : L2.St → Hp → Prop) : List (Value × (Addr → Obj → Value → Option Addr → TS)) → WX
  | [] => fun _ _ _ _ => False
  | (c, ts) :: r => fun cls d σ H => ∃ b, PySem.W.exmOne K cls c = some b ∧
      (b = true → ∀ a oe, H a = none → σ.length = n → ts a oe cls d ⟨fun σ' H' => nx (σ'.set i none) H', fun _ _ => False, fun _ _ => False, fun _ _ => False⟩ (σ.set i (some (.ref a))) H) ∧ (b = false → wK K n i nx r cls d σ H)
inductive HdsK (X : Cx) (n : Str) : List ExceptHandler → List (Value × (Addr → Obj → Value → Option Addr → TS)) → Prop
  | nil : HdsK X n [] []
  | cons {x : Str} {c : Value} {ts : Addr → Obj → Value → Option Addr → TS} {b₀ : Stmt} {suite : List Stmt} {np pos' : Pos} {hds : List ExceptHandler} {l : List (Value × (Addr → Obj → Value → Option Addr → TS))} (hc : Names X x c)
      (hsu : ∀ (a : Addr) (oe : Obj) (cls : Value) (d : Option Addr) (pn : List (Addr × Obj)), L2N.Zn cls d oe → (∃ vs, oe.data = .fields vs) → PSs (X.suite a ((a, oe) :: pn)) (b₀ :: suite) (ts a oe cls d)) (r : HdsK X n hds l) :
      HdsK X n (.ExceptHandler (some (.Name x np)) (some n) (b₀ :: suite) pos' :: hds) ((c, ts) :: l)
section
variable {X : Cx} {body : List Stmt} {h₀ : ExceptHandler} {hds : List ExceptHandler} {l : List (Value × (Addr → Obj → Value → Option Addr → TS))} {pos : Pos} {tb : WX → TS} {n : Str} {i : Nat}
theorem ps_tryK (hs : X.stack = X.env :: X.outer) (hf : X.env.frame = some X.env.locals) (hN : X.N.Nodup) (hi : X.N[i]? = some n) (hln : X.env.kindOf n = some .local)
    (hb : ∀ (W : WX) (pn : List (Addr × Obj)) (xe : Value → Shared → Prop), L2N.Takes (X.tr pn xe) W → PSs (X.tr pn xe) body (tb W)) (hh : HdsK X n (h₀ :: hds) l) :
    PS X (.Try body (h₀ :: hds) [] [] pos) (fun D σ H => tb (wK X.K X.N.length i D.nx l) D σ H) := by
  refine ⟨fun pins s σ H D I h => wpAny_Try_except ?_⟩
  have ok := I.ok
  have hfr : X.A.frames = some (X.env :: X.outer) := by rw [ok.frames, hs]
  have hnm : X.env.scope.names.lookup n = some .local := hln
  let land : Value → Shared → Prop := fun e s₁ => wpAny (model X.prog X.w) X.A (noteFrame e X.env) (fun _ s₂ => wpAny (model X.prog X.w) X.A (setFlight e none) (fun _ s₃ => wpAny (model X.prog X.w) X.A (handleBy e X.env (h₀ :: hds)) (SP X pins D) X.xe s₃) X.xe s₂) X.xe s₁
  have taken : L2N.Takes (X.tr (X.pn ++ pins) land) (wK X.K X.N.length i D.nx l) := fun u s' xx => by
    obtain ⟨a, B, sI, pins', σ', H', cls, d, rfl, J', nb, up, sky, na, os, ag, w⟩ := xx
    have J : Inv X pins σ' H' sI := J'.ofTry ok
    have sky' : Sky B (X.env :: X.outer) a (L2N.Zn cls d) X.env.locals s'.heap := by rw [← hs]; exact sky
    refine L2N.Sky.land L2N.Zn.steady hfr hf sky' fun hc fl upc => ?_
    have Jc : Inv X pins σ' H' { s' with heap := hc } := J.landed nb fl.1 (up.trans upc) os ag
    obtain ⟨oe, vs, he, hz, hd⟩ := fl.there
    have outF : a ∉ frs (X.env :: X.outer) := fun m => by
      obtain ⟨_, o, e, no⟩ := fl.2.2.1.mem m
      rw [he] at e
      cases e
      exact no _ hd
    have outL : a ≠ X.env.locals := fun z => outF (List.mem_filterMap.mpr ⟨X.env, List.mem_cons_self, by rw [hf, z]⟩)
    have outS : a ∉ X.fs := fun m => by
      obtain ⟨e, h1, h2⟩ := List.mem_filterMap.mp m
      exact outF (List.mem_filterMap.mpr ⟨e, List.mem_cons_of_mem _ h1, h2⟩)
    have S := Jc.suite he hd na outL outS
    have LT : PySem.W.Looks (model X.prog X.w) hc (typeOf (.ref a)) cls := fun A Q E s k q => wpAny_typeOf_ref (k _ _ he) (by rw [hz.1]; exact q)
    suffices go : ∀ (hds' : List ExceptHandler) (l' : List (Value × (Addr → Obj → Value → Option Addr → TS))), HdsK X n hds' l' → wK X.K X.N.length i D.nx l' cls d σ' H' → wpAny (model X.prog X.w) X.A (handleBy (.ref a) X.env hds') (SP X pins D) X.xe { s' with heap := hc } from go _ _ hh w
    intro hds' l' hk
    induction hk with
    | nil => intro w; exact w.elim
    | @cons x c ts b₀ suite np pos' hds2 l2 hcn hsu r ih =>
      rintro ⟨b, hb1, hyes, hno⟩
      refine wpAny_handleBy_cons (codeAny_handlers_test ?_) (by intro q; cases q)
      have asked : ∀ {Q : Value → Shared → Prop} {E : Value → Shared → Prop}, Q c { s' with heap := hc } → wpAny (model X.prog X.w) (X.A.mark (some (.ref a))) (eval (.Name x np) X.env) Q E { s' with heap := hc } := fun {Q E} q => by
        obtain ⟨hg, hdb, hm | ⟨hm, hv, hnn⟩⟩ := hcn
        · exact ld_glob (X := X.suite a ((a, oe) :: (X.pn ++ pins))) S hg hm q hdb
        · exact ld_blt (X := X.suite a ((a, oe) :: (X.pn ++ pins))) S hg hm hv q hnn hdb
      refine asked ((PySem.W.exm_one (M := model X.prog X.w) Jc.kIn LT hb1).here ?_)
      cases b with
      | false => exact ih (hno rfl)
      | true =>
        refine codeAny_handlers_suite_as (HandSPX.lands_againZ fl fun hd4 fl4 up4 => ?_)
        have J4 : Inv X pins σ' H' { s' with heap := hd4 } := J.landed nb fl4.1 ((up.trans upc).trans up4) os ag
        obtain ⟨oe4, vs4, he4, hz4, hdd4⟩ := fl4.there
        refine store_ok (X := X.suite a ((a, oe4) :: (X.pn ++ pins))) (v := .ref a) (J4.suite he4 hdd4 na outL outS) hN hi (.inl hln) rfl (fun s5 S5 => ?_) (.inr hnm)
        refine wpAny_mono ((hsu a oe4 cls d (X.pn ++ pins) hz4 ⟨_, hdd4⟩).run [] s5 _ H' _ S5 (hyes rfl a oe4 na J.len)) (fun f s6 q6 => ?_) (fun _ _ z => False.elim z)
        cases f with
        | next =>
          obtain ⟨σ6, H6, S6, q6⟩ := q6
          exact gone_ok (S6.unsuite ok) hN hi hln fun s7 J7 => ⟨_, _, J7, q6⟩
        | brk => obtain ⟨_, _, _, q6⟩ := q6; exact q6.elim
        | cont => obtain ⟨_, _, _, q6⟩ := q6; exact q6.elim
        | ret u => obtain ⟨_, _, _, _, _, q6⟩ := q6; exact q6.elim
  refine wpAny_mono ((hb _ (X.pn ++ pins) land taken).run [] s σ H D (I.toTry _) h) (fun f s1 q => ?_) (fun e s1 he => he)
  cases f with
  | next =>
    obtain ⟨σ', H', J', q⟩ := q
    exact wpAny_execs_nil ⟨σ', H', J'.ofTry ok, q⟩
  | brk =>
    obtain ⟨σ', H', J', q⟩ := q
    exact ⟨σ', H', J'.ofTry ok, q⟩
  | cont =>
    obtain ⟨σ', H', J', q⟩ := q
    exact ⟨σ', H', J'.ofTry ok, q⟩
  | ret u =>
    obtain ⟨v, σ', H', J', r, q⟩ := q
    exact ⟨v, σ', H', J'.ofTry ok, r, q⟩
end

/-! ### isinstance of the caught one -/
def rIsP (K : PySem.W.Frag) (D a : Addr) (d : Option Addr) : List V → Hp → VK → Prop := fun xs H Q => ∃ (c : V) (cv : Value) (b : Bool), xs = [.ref a, c] ∧ (∀ u, RelV c u → u = cv) ∧ PySem.W.kitOne K (.ref D) cv = some b ∧ (∀ dd, d = some dd → ∃ fs, H dd = some (.xd fs)) ∧ Q (.bl b) H
theorem call_isP {X : Cx} {p : Addr × Obj} {D : Addr} {d : Option Addr} (hp : p ∈ X.pn) (C : ExcC X.K D) (hz : L2N.Zn (.ref D) d p.2) (hf : ∃ vs, p.2.data = .fields vs) : CallR X (.builtin "isinstance") (rIsP X.K D p.1 d) := by
  intro pins s σ H xs us Q I r h
  obtain ⟨c, cv, b, rfl, hcv, e, hd, q⟩ := h
  obtain ⟨u1, us1, rfl⟩ : ∃ x y, us = x :: y := by cases r; exact ⟨_, _, rfl⟩
  cases r with
  | cons rx rr =>
    cases rr with
    | cons rt rr =>
      cases rr
      obtain rfl : u1 = Value.ref p.1 := rx
      obtain rfl := hcv _ rt
      have hget := (I.pin p (List.mem_append_left _ hp)).1
      obtain ⟨vs, hv⟩ := hf
      have hcl : (PySem.W.clsIn X.K D).isSome = true := by
        obtain ⟨cd, hc, _⟩ := PySem.W.any_some C.hd
        rw [hc]; rfl
      obtain ⟨od, J⟩ : ∃ od, PySem.W.InstAt s.heap p.1 p.2 D od := by
        have nc : PySem.W.notCls p.2 = true := by unfold PySem.W.notCls; rw [hv]
        cases hdd : d with
        | none => exact ⟨none, hget, hz.1, nc, by rw [hz.2.1, hdd]; trivial⟩
        | some dd =>
          obtain ⟨fs, ed⟩ := hd dd hdd
          obtain ⟨mA, hns, _⟩ : ObjOk X.prog X.w H s.heap dd (.xd fs) := I.hok dd _ ed
          obtain ⟨od, ho, _⟩ := lookIn_ns hns
          exact ⟨some od, hget, hz.1, nc, by rw [hz.2.1, hdd]; exact ho⟩
      exact PySem.W.kia_one (PySem.W.kitx_exc hcl C.hg C.hk C.hs C.ha C.hn C.ht C.hm) I.kIn J e (fun z => nomatch z) fun tk => ⟨.bl b, H, I.kept (t' := tk) fun _ _ z => z, rfl, q⟩
/-- the slot i holds the caught one; b: the answer -/
def wIsP (a : Addr) (b : Bool) (i : Nat) : WE := fun env M Q _ => env[i]? = some (some (.adr a)) ∧ Q (.bl b) M
section
variable {X : Cx} {B : Bs} {pos : Pos} {p : Addr × Obj} {D : Addr} {d : Option Addr}
theorem de_isP {i : Nat} {b : Bool} {x c : Str} {cu : Value} {cv : V} {p1 p2 p3 : Pos} (hp : p ∈ X.pn) (C : ExcC X.K D) (hz : L2N.Zn (.ref D) d p.2) (hf : ∃ vs, p.2.data = .fields vs) (hB : ∀ dd, d = some dd → (∃ fs, B.H dd = some (.xd fs)) ∧ dd ∉ B.W.ro)
    (hN : X.N[i]? = some x) (hv : Vis X.env.scope x) (hg : Gl X "isinstance") (hm : X.mg "isinstance" = none) (hc : PE X (.Name c p3) (tC cv)) (hcu : ∀ u, RelV cv u → u = cu) (hk : PySem.W.kitOne X.K (.ref D) cu = some b) (hd : (x == ("__debug__" : Str)) = false := by decide) (hcd : (x == ("__classdict__" : Str)) = false := by decide)
    (he : starEach [.Name x p2, .Name c p3] X.env = (false, eval (.Name x p2) X.env) :: starEach [.Name c p3] X.env := by rfl) (he2 : starEach [.Name c p3] X.env = (false, eval (.Name c p3) X.env) :: starEach [] X.env := by rfl) (hpl : (backTo pos (starEach [.Name c p3] X.env)).any (·.1) = false := by rfl) :
    DE X B (.Call (.Name "isinstance" p1) [.Name x p2, .Name c p3] [] pos) (wIsP p.1 b i) := fun E tk =>
  (pe_callB (call_isP hp C hz hf) hg hm (by decide +kernel) (pa_cons (pe_var hN hv hd hcd) (pa_cons hc pa_nil he2) he) (he := he) (hpl := hpl)).imp fun σ H Q h => by
    obtain ⟨env, W, M, Q', R, ⟨q1, q2⟩, k⟩ := h
    obtain ⟨v, e1, r⟩ := R.env.get i _ q1
    cases r
    refine ⟨_, e1, cv, cu, b, rfl, hcu, hk, fun dd e => ?_, k _ _ _ _ _ R .refl (.bl b) q2⟩
    obtain ⟨⟨fs, e2⟩, n1⟩ := hB dd e
    exact ⟨fs, R.sin.keep _ _ e2 n1 (.inr rfl)⟩
end

/-! ### a def called in a suite -/
theorem run_hot {CX : CXT} {P : Program} {w : World} {K : PySem.W.Frag} {mg : Str → Option Value} {base : Heap} {k : Nat} {f : Addr} {name qual : Str} {params : Arguments} {body : List Stmt} {scope : Scope} {dV kV doc pm cdv ct oc : Value} {an od : Option Addr} {osl : Array (Option Value)} {N ps : List Str}
    (lk : K.lookup f = some ⟨oc, od, .func (PySem.W.fnOf name qual params body scope dV kV doc pm an cdv ct), osl⟩) (hcd : PySem.W.codeIn K cdv qual = true) (S : FnScope N ps scope) {A : Around} {outer : List Env} {s : Shared} {H : Hp} {args : Args} {us : List Value} {vs : List V} {Q : VK} {E : XK} {p : Addr × Obj}
    (hr : RoomH (k + 1) A) (hpin : PinOk outer H s p) (e0 : Env0 P w K mg base A outer s H) (hb : BindsTo s (PySem.W.fnOf name qual params body scope dV kV doc pm an cdv ct) args (ps.zip us)) (r : Vals vs us) (hl : vs.length = ps.length)
    (hbody : RoomH k (A.deeper (envOfC qual scope s.heap.objs.size f cdv)) → ∃ t, PSs (cxH CX P w K mg base N qual scope f cdv A outer s H E p) body t ∧ t { nx := fun _ H' => Q .non H', rt := Q } (L2.start N vs) H) :
    codeAny (model P w) A (.call (.ref f) args) (CR CX outer P w H s Q E) s := by
  have names : ∀ y ∈ ps.zip us, scope.names.lookup y.1 = some .local ∨ (scope.names.lookup y.1 = some .cell ∧ ((cellsFrom (s.heap.objs.size + 1) scope.names []).lookup y.1).isSome = true) := fun y hy =>
    (S.par y.1 (List.of_mem_zip hy).1).elim .inl fun q => .inr ⟨q, PySem.W.cellsFrom_some _ _ _ (.inl q)⟩
  have KX : K.In s.heap := e0.mod.kin.keeps fun b o e => (e0.bs b o e).1
  have lim : s.heap.NoLimit := e0.mod.nolimit.keeps fun b o e => (e0.bs b o e).1
  refine codeAny_call_function hr.depth (KX _ _ lk) rfl S.co S.gen rfl (PySem.W.codeRec_of KX hcd) (hb _ _ _ _ (wpAny_newFunctionEnv_cells S.kind names fun env he s1 x => ?_))
  subst he
  obtain ⟨t, ht, hq⟩ := hbody (hr.deeper _)
  refine ⟨lim.keeps x.toInCall.keep, codeAny_func (wpAny_mono (ht.run [] s1 (L2.start N vs) H _ (inv_startH S hpin e0 hl r x) hq) (fun fl s' hs => ?_) fun e s' hs => hs)⟩
  cases fl with
  | ret u =>
    obtain ⟨v, σ', H', J, rv, q⟩ := hs
    exact ⟨v, H', J.os, J.bare, J.base, J.hok, rv, q⟩
  | next =>
    obtain ⟨σ', H', J, q⟩ := hs
    exact ⟨.non, H', J.os, J.bare, J.base, J.hok, rfl, q⟩
  | brk => obtain ⟨_, _, _, q⟩ := hs; exact q.elim
  | cont => obtain ⟨_, _, _, q⟩ := hs; exact q.elim

/-- the caught one's dict, where it has one, is known from the base -/
def DictIn (B : Bs) (d : Option Addr) : Prop := ∀ dd, d = some dd → (∃ fs, B.H dd = some (.xd fs)) ∧ dd ∉ B.W.ro
def wTell (a : Addr) (t : D) (i : Nat) : WE := fun env M Q _ => env[i]? = some (some (.adr a)) ∧ Q t M
theorem de_tell {X : Cx} {B : Bs} {pos : Pos} {p : Addr × Obj} {d : Option Addr} {x e a : Str} {st : Stmt} {f : Addr} {fd : FuncData} {N : List Str} {i k : Nat} {wb : WS} {t : D} {p1 p2 : Pos} (F : Fun X.K x x st f fd) (hm : X.mg x = some (.ref f)) (hb : Binds X.K fd [a] [])
    (S : FnScope N [a] (defScope st)) (hr : RoomH (k + 1) X.A) (h1 : Hot1 X.A p) (hp : p ∈ X.pn) (hB : DictIn B d) (hg : Gl X x) (hN : X.N[i]? = some e) (hv : Vis X.env.scope e) (ht : ∀ W, ∀ v, Rep X.K W v t → ∀ W', Rep X.K W' v t)
    (hbody : ∀ (cdv : Value) (A : Around) (outer : List Env) (s : Shared) (H : Hp) (B' : Bs), DictIn B' d → Hot1 A p → RoomH k (A.deeper (envOfC x (defScope st) s.heap.objs.size f cdv)) →
      DSs (cxH (L2N.CX X.prog X.w) X.prog X.w X.K X.mg X.base N x (defScope st) f cdv A outer s H (fun _ _ _ => False) p) B' (defBody st) wb)
    (hct : ∀ M, wb (startD N [.adr p.1]) M { nx := fun _ _ => False, rt := fun d M' => d = t ∧ M' = M, bk := fun _ _ => False, ct := fun _ _ => False } noE)
    (hdb : (x == ("__debug__" : Str)) = false := by decide) (hd : (e == ("__debug__" : Str)) = false := by decide) (hcd : (e == ("__classdict__" : Str)) = false := by decide)
    (he : starEach [.Name e p2] X.env = (false, eval (.Name e p2) X.env) :: starEach [] X.env := by rfl) (hpl : (backTo pos (starEach ([] : List Expr) X.env)).any (·.1) = false := by rfl) :
    DE X B (.Call (.Name x p1) [.Name e p2] [] pos) (wTell p.1 t i) := fun E tk => by
  refine ⟨fun pins s σ H Q I h => ?_⟩
  obtain ⟨env, W, M, Q', R, ⟨q1, q2⟩, kk⟩ := h
  obtain ⟨v, e1, rv⟩ := R.env.get i _ q1
  cases rv
  have ha : PA X [.Name e p2] _ := pa_cons (pe_var hN hv hd hcd) pa_nil he
  refine wpAny_Call_Name_kw (ld_glob I hg hm ?_ hdb)
  refine PySem.W.callWith_K (h₀ := X.base) I.ok.mod.kin F.kp (thn (ha.run pos pins s σ H (fun vs H1 => vs = [V.ref p.1] ∧ H1 = H) I ⟨_, e1, rfl, rfl⟩) fun us s1 hh => ?_) he hpl
  obtain ⟨vs, H1, I1, r1, ev, eH⟩ := hh
  subst ev
  rw [eH] at I1
  refine ⟨I1.kIn, ?_⟩
  obtain ⟨u, rfl⟩ : ∃ u, us = [u] := by
    cases r1 with
    | cons r rr => cases rr; exact ⟨_, rfl⟩
  have P1 := I1.pin p (List.mem_append_left _ hp)
  have hpin : PinOk X.stack H s1 p := ⟨P1.1, P1.2.1, fun m => (List.mem_cons.mp (I1.stkSub p.1 m)).elim P1.2.2.1 P1.2.2.2.1, P1.2.2.2.2⟩
  obtain ⟨oc, od, kV, doc, pm, an, cdv, ct, osl, rfl, lk, hcd'⟩ := F.ex
  have b := hb s1 [u] I1.kIn rfl
  rw [List.append_nil] at b
  have hB' : DictIn ⟨[], W, H⟩ d := fun dd ed => by
    obtain ⟨⟨fs, x1⟩, x2⟩ := hB dd ed
    exact ⟨⟨fs, R.sin.keep _ _ x1 x2 (.inr rfl)⟩, fun m => (R.sin.newr _ m).elim x2 fun z => z _ x1 (.inr rfl)⟩
  have rc : codeAny (model X.prog X.w) X.A (.call (.ref f) ⟨[u], []⟩) (CR (L2N.CX X.prog X.w) X.stack X.prog X.w H s1 Q (fun _ _ _ => False)) s1 := by
    refine run_hot (N := N) (ps := [a]) (vs := [.ref p.1]) lk hcd' S hr hpin I1.env0 b r1 rfl fun hr' => ?_
    have tkH : TakesD (cxH (L2N.CX X.prog X.w) X.prog X.w X.K X.mg X.base N x (defScope st) f cdv X.A X.stack s1 H (fun _ _ _ => False) p) ⟨[], W, H⟩ noE := takesN0.imp fun c d σ H h => by
      obtain ⟨_, _, _, _, _, _, _, z⟩ := h
      exact z.elim
    refine ⟨_, hbody cdv X.A X.stack s1 H ⟨[], W, H⟩ hB' h1 hr' noE tkH, startD N [.adr p.1], W, M, _, ⟨R.fit, start_env (.cons (.adr _) .nil), .refl, fun _ m => absurd m (by simp)⟩, hct M, ?_, ?_, ?_, ?_⟩
    · exact fun _ _ _ _ _ _ _ z => z.elim
    · intro v' H' W' d' M' f' t' s' r' q'
      obtain ⟨rfl, rfl⟩ := q'
      have tt := tabs_keep R.tabs R.fit s'
      have sw := s'.wide (tb := B.tb) f'
      exact kk v' H' W' d' M' (R.step f' sw tt) sw r' q2
    · exact fun _ _ _ _ _ _ _ z => z.elim
    · exact fun _ _ _ _ _ _ _ z => z.elim
  refine wpAny_call (codeAny_mono rc fun r s2 hq => ?_)
  cases r with
  | error er =>
    obtain ⟨_, _, _, _, _, _, _, _, _, _, _, _, z⟩ := hq
    exact z.elim
  | ok fl =>
    cases fl with
    | ret u => exact I1.after hq
    | next => exact False.elim hq
    | brk => exact False.elim hq
    | cont => exact False.elim hq
end L3
set_option maxRecDepth 100000
set_option maxHeartbeats 4000000
/-! L3L: a lambda handed to a def that calls it within try. -/
namespace L3
open PySem PySem.Spec PyProof.Rows L2 HotX L2H LamX
/-- the context of a lambda's body, its exceptions with the context None -/
abbrev lamN (X : Cx) (A : Around) (outer : List Env) (s : Shared) (H : Hp) (E : XK) (scope : Scope) (f c' : Addr) : Cx :=
  (lamCx X A outer s H (fun _ _ _ => False) scope f c').wish fun e s' => wpAny (model X.prog X.w) (A.deeper (lamEnv X scope s.heap.objs.size f c')) (leaving (lamEnv X scope s.heap.objs.size f c') e) (fun _ s'' => L2N.CX X.prog X.w outer H s E e s'') (fun e' s'' => L2N.CX X.prog X.w outer H s E e' s'') s'
/-- what stands of the lambda where it is called -/
structure LamAt (X : Cx) (σ : L2.St) (s : Shared) (H : Hp) (scope : Scope) (params : Arguments) (body : Expr) (f c' : Addr) : Prop where
  ls : LamS X.env.scope scope
  obj : ∃ pm ctv : Value, s.heap.get? f = some (PySem.W.kla_obj "<lambda>" (X.env.qual ++ "<lambda>") params body scope (cloFrom X.env.cells scope.names []) pm c' ctv)
  non : H f = none
  out : f ∉ frs X.stack
  code : H c' = some (CodeO c' (X.env.qual ++ "<lambda>"))
  bind : ∀ (q : Str) (cl : List (Str × Addr)) (pm cv ctv : Value), bindArgs (PySem.W.kla_fn "<lambda>" q params body scope cl pm cv ctv) ⟨[], []⟩ = pure []
  inv : ∃ pins, Inv X pins σ H s
def wAct (f : Addr) (ct : Mem → KD → ExK → Prop) : WE := fun env M Q E => env[0]? = some (some (.adr f)) ∧ ct M Q E
theorem de_act {X : Cx} {σ : L2.St} {s : Shared} {H : Hp} {scope : Scope} {params : Arguments} {body : Expr} {f c' g : Addr} {Ng : List Str} {qg a : Str} {sg : Scope} {cdg : Value} {k : Nat} {pn : List (Addr × Obj)} {xe : Value → Shared → Prop} {B' : Bs} {env0 : Envd} {w : WE} {p1 p2 : Pos}
    (L : LamAt X σ s H scope params body f c') (hr : Room (k + 1) (X.A.deeper (envOfC qg sg s.heap.objs.size g cdg))) (hco : B'.H c' = some (CodeO c' (X.env.qual ++ "<lambda>"))) (htb : B'.tb = []) (he0 : EnvR X.K B'.W env0 σ) (hro : c' ∉ B'.W.ro)
    (hbody : ∀ (A : Around) (outer : List Env) (s1 : Shared) (H1 : Hp) (E : XK) (B2 : Bs), Room k (A.deeper (lamEnv X scope s1.heap.objs.size f c')) → DE (lamN X A outer s1 H1 E scope f c') B2 body w)
    (hN : Ng[0]? = some a) (hv : Vis sg a) (hd : (a == ("__debug__" : Str)) = false := by decide) (hcd : (a == ("__classdict__" : Str)) = false := by decide) :
    DE ((cxOf C8.CX0 X.prog X.w X.K X.mg X.base Ng qg sg g cdg X.A X.stack s H C8.E0).tr pn xe) B' (.Call (.Name a p1) [] [] p2) (wAct f fun M Q E => w env0 M Q E) := fun E tk => by
  refine ⟨fun pinsZ sZ σZ HZ Q IZ h => ?_⟩
  obtain ⟨env, W, M, Q', R, ⟨q1, q2⟩, kk⟩ := h
  obtain ⟨v0, e1, rv⟩ := R.env.get 0 _ q1
  cases rv
  obtain ⟨pins, I⟩ := L.inv
  obtain ⟨pm, ctv, hf⟩ := L.obj
  refine wpAny_Call_Name_kw (thn ((pe_var (pos := p1) (i := 0) hN hv hd hcd).run pinsZ sZ σZ HZ (fun v H1 => v = .ref f ∧ H1 = HZ) IZ ⟨.ref f, e1, rfl, rfl⟩) fun u s1 hh => ?_)
  obtain ⟨v, H1, I1, r1, ev, eH⟩ := hh
  subst ev
  rw [eH] at I1
  obtain rfl : u = Value.ref f := r1
  have of1 := I1.base.keep f _ hf L.non L.out List.not_mem_nil
  refine PySem.W.callWith_F0 ⟨_, _, _, _, of1⟩ ?_
  have hc : HZ c' = some (CodeO c' (X.env.qual ++ "<lambda>")) := R.sin.keep _ _ hco hro (.inl htb)
  obtain ⟨⟨oc, vs, t, hoc, hdc, hvc⟩, _, _⟩ := I1.hok c' _ hc
  have rc : codeAny (model X.prog X.w) (X.A.deeper (envOfC qg sg s.heap.objs.size g cdg)) (.call (.ref f) ⟨[], []⟩) (CR (L2N.CX X.prog X.w) (envOfC qg sg s.heap.objs.size g cdg :: X.stack) X.prog X.w HZ s1 Q (fun cls d H' => wxD ((cxOf C8.CX0 X.prog X.w X.K X.mg X.base Ng qg sg g cdg X.A X.stack s H C8.E0).tr pn xe) B' E cls d [] H')) s1 := by
    refine PySem.W.kla_callFunE hr.depth of1 rfl L.ls.co L.ls.gen rfl ⟨c', oc, vs, t, rfl, hoc, hdc, hvc⟩ ?_
    rw [L.bind]
    refine wpAny_pure (wpAny_newFunctionEnv (fun y hy => (L.ls.own y hy).2) (fun y hy => absurd hy (by simp)) (fun h₁ hns hsb => ⟨I1.nolimit.fresh _ hsb, ?_⟩) L.ls.kind)
    show codeAny _ _ (.expr body (lamEnv X scope s1.heap.objs.size f c')) _ _
    have kp : ∀ b o, s1.heap.get? b = some o → h₁.get? b = some o := fun b o e => hsb.extBut b o (Nat.ne_of_lt (Heap.lt_size e)) (Heap.get?_push_of_some _ e)
    have J := (lam_start2 (E := fun _ _ _ => False) (tk := s1.toks + ([] : List (Str × Value)).length) (f := f) (c' := c') I L.ls I1.env0 hr.hd I1.base hns kp)
    have tkL : TakesD (lamN X (X.A.deeper (envOfC qg sg s.heap.objs.size g cdg)) (envOfC qg sg s.heap.objs.size g cdg :: X.stack) s1 HZ (fun cls d H' => wxD ((cxOf C8.CX0 X.prog X.w X.K X.mg X.base Ng qg sg g cdg X.A X.stack s H C8.E0).tr pn xe) B' E cls d [] H') scope f c') ⟨[], W, HZ⟩ E :=
      (L2N.takes_of (X := lamN X (X.A.deeper (envOfC qg sg s.heap.objs.size g cdg)) (envOfC qg sg s.heap.objs.size g cdg :: X.stack) s1 HZ (fun cls d H' => wxD ((cxOf C8.CX0 X.prog X.w X.K X.mg X.base Ng qg sg g cdg X.A X.stack s H C8.E0).tr pn xe) B' E cls d [] H') scope f c') rfl rfl rfl rfl).imp fun cls d σ' H' h => by
        obtain ⟨W', M', x, f', s', t', xr, q'⟩ := h
        exact ⟨W', M', x, f', R.sin.trans (s'.wide f'), tabs_keep R.tabs R.fit s', xr, q'⟩
    refine PySem.W.kla_codeExpr (wpAny_mono ((hbody _ _ s1 HZ _ ⟨[], W, HZ⟩ (hr.deeper _) E tkL).run [] _ σ HZ Q (J.wish _) ⟨env0, W, M, Q', ⟨R.fit, he0.mono R.sin.le, .refl, fun _ m => absurd m (by simp)⟩, q2, fun v H' W' d M' R' s' r' q' => ?_⟩) (fun v s' hq => ?_) fun e s' hq => hq)
    · have s2 : Since B'.tb W HZ W' H' := by rw [htb]; exact s'
      have tt : LamX.Tabs B'.tb H' := by rw [htb]; exact fun _ m => absurd m (by simp)
      exact kk v H' W' d M' (R.step R'.fit s2 tt) s2 r' q'
    · obtain ⟨w', H', J', rv, q⟩ := hq
      exact ⟨w', H', J'.os, J'.bare, J'.base, J'.hok, rv, q⟩
  have hx := L2N.passes_call (X := (cxOf C8.CX0 X.prog X.w X.K X.mg X.base Ng qg sg g cdg X.A X.stack s H C8.E0).tr pn xe) (E := fun cls d H' => wxD ((cxOf C8.CX0 X.prog X.w X.K X.mg X.base Ng qg sg g cdg X.A X.stack s H C8.E0).tr pn xe) B' E cls d [] H') tk fun _ _ _ _ h => h
  refine wpAny_call (codeAny_mono rc fun r s' hq => ?_)
  cases r with
  | error e => exact hx pinsZ σZ HZ s1 e s' I1 hq
  | ok fl =>
    cases fl with
    | ret u => exact I1.after hq
    | next => exact False.elim hq
    | brk => exact False.elim hq
    | cont => exact False.elim hq
end L3
set_option maxRecDepth 100000
set_option maxHeartbeats 4000000
/-! L3M: what a law tells of an error. -/
namespace L3
open PySem PySem.Spec PyProof.Rows L2 HotX L2H LamX
def errNames : List Str := ["InvalidCell", "InvalidHeard", "InvalidLoop", "InvalidNumber", "InvalidText", "InvalidWishes", "NothingToUndo", "TooMany", "Unlike"]
/-- the one attribute of an error -/
def fieldOf (c : Str) : Option Str := if c = "TooMany" then some "limit" else if c = "InvalidText" then some "line" else none
structure ErrF (K : PySem.W.Frag) (mg : Str → Option Value) (c : Str) (D : Addr) : Prop where
  mem : c ∈ errNames
  at_ : mg c = some (.ref D)
  exc : ExcC K D
  kit : ∀ x ∈ errNames, ∃ C : Addr, mg x = some (.ref C) ∧ PySem.W.kitOne K (.ref D) (.ref C) = some (x == c)
  ve : PySem.W.kitOne K (.ref D) (.type "ValueError") = some true
  tm : ∃ C : Addr, mg "TooMany" = some (.ref C) ∧ PySem.W.exmOne K (.ref D) (.ref C) = some (decide (c = "TooMany"))
  tx : ∃ C : Addr, mg "InvalidText" = some (.ref C) ∧ PySem.W.exmOne K (.ref D) (.ref C) = some (decide (c = "InvalidText"))
  le : ∃ C : Addr, mg "LoopError" = some (.ref C) ∧ PySem.W.exmOne K (.ref D) (.ref C) = some true
  xf : ∀ f, fieldOf c = some f → XfC K D ∧ PySem.W.findIn K (.ref D) f = some none
section
variable {X : Cx} {B : Bs} {pos : Pos} {p : Addr × Obj} {D : Addr} {d : Option Addr} {c : Str}
theorem ErrF.isP {x n : Str} {p1 p2 p3 : Pos} (C : ErrF X.K X.mg c D) (hp : p ∈ X.pn) (hz : L2N.Zn (.ref D) d p.2) (hf : ∃ vs, p.2.data = .fields vs) (hB : DictIn B d) (hx : x ∈ errNames) (hN : X.N[0]? = some n) (hv : Vis X.env.scope n) (hg : Gl X "isinstance") (hm : X.mg "isinstance" = none) (hgx : Gl X x)
    (hdx : (x == ("__debug__" : Str)) = false := by decide) (hd : (n == ("__debug__" : Str)) = false := by decide) (hcd : (n == ("__classdict__" : Str)) = false := by decide)
    (he : starEach [.Name n p2, .Name x p3] X.env = (false, eval (.Name n p2) X.env) :: starEach [.Name x p3] X.env := by rfl) (he2 : starEach [.Name x p3] X.env = (false, eval (.Name x p3) X.env) :: starEach [] X.env := by rfl) (hpl : (backTo pos (starEach [.Name x p3] X.env)).any (·.1) = false := by rfl) :
    DE X B (.Call (.Name "isinstance" p1) [.Name n p2, .Name x p3] [] pos) (wIsP p.1 (x == c) 0) := by
  obtain ⟨E, h1, h2⟩ := C.kit x hx
  exact de_isP hp C.exc hz hf hB hN hv hg hm (pe_glob (v := .ref E) hgx h1 rfl hdx) (fun u h => h) h2 hd hcd he he2 hpl
end
def bKindsB (a : Addr) (b1 b2 b3 b4 b5 b6 b7 b8 b9 : Bool) : WS :=
  sSeq (sSet 1 (wFz (fLst (zCons (wIsP a b1 0) (zCons (wIsP a b2 0) (zCons (wIsP a b3 0) zNil))))))
  (sSeq (sSet 1 (wOp oAdd (wVar 1) (wFz (fLst (zCons (wIsP a b4 0) (zCons (wIsP a b5 0) (zCons (wIsP a b6 0) zNil)))))))
  (sSeq (sSet 1 (wOp oAdd (wVar 1) (wFz (fLst (zCons (wIsP a b7 0) (zCons (wIsP a b8 0) (zCons (wIsP a b9 0) zNil)))))))
  (sSeq (sSet 1 (wOp oAdd (wVar 1) (wFz (fLst (zCons (wIsP a true 0) zNil)))))
  (sSeq (sSet 2 (wFz (fLst (zCons (wC (.str "InvalidCell")) (zCons (wC (.str "InvalidHeard")) (zCons (wC (.str "InvalidLoop")) (zCons (wC (.str "InvalidNumber")) (zCons (wC (.str "InvalidText")) (zCons (wC (.str "InvalidWishes")) zNil)))))))))
  (sSeq (sSet 2 (wOp oAdd (wVar 2) (wFz (fLst (zCons (wC (.str "NothingToUndo")) (zCons (wC (.str "TooMany")) (zCons (wC (.str "Unlike")) (zCons (wC (.str "+")) zNil))))))))
  (sRet (wJoin (wC (.str " ")) (wFz (fLc [3, 4] (iZip (zCons (wVar 2) (zCons (wVar 1) zNil))) (cPair 3 4) (wTst (wVar 4)) (wVar 3))))))))))
def bKinds (a : Addr) (c : Str) : WS := bKindsB a ("InvalidCell" == c) ("InvalidHeard" == c) ("InvalidLoop" == c) ("InvalidNumber" == c) ("InvalidText" == c) ("InvalidWishes" == c) ("NothingToUndo" == c) ("TooMany" == c) ("Unlike" == c)
def kindTxt (c : Str) : Str := c ++ (" +" : Str)
theorem sz_le {n : Nat} (h : n ≤ 16777216) : n ≤ sizeLine := by rw [sizeLine_eq]; exact h
theorem sz_lt {n : Nat} (h : n < 16777216) : n < sizeLine := by rw [sizeLine_eq]; exact h
theorem kinds_text {c : Str} (h : c ∈ errNames) (a : Addr) (M : Mem) (N : List Str) (hN : N.length = 5) : bKinds a c (startD N [.adr a]) M { nx := fun _ _ => False, rt := fun d M' => d = .str (kindTxt c) ∧ M' = M, bk := fun _ _ => False, ct := fun _ _ => False } noE := by
  have hs : startD N [.adr a] = [some (.adr a), none, none, none, none] := by unfold startD; rw [hN]; rfl
  rw [hs]
  unfold errNames at h
  simp only [List.mem_cons, List.not_mem_nil, or_false] at h
  rcases h with h | h | h | h | h | h | h | h | h
  · subst h
    show bKindsB a true false false false false false false false false _ _ _ _
    repeat (first | refine ⟨sz_le (by decide), ?_⟩ | refine ⟨sz_lt (by decide), ?_⟩ | refine ⟨rfl, ?_⟩ | refine ⟨_, _, rfl, rfl, sz_le (by decide), ?_⟩ | exact rfl)
  · subst h
    show bKindsB a false true false false false false false false false _ _ _ _
    repeat (first | refine ⟨sz_le (by decide), ?_⟩ | refine ⟨sz_lt (by decide), ?_⟩ | refine ⟨rfl, ?_⟩ | refine ⟨_, _, rfl, rfl, sz_le (by decide), ?_⟩ | exact rfl)
  · subst h
    show bKindsB a false false true false false false false false false _ _ _ _
    repeat (first | refine ⟨sz_le (by decide), ?_⟩ | refine ⟨sz_lt (by decide), ?_⟩ | refine ⟨rfl, ?_⟩ | refine ⟨_, _, rfl, rfl, sz_le (by decide), ?_⟩ | exact rfl)
  · subst h
    show bKindsB a false false false true false false false false false _ _ _ _
    repeat (first | refine ⟨sz_le (by decide), ?_⟩ | refine ⟨sz_lt (by decide), ?_⟩ | refine ⟨rfl, ?_⟩ | refine ⟨_, _, rfl, rfl, sz_le (by decide), ?_⟩ | exact rfl)
  · subst h
    show bKindsB a false false false false true false false false false _ _ _ _
    repeat (first | refine ⟨sz_le (by decide), ?_⟩ | refine ⟨sz_lt (by decide), ?_⟩ | refine ⟨rfl, ?_⟩ | refine ⟨_, _, rfl, rfl, sz_le (by decide), ?_⟩ | exact rfl)
  · subst h
    show bKindsB a false false false false false true false false false _ _ _ _
    repeat (first | refine ⟨sz_le (by decide), ?_⟩ | refine ⟨sz_lt (by decide), ?_⟩ | refine ⟨rfl, ?_⟩ | refine ⟨_, _, rfl, rfl, sz_le (by decide), ?_⟩ | exact rfl)
  · subst h
    show bKindsB a false false false false false false true false false _ _ _ _
    repeat (first | refine ⟨sz_le (by decide), ?_⟩ | refine ⟨sz_lt (by decide), ?_⟩ | refine ⟨rfl, ?_⟩ | refine ⟨_, _, rfl, rfl, sz_le (by decide), ?_⟩ | exact rfl)
  · subst h
    show bKindsB a false false false false false false false true false _ _ _ _
    repeat (first | refine ⟨sz_le (by decide), ?_⟩ | refine ⟨sz_lt (by decide), ?_⟩ | refine ⟨rfl, ?_⟩ | refine ⟨_, _, rfl, rfl, sz_le (by decide), ?_⟩ | exact rfl)
  · subst h
    show bKindsB a false false false false false false false false true _ _ _ _
    repeat (first | refine ⟨sz_le (by decide), ?_⟩ | refine ⟨sz_lt (by decide), ?_⟩ | refine ⟨rfl, ?_⟩ | refine ⟨_, _, rfl, rfl, sz_le (by decide), ?_⟩ | exact rfl)
end L3
set_option maxRecDepth 100000
set_option maxHeartbeats 4000000
/-! L3N: what a call in a law's net tells. -/
namespace L3
open PySem PySem.Spec PyProof.Rows L2 HotX L2H LamX
/-- the def that names the kinds -/
def KindsOk (P : Program) (w : World) (K : PySem.W.Frag) (mg : Str → Option Value) (base : Heap) : Prop := ∃ (st : Stmt) (f : Addr) (fd : FuncData) (N : List Str), mg "_law_kinds" = some (.ref f) ∧ Fun K "_law_kinds" "_law_kinds" st f fd ∧ Binds K fd ["_law_e"] [] ∧ N.length = 5 ∧ FnScope N ["_law_e"] (defScope st) ∧
  ∀ (c : Str) (D : Addr) (d : Option Addr) (p : Addr × Obj), ErrF K mg c D → L2N.Zn (.ref D) d p.2 → (∃ vs, p.2.data = .fields vs) → ∀ (cdv : Value) (A : Around) (outer : List Env) (s : Shared) (H : Hp) (B : Bs), DictIn B d → Hot1 A p →
    DSs (cxH (L2N.CX P w) P w K mg base N "_law_kinds" (defScope st) f cdv A outer s H (fun _ _ _ => False) p) B (defBody st) (bKinds p.1 c)
section
variable {X : Cx} {B : Bs} {pos : Pos} {p : Addr × Obj} {C0 : Addr} {d : Option Addr} {c e : Str} {i : Nat}
theorem de_kinds {p1 p2 : Pos} (F : KindsOk X.prog X.w X.K X.mg X.base) (C : ErrF X.K X.mg c C0) (hz : L2N.Zn (.ref C0) d p.2) (hf : ∃ vs, p.2.data = .fields vs) (hr : RoomH 1 X.A) (h1 : Hot1 X.A p) (hp : p ∈ X.pn) (hB : DictIn B d) (hg : Gl X "_law_kinds") (hN : X.N[i]? = some e) (hv : Vis X.env.scope e)
    (hd : (e == ("__debug__" : Str)) = false := by decide) (hcd : (e == ("__classdict__" : Str)) = false := by decide) (he : starEach [.Name e p2] X.env = (false, eval (.Name e p2) X.env) :: starEach [] X.env := by rfl) (hpl : (backTo pos (starEach ([] : List Expr) X.env)).any (·.1) = false := by rfl) :
    DE X B (.Call (.Name "_law_kinds" p1) [.Name e p2] [] pos) (wTell p.1 (.str (kindTxt c)) i) := by
  obtain ⟨st, f, fd, N, hm, Fn, hb, hl, S, hbody⟩ := F
  exact de_tell (k := 0) Fn hm hb S hr h1 hp hB hg hN hv (fun W v h W' => by cases h; exact .str _) (fun cdv A outer s H B' hB' h1' _ => hbody c C0 d p C hz hf cdv A outer s H B' hB' h1') (fun M => kinds_text C.mem p.1 M N hl) (by decide) hd hcd he hpl
/-- e.f, f the one attribute -/
def wXf (a : Addr) (x : D) (i : Nat) : WE := fun env M Q _ => env[i]? = some (some (.adr a)) ∧ Q x M
theorem de_xf {X : Cx} {a : Addr} {oe : Obj} {pn : List (Addr × Obj)} {f : Str} {x : D} {v : V} {dd : Addr} {p1 : Pos} (T : XfC X.K C0) (hno : PySem.W.findIn X.K (.ref C0) f = some none) (hz : L2N.Zn (.ref C0) (some dd) oe) (hf : ∃ vs, oe.data = .fields vs) (hB : B.H dd = some (.xd [(f, v)])) (hro : dd ∉ B.W.ro) (hx : Rep X.K B.W v x)
    (hN : X.N[i]? = some e) (hv : Vis X.env.scope e) (hd : (e == ("__debug__" : Str)) = false := by decide) (hcd : (e == ("__classdict__" : Str)) = false := by decide) (hb : attributeBase (.Name e p1) f X.env (eval (.Name e p1) X.env) = eval (.Name e p1) X.env := by rfl) :
    DE (X.suite a ((a, oe) :: pn)) B (.Attribute (.Name e p1) f pos) (wXf a x i) := fun E tk =>
  (pe_xf (pn := pn) T hno ⟨hz.1, hz.2.1⟩ hf (pe_var (X := X.suite a ((a, oe) :: pn)) hN hv hd hcd) hb).imp fun σ H Q h => by
    obtain ⟨env, W, M, Q', R, ⟨q1, q2⟩, k⟩ := h
    obtain ⟨u, e1, r⟩ := R.env.get i _ q1
    cases r
    refine ⟨_, e1, rfl, rfl, dd, [(f, v)], v, rfl, R.sin.keep _ _ hB hro (.inr rfl), ?_, k _ _ _ _ _ R .refl (Rep.mono R.sin.le _ _ hx) q2⟩
    simp
end
/-- what is told of an error -/
def toldX (x : Exn) : D := match x.arg with
  | none => .tup [.str (kindTxt x.cls)]
  | some (_, d) => .tup [.str (kindTxt x.cls), d]
/-- an error of a class of the program, with its attribute just if it must have one -/
def GoodX (x : Exn) : Prop := x.cls ∈ errNames ∧ x.arg.map (·.1) = fieldOf x.cls
def sTold (f : Addr) (ct : Mem → KD → ExK → Prop) : WS := fun env M D E => env[0]? = some (some (.adr f)) ∧ ct M (fun d M' => 2 ≤ sizeLine ∧ D.nx (env.set 1 (some (.tup [.str "told", d]))) M') (fun x M' => GoodX x ∧ D.nx [none, some (toldX x), none] M')
/-- what a suite is to do: the name found gets what is told -/
def tsX (K : PySem.W.Frag) (mg : Str → Option Value) (F : Option Str) : Addr → Obj → Value → Option Addr → TS := fun a oe cls d Dn σ H => ∃ (x : Exn) (C : Addr) (W : Wd) (M : Mem), ErrF K mg x.cls C ∧ cls = .ref C ∧ ExnR K mg W H x cls d ∧ x.arg.map (·.1) = F ∧ fieldOf x.cls = F ∧ Fits K W H M ∧
  σ[2]? = some (some (.ref a)) ∧ σ.length = 3 ∧ ∀ σ' H' W', Fits K W' H' M → Since [] W H W' H' → EnvR K W' [none, some (toldX x), some (.adr a)] σ' → Dn.nx σ' H'
section
variable {X : Cx} {a : Addr} {oe : Obj} {cls : Value} {d : Option Addr} {pn : List (Addr × Obj)} {f : Str} {p1 p2 p3 p4 p5 p6 p7 p8 : Pos} {k : Nat}
theorem hot_of (hz : L2N.Zn cls d oe) (hf : ∃ vs, oe.data = .fields vs) : Hot1 (X.suite a ((a, oe) :: pn)).A (a, oe) := by
  obtain ⟨vs, e⟩ := hf
  exact ⟨rfl, vs, e, hz.2.2 vs e⟩
theorem suite_none (hN : X.N = ([("_law_call_so" : Str), ("_law_found" : Str), ("_law_e" : Str)] : List Str)) (hnm : X.env.scope.names.lookup ("_law_found" : Str) = some .local) (hne : X.env.scope.names.lookup ("_law_e" : Str) = some .local) (F : KindsOk X.prog X.w X.K X.mg X.base) (hg : Gl X "_law_kinds") (hr : RoomH 1 X.A)
    (hz : L2N.Zn cls d oe) (hf : ∃ vs, oe.data = .fields vs) (hsw : swapsWith (.Tuple [.Call (.Name "_law_kinds" p2) [.Name "_law_e" p3] [] p4] k p5) (some (.Name "_law_found" p1)) p6.line X.env = pure false)
    (hs1 : starEach [.Call (.Name "_law_kinds" p2) [.Name "_law_e" p3] [] p4] X.env = (false, eval (.Call (.Name "_law_kinds" p2) [.Name "_law_e" p3] [] p4) X.env) :: starEach [] X.env := by rfl) :
    PSs (X.suite a ((a, oe) :: pn)) [.Assign [.Name "_law_found" p1] (.Tuple [.Call (.Name "_law_kinds" p2) [.Name "_law_e" p3] [] p4] k p5) p6] (tsX X.K X.mg none a oe cls d) := by
  refine ⟨fun pins s σ H Dn I h => ?_⟩
  obtain ⟨x, C, W, M, C1, rfl, xr, hx, _, ft, e2, hl, kk⟩ := h
  have ha : x.arg = none := by
    cases e : x.arg with
    | none => rfl
    | some y => rw [e] at hx; cases hx
  have hd : d = none := by
    have := xr.2
    rw [ha] at this
    exact this
  have hN2 : (X.suite a ((a, oe) :: pn)).N[2]? = some ("_law_e" : Str) := by show X.N[2]? = _; rw [hN]; rfl
  have hN1 : (X.suite a ((a, oe) :: pn)).N[1]? = some ("_law_found" : Str) := by show X.N[1]? = _; rw [hN]; rfl
  have nd : (X.suite a ((a, oe) :: pn)).N.Nodup := by show X.N.Nodup; rw [hN]; decide
  have tk : TakesD (X.suite a ((a, oe) :: pn)) ⟨[], W, H⟩ noE := takesN0.imp fun c d σ H h => by
    obtain ⟨_, _, _, _, _, _, _, z⟩ := h
    exact z.elim
  have de := de_kinds (X := X.suite a ((a, oe) :: pn)) (B := ⟨[], W, H⟩) (p := (a, oe)) (i := 2) (pos := p4) (p1 := p2) (p2 := p3) F C1 hz hf ⟨hr.dp, hr.un⟩ (hot_of hz hf) List.mem_cons_self (fun dd e => by rw [hd] at e; cases e) hg hN2 (.inl hne)
  have ds := ds_set (i := 1) (pos := p6) (pos' := p1) nd (de_tup (pos := p5) (da_cons de da_nil hs1)) hN1 (.inl hnm) hsw (.inr hnm)
  refine (dss_one ds noE tk).run pins s σ H Dn I ⟨[none, none, some (.adr a)], W, M, ⟨fun e' M' => e' = [none, some (toldX x), some (.adr a)] ∧ M' = M, fun _ _ => False, fun _ _ => False, fun _ _ => False⟩, ⟨ft, ⟨hl.symm, fun i y e => ?_⟩, .refl, fun _ m => absurd m (by simp)⟩, ?_, ?_, ?_, ?_, ?_⟩
  · match i, e with
    | 0, e => cases e
    | 1, e => cases e
    | 2, e =>
      cases e
      exact ⟨_, e2, .adr a⟩
  · refine ⟨rfl, sz_le (by simp), ?_, rfl⟩
    unfold toldX
    rw [ha]
    rfl
  · rintro env' σ' W' H' M' R' s' ⟨rfl, rfl⟩
    exact kk σ' H' W' R'.fit s' R'.env
  · exact fun _ _ _ _ _ _ _ _ _ z => z.elim
  · exact fun _ _ _ _ _ _ _ z => z.elim
  · exact fun _ _ _ _ _ _ _ z => z.elim
theorem suite_one (hN : X.N = ([("_law_call_so" : Str), ("_law_found" : Str), ("_law_e" : Str)] : List Str)) (hnm : X.env.scope.names.lookup ("_law_found" : Str) = some .local) (hne : X.env.scope.names.lookup ("_law_e" : Str) = some .local) (F : KindsOk X.prog X.w X.K X.mg X.base) (hg : Gl X "_law_kinds") (hr : RoomH 1 X.A)
    (hz : L2N.Zn cls d oe) (hf : ∃ vs, oe.data = .fields vs) (hsw : swapsWith (.Tuple [.Call (.Name "_law_kinds" p2) [.Name "_law_e" p3] [] p4, .Attribute (.Name "_law_e" p7) f p8] k p5) (some (.Name "_law_found" p1)) p6.line X.env = pure false)
    (hb : attributeBase (.Name "_law_e" p7) f X.env (eval (.Name "_law_e" p7) X.env) = eval (.Name "_law_e" p7) X.env)
    (hs1 : starEach [.Call (.Name "_law_kinds" p2) [.Name "_law_e" p3] [] p4, .Attribute (.Name "_law_e" p7) f p8] X.env = (false, eval (.Call (.Name "_law_kinds" p2) [.Name "_law_e" p3] [] p4) X.env) :: starEach [.Attribute (.Name "_law_e" p7) f p8] X.env := by rfl)
    (hs2 : starEach [.Attribute (.Name "_law_e" p7) f p8] X.env = (false, eval (.Attribute (.Name "_law_e" p7) f p8) X.env) :: starEach [] X.env := by rfl) :
    PSs (X.suite a ((a, oe) :: pn)) [.Assign [.Name "_law_found" p1] (.Tuple [.Call (.Name "_law_kinds" p2) [.Name "_law_e" p3] [] p4, .Attribute (.Name "_law_e" p7) f p8] k p5) p6] (tsX X.K X.mg (some f) a oe cls d) := by
  refine ⟨fun pins s σ H Dn I h => ?_⟩
  obtain ⟨x, C, W, M, C1, rfl, xr, hx, hfo, ft, e2, hl, kk⟩ := h
  obtain ⟨y, ha⟩ : ∃ y, x.arg = some (f, y) := by
    cases e : x.arg with
    | none => rw [e] at hx; cases hx
    | some y =>
      obtain ⟨g, y⟩ := y
      rw [e] at hx
      cases hx
      exact ⟨y, rfl⟩
  obtain ⟨dd, v, hd, ed, rv⟩ : ∃ p v, d = some p ∧ H p = some (.xd [(f, v)]) ∧ Rep X.K W v y := by
    have := xr.2
    rw [ha] at this
    exact this
  have hro : dd ∉ W.ro := fun m => by
    obtain ⟨o, e, q⟩ := ft.here dd m
    rw [ed] at e
    cases e
    cases q
  obtain ⟨xf1, xf2⟩ := C1.xf f hfo
  subst hd
  have hN2 : (X.suite a ((a, oe) :: pn)).N[2]? = some ("_law_e" : Str) := by show X.N[2]? = _; rw [hN]; rfl
  have hN2' : X.N[2]? = some ("_law_e" : Str) := by rw [hN]; rfl
  have hN1 : (X.suite a ((a, oe) :: pn)).N[1]? = some ("_law_found" : Str) := by show X.N[1]? = _; rw [hN]; rfl
  have nd : (X.suite a ((a, oe) :: pn)).N.Nodup := by show X.N.Nodup; rw [hN]; decide
  have tk : TakesD (X.suite a ((a, oe) :: pn)) ⟨[], W, H⟩ noE := takesN0.imp fun c d σ H h => by
    obtain ⟨_, _, _, _, _, _, _, z⟩ := h
    exact z.elim
  have de := de_kinds (X := X.suite a ((a, oe) :: pn)) (B := ⟨[], W, H⟩) (p := (a, oe)) (i := 2) (pos := p4) (p1 := p2) (p2 := p3) F C1 hz hf ⟨hr.dp, hr.un⟩ (hot_of hz hf) List.mem_cons_self (fun d' e => by cases e; exact ⟨⟨_, ed⟩, hro⟩) hg hN2 (.inl hne)
  have dx := de_xf (X := X) (a := a) (B := ⟨[], W, H⟩) (pos := p8) (p1 := p7) (i := 2) (pn := pn) xf1 xf2 hz hf ed hro rv hN2' (.inl hne) (by decide) (by decide) hb
  have ds := ds_set (i := 1) (pos := p6) (pos' := p1) nd (de_tup (pos := p5) (da_cons de (da_cons dx da_nil hs2) hs1)) hN1 (.inl hnm) hsw (.inr hnm)
  refine (dss_one ds noE tk).run pins s σ H Dn I ⟨[none, none, some (.adr a)], W, M, ⟨fun e' M' => e' = [none, some (toldX x), some (.adr a)] ∧ M' = M, fun _ _ => False, fun _ _ => False, fun _ _ => False⟩, ⟨ft, ⟨hl.symm, fun i y e => ?_⟩, .refl, fun _ m => absurd m (by simp)⟩, ?_, ?_, ?_, ?_, ?_⟩
  · match i, e with
    | 0, e => cases e
    | 1, e => cases e
    | 2, e =>
      cases e
      exact ⟨_, e2, .adr a⟩
  · refine ⟨rfl, rfl, sz_le (by simp), ?_, rfl⟩
    unfold toldX
    rw [ha]
    rfl
  · rintro env' σ' W' H' M' R' s' ⟨rfl, rfl⟩
    exact kk σ' H' W' R'.fit s' R'.env
  · exact fun _ _ _ _ _ _ _ _ _ z => z.elim
  · exact fun _ _ _ _ _ _ _ z => z.elim
  · exact fun _ _ _ _ _ _ _ z => z.elim
end
end L3
set_option maxRecDepth 100000
set_option maxHeartbeats 4000000
/-! L3O: the net's try, the call. -/
namespace L3
open PySem PySem.Spec PyProof.Rows L2 HotX L2H LamX
section
variable {X : Cx} {B : Bs} {G : Bs → Prop} {f : Addr} {ct : Mem → KD → ExK → Prop} {b1 : Stmt} {st1 st2 st3 : Stmt} {n1 n2 n3 q1 q2 q3 pos : Pos}
theorem ds_lawtry (hs : X.stack = X.env :: X.outer) (hf : X.env.frame = some X.env.locals) (hN : X.N = ([("_law_call_so" : Str), ("_law_found" : Str), ("_law_e" : Str)] : List Str)) (hne : X.env.scope.names.lookup ("_law_e" : Str) = some .local)
    (herr : ∀ c ∈ errNames, ∃ C, ErrF X.K X.mg c C) (hgt : Gl X "TooMany") (hgx : Gl X "InvalidText") (hgl : Gl X "LoopError") (htb : B.tb = []) (hG : G B) (stab : ∀ W H, Since [] B.W B.H W H → G ⟨[], W, H⟩)
    (hb : ∀ (pn : List (Addr × Obj)) (xe : Value → Shared → Prop) (B2 : Bs), B2.tb = [] → G B2 → DS (X.tr pn xe) B2 b1 (sSet 1 (wTup (zCons (wC (.str "told")) (zCons (wAct f ct) zNil)))))
    (h1 : ∀ (a : Addr) (oe : Obj) (cls : Value) (d : Option Addr) (pn : List (Addr × Obj)), L2N.Zn cls d oe → (∃ vs, oe.data = .fields vs) → PSs (X.suite a ((a, oe) :: pn)) [st1] (tsX X.K X.mg (some "limit") a oe cls d))
    (h2 : ∀ (a : Addr) (oe : Obj) (cls : Value) (d : Option Addr) (pn : List (Addr × Obj)), L2N.Zn cls d oe → (∃ vs, oe.data = .fields vs) → PSs (X.suite a ((a, oe) :: pn)) [st2] (tsX X.K X.mg (some "line") a oe cls d))
    (h3 : ∀ (a : Addr) (oe : Obj) (cls : Value) (d : Option Addr) (pn : List (Addr × Obj)), L2N.Zn cls d oe → (∃ vs, oe.data = .fields vs) → PSs (X.suite a ((a, oe) :: pn)) [st3] (tsX X.K X.mg none a oe cls d)) :
    DS X B (.Try [b1] [.ExceptHandler (some (.Name "TooMany" n1)) (some "_law_e") [st1] q1, .ExceptHandler (some (.Name "InvalidText" n2)) (some "_law_e") [st2] q2, .ExceptHandler (some (.Name "LoopError" n3)) (some "_law_e") [st3] q3] [] [] pos) (sTold f ct) := fun E tk => by
  have nd : X.N.Nodup := by rw [hN]; decide
  have hi : X.N[2]? = some ("_law_e" : Str) := by rw [hN]; rfl
  obtain ⟨Cm, em⟩ := herr "TooMany" (by decide)
  obtain ⟨Ct, et, _⟩ := em.tm
  obtain ⟨Cx, ex, _⟩ := em.tx
  obtain ⟨Cl, el, _⟩ := em.le
  refine (ps_tryK (i := 2) (l := [(.ref Ct, tsX X.K X.mg (some "limit")), (.ref Cx, tsX X.K X.mg (some "line")), (.ref Cl, tsX X.K X.mg none)]) (tb := fun Wx D σ H => ∃ (B2 : Bs) (E2 : ExK), B2.tb = [] ∧ G B2 ∧ (∀ cls d σ' H', wxD X B2 E2 cls d σ' H' → Wx cls d σ' H') ∧ tSD B2 X.K (sSet 1 (wTup (zCons (wC (.str "told")) (zCons (wAct f ct) zNil)))) E2 D σ H) hs hf nd hi hne (fun Wx pn xe tkx => ?_) ?_).imp fun D σ H h => ?_
  · refine ⟨fun pins s σ H D I h => ?_⟩
    obtain ⟨B2, E2, t2, g2, imp, h⟩ := h
    exact (dss_one (hb pn xe B2 t2 g2) E2 (tkx.imp imp)).run pins s σ H D I h
  · exact .cons ⟨hgt, by decide, .inl et⟩ h1 (.cons ⟨hgx, by decide, .inl ex⟩ h2 (.cons ⟨hgl, by decide, .inl el⟩ h3 .nil))
  · obtain ⟨env, W, M, D', R, ⟨w1, w2⟩, k1, _⟩ := h
    have sB : Since [] B.W B.H W H := by have := R.sin; rw [htb] at this; exact this
    have big : ∀ {env' σ' W' H' M'}, Rl ⟨[], W, H⟩ X.K env' σ' W' H' M' → Rl B X.K env' σ' W' H' M' := fun {env' σ' W' H' M'} R' => ⟨R'.fit, R'.env, R.sin.trans (by rw [htb]; exact R'.sin), by rw [htb]; exact fun _ m => absurd m (by simp)⟩
    refine ⟨⟨[], W, H⟩, fun x M' => GoodX x ∧ D'.nx [none, some (toldX x), none] M', rfl, stab W H sB, fun cls d σ' H' hx => ?_, env, W, M, ⟨D'.nx, fun _ _ => False, fun _ _ => False, fun _ _ => False⟩, ⟨R.fit, R.env, .refl, fun _ m => absurd m (by simp)⟩, ?_, fun env' σ' W' H' M' R' s' q' => ?_, fun _ _ _ _ _ _ _ _ _ z => z.elim, fun _ _ _ _ _ _ _ z => z.elim, fun _ _ _ _ _ _ _ z => z.elim⟩
    · obtain ⟨W1, M1, x, f1, s1, _, xr, gx, q⟩ := hx
      obtain ⟨C, hC⟩ := herr x.cls gx.1
      have ec : cls = .ref C := by
        have := xr.1
        rw [hC.at_] at this
        exact (Option.some.inj this).symm
      obtain ⟨Ct', et', bt⟩ := hC.tm
      obtain ⟨Cx', ex', bx⟩ := hC.tx
      obtain ⟨Cl', el', bl⟩ := hC.le
      rw [et] at et'; cases et'
      rw [ex] at ex'; cases ex'
      rw [el] at el'; cases el'
      have go : ∀ (F : Option Str) (a : Addr) (oe : Obj), fieldOf x.cls = F → H' a = none → σ'.length = X.N.length → tsX X.K X.mg F a oe cls d ⟨fun σ'' H'' => D.nx (σ''.set 2 none) H'', fun _ _ => False, fun _ _ => False, fun _ _ => False⟩ (σ'.set 2 (some (.ref a))) H' := fun F a oe hF na hl => by
        have l3 : σ'.length = 3 := by rw [hl, hN]; rfl
        refine ⟨x, C, W1, M1, hC, ec, xr, by rw [gx.2, hF], hF, f1, by rw [List.getElem?_set_self (by omega)], by rw [List.length_set, l3], fun σ2 H2 W2 f2 s2 e2 => ?_⟩
        have st : Since [] W H W2 H2 := s1.trans s2
        refine k1 [none, some (toldX x), none] _ W2 H2 M1 (big ⟨f2, ⟨by rw [List.length_set, ← e2.len]; rfl, fun i y e => ?_⟩, st, fun _ m => absurd m (by simp)⟩) (by rw [htb]; exact st) q
        match i, e with
        | 0, e => cases e
        | 1, e =>
          cases e
          obtain ⟨v, h1, h2⟩ := e2.get 1 _ rfl
          exact ⟨v, by rw [List.getElem?_set_ne (by decide)]; exact h1, h2⟩
        | 2, e => cases e
      by_cases c1 : x.cls = "TooMany"
      · refine ⟨true, by rw [ec, bt]; simp [c1], fun _ a oe na hl => go _ a oe ?_ na hl, fun z => by cases z⟩
        unfold fieldOf
        rw [if_pos c1]
      · refine ⟨false, by rw [ec, bt]; simp [c1], (fun z => by cases z), fun _ => ?_⟩
        by_cases c2 : x.cls = "InvalidText"
        · refine ⟨true, by rw [ec, bx]; simp [c2], fun _ a oe na hl => go _ a oe ?_ na hl, fun z => by cases z⟩
          unfold fieldOf
          rw [if_neg c1, if_pos c2]
        · refine ⟨false, by rw [ec, bx]; simp [c2], (fun z => by cases z), fun _ => ⟨true, by rw [ec, bl], fun _ a oe na hl => go _ a oe ?_ na hl, fun z => by cases z⟩⟩
          unfold fieldOf
          rw [if_neg c1, if_neg c2]
    · exact ⟨w1, w2⟩
    · exact k1 env' σ' W' H' M' (big R') (by rw [htb]; exact s') q'
end

/-! ### the call -/
/-- what is told of a call: its value, or its error -/
def wCaught (w : WE) : WE := fun env M Q _ => w env M (fun d M' => 2 ≤ sizeLine ∧ Q (.tup [.str "told", d]) M') (fun x M' => GoodX x ∧ Q (toldX x) M')
/-- the def of the net -/
def CallOk (P : Program) (w : World) (K : PySem.W.Frag) (mg : Str → Option Value) (base : Heap) : Prop := ∃ (st : Stmt) (g : Addr) (fd : FuncData), mg "_law_call" = some (.ref g) ∧ Fun K "_law_call" "_law_call" st g fd ∧ Binds K fd ["_law_call_so"] [] ∧ FnScope ["_law_call_so", "_law_found", "_law_e"] ["_law_call_so"] (defScope st) ∧
  (defScope st).names.lookup ("_law_e" : Str) = some .local ∧ Vis (defScope st) "_law_call_so" ∧
  ∀ (cdv : Value) (A : Around) (outer : List Env) (s : Shared) (H : Hp) (B : Bs) (G : Bs → Prop) (f : Addr) (ct : Mem → KD → ExK → Prop), Room 1 (A.deeper (envOfC "_law_call" (defScope st) s.heap.objs.size g cdv)) → B.tb = [] → G B → (∀ W H, Since [] B.W B.H W H → G ⟨[], W, H⟩) →
    (∀ (pn : List (Addr × Obj)) (xe : Value → Shared → Prop) (B2 : Bs) (p1 p2 : Pos), B2.tb = [] → G B2 → DE ((cxOf C8.CX0 P w K mg base ["_law_call_so", "_law_found", "_law_e"] "_law_call" (defScope st) g cdv A outer s H C8.E0).tr pn xe) B2 (.Call (.Name "_law_call_so" p1) [] [] p2) (wAct f ct)) →
    DSs (cxOf C8.CX0 P w K mg base ["_law_call_so", "_law_found", "_law_e"] "_law_call" (defScope st) g cdv A outer s H C8.E0).nox B (defBody st) (sSeq (sSet 1 (wC .non)) (sSeq (sTold f ct) (sRet (wVar 1))))

theorem MRep.stay' {K : PySem.W.Frag} {W : Wd} {H H' : Hp} {a : Addr} {m : MObj} (h : MRep K W H a m) (hh : ∀ o, H a = some o → plainO o = true → H' a = some o) : MRep K W H' a m := by
  cases m with
  | gone => trivial
  | lst ds => obtain ⟨z, xs, e, r⟩ := h; exact ⟨z, xs, hh _ e rfl, r⟩
  | dic ds => obtain ⟨z, xs, e, r⟩ := h; exact ⟨z, xs, hh _ e rfl, r⟩
theorem Fits.ext {K : PySem.W.Frag} {W : Wd} {H H1 : Hp} {M : Mem} (f : Fits K W H M) (e : ExtN H H1) : Fits K W H1 M := by
  have nt : ∀ {o : HO}, tblO o = false → ∀ ps, o ≠ .tbl ps := fun {o} h ps z => by rw [z] at h; cases h
  refine ⟨fun a o h => e a o (f.fz a o h) (nt (f.nt a o h)), f.len, f.nd, fun i a m h1 h2 => (f.obj i a m h1 h2).stay' ?_, fun a h => ?_, f.nt⟩
  · intro o h hp
    exact e a o h (nt (plain_tbl hp))
  · obtain ⟨o, h1, h2⟩ := f.here a h
    exact ⟨o, e a o h1 (nt (plain_tbl h2)), h2⟩
theorem Since.ext {tb : List (Addr × Str)} {W : Wd} {H H1 : Hp} (ht : tb ≠ []) (e : ExtN H H1) : Since tb W H W H1 := by
  have st : ∀ {a : Addr} {o : HO}, H a = some o → (tb = [] ∨ tblO o = false) → H1 a = some o := fun {a o} h n => e a o h fun ps z => n.elim ht fun n => by rw [z] at n; cases n
  exact ⟨.refl _, fun a o h _ n => st h n, fun _ _ h => .inl h, fun _ h => .inl h, fun a o h n => ⟨o, st h n, n⟩⟩
section
variable {X : Cx} {B : Bs} {params : Arguments} {body : Expr} {scope : Scope} {w : WE} {c P : Addr} {k : Nat} {p lpos pos : Pos}
theorem de_caught (F : CallOk X.prog X.w X.K X.mg X.base) (hg : Gl X "_law_call") (TB : TabB X.base X.mg c P) (hcode : X.env.code = .ref c) (hmT : (P, X.env.qual ++ "<lambda>") ∈ B.tb) (hu : ∀ p ∈ B.tb, p.1 = P → p.2 = X.env.qual ++ "<lambda>") (hr : Room (k + 2) X.A) (L : LamS X.env.scope scope) (hdef : defaultsOf params X.env = ([], []))
    (hbind : ∀ (q : Str) (cl : List (Str × Addr)) (pm cv ctv : Value), bindArgs (PySem.W.kla_fn "<lambda>" q params body scope cl pm cv ctv) ⟨[], []⟩ = pure [])
    (hbody : ∀ (A : Around) (outer : List Env) (s1 : Shared) (H1 : Hp) (E : XK) (f c' : Addr) (B2 : Bs), Room k (A.deeper (lamEnv X scope s1.heap.objs.size f c')) → DE (lamN X A outer s1 H1 E scope f c') B2 body w) :
    DE X B (.Call (.Name "_law_call" p) [.Lambda params body scope lpos] [] pos) (wCaught w) := fun E tk => by
  refine ⟨fun pins s σ H Q I h => ?_⟩
  obtain ⟨env, W, M, Q', R, q, kk⟩ := h
  obtain ⟨st, g, fd, hm, Fg, hb, Sg, hle, hva, hG⟩ := F
  have htb : B.tb ≠ [] := fun z => by rw [z] at hmT; cases hmT
  refine wpAny_Call_Name_kw (ld_glob I hg hm ?_ (by decide))
  refine PySem.W.callWith_K (h₀ := X.base) I.ok.mod.kin Fg.kp ?_ (by rfl) (by rfl)
  show wpAny _ _ (spliced ((false, eval (.Lambda params body scope lpos) X.env) :: backTo pos (starEach [] X.env))) _ _ s
  refine Calls.spliced_cons (lam_make2 I TB hcode hmT hu R.tabs hdef (L.has I.ok) fun f c' pm' ctv H1 s' I1 eN T1 hf hfn hfr hco => ?_)
  refine Calls.spliced_nil ⟨I1.kIn, ?_⟩
  have f1 : Fits X.K W H1 M := R.fit.ext eN
  have s1 : Since B.tb W H W H1 := .ext htb eN
  have R1 : Rl B X.K env σ W H1 M := R.step f1 s1 T1
  have nro : ∀ {W2 : Wd} {H2 : Hp} {M2 : Mem}, Fits X.K W2 H2 M2 → H2 c' = some (CodeO c' (X.env.qual ++ "<lambda>")) → c' ∉ W2.ro := fun {W2 H2 M2} f2 e m => by
    obtain ⟨o, e2, q2⟩ := f2.here c' m
    rw [e] at e2
    cases e2
    cases q2
  have la : LamAt X σ s' H1 scope params body f c' := ⟨L, ⟨pm', ctv, hf⟩, hfn, hfr, hco, hbind, pins, I1⟩
  obtain ⟨oc, od, kV, doc, pm, an, cdv, ct, osl, rfl, lk, hcd⟩ := Fg.ex
  have rc : codeAny (model X.prog X.w) X.A (.call (.ref g) ⟨[.ref f], []⟩) (CR C8.CX0 X.stack X.prog X.w H1 s' Q C8.E0) s' := by
    refine run_ofS (N := ["_law_call_so", "_law_found", "_law_e"]) (ps := ["_law_call_so"]) (us := [.ref f]) (vs := [.ref f]) lk hcd Sg hr I1.env0 (hb s' [.ref f] I1.kIn rfl) (.cons rfl .nil) rfl fun hr' => ?_
    have ds := hG cdv X.A X.stack s' H1 ⟨[], W, H1⟩ (fun B2 => B2.H c' = some (CodeO c' (X.env.qual ++ "<lambda>")) ∧ c' ∉ B2.W.ro ∧ EnvR X.K B2.W env σ) f (fun M Q E => w env M Q E) (hr'.mono (by omega)) rfl ⟨hco, nro f1 hco, R1.env⟩
      (fun W2 H2 s2 => ⟨s2.keep _ _ hco (nro f1 hco) (.inl rfl), fun m => (s2.newr _ m).elim (nro f1 hco) fun z => z _ hco (.inl rfl), R1.env.mono s2.le⟩)
      (fun pn xe B2 p1 p2 t2 g2 => de_act la hr' g2.1 t2 g2.2.2 g2.2.1 (fun A outer s H E B3 hr3 => hbody A outer s H E f c' B3 hr3) rfl hva)
    have tk0 : TakesD (cxOf C8.CX0 X.prog X.w X.K X.mg X.base ["_law_call_so", "_law_found", "_law_e"] "_law_call" (defScope st) g cdv X.A X.stack s' H1 C8.E0).nox ⟨[], W, H1⟩ noE := takesN0.imp fun c d σ H h => by
      obtain ⟨_, _, _, _, _, _, _, z⟩ := h
      exact z.elim
    refine ⟨_, (ds noE tk0).nox, startD ["_law_call_so", "_law_found", "_law_e"] [.adr f], W, M, ⟨fun _ _ => False, Q', fun _ _ => False, fun _ _ => False⟩, ⟨f1, start_env (.cons (.adr _) .nil), .refl, fun _ m => absurd m (by simp)⟩, ⟨rfl, q⟩, fun _ _ _ _ _ _ _ z => z.elim, fun v H' W' d M' f' t' s2 r' q' => ?_, fun _ _ _ _ _ _ _ z => z.elim, fun _ _ _ _ _ _ _ z => z.elim⟩
    have sw := s2.wide (tb := B.tb) f'
    exact kk v H' W' d M' (R1.step f' sw (tabs_keep T1 f1 s2)) (s1.trans sw) r' q'
  refine wpAny_call (codeAny_mono rc fun r s2 hq => ?_)
  cases r with
  | error e => exact (show False from hq).elim
  | ok fl =>
    cases fl with
    | ret u => exact I1.after hq
    | next => exact False.elim hq
    | brk => exact False.elim hq
    | cont => exact False.elim hq
end
end L3
set_option maxRecDepth 100000
set_option maxHeartbeats 4000000
/-! L3P: the end of a law. -/
namespace L3
open PySem PySem.Spec PyProof.Rows L2 HotX L2H LamX
theorem walk_end {l : PySem.W.OpenLaw} {n k : Nat} {q : Program} {loose : List Str} {XP : (Str → Option Value) → Heap → Prop} {YP : World → Heap → Prop} {d : DefRec} {CX : World → CXT} {x : Str} (hn : l.most = some n) (hn2 : n ≤ sizeLine) (hdf : d.params.defaults = []) (hr : Room k callerA)
    (F : ∀ (w : World) (mg : Str → Option Value) (fa : Addr) (h : Heap), YP w h → XP mg h → h.Ns mainGlobals mg → mg d.name = some (.ref fa) → ∃ K : PySem.W.Frag, K.In h ∧ LawAtS l w K (CX w) k n x mg fa h)
    (hCX : ∀ (w : World) (H : Hp) (s : Shared) (e : Value) (s' : Shared), CX w [] H s (fun _ _ _ => False) e s' → False) : PySem.W.WalkO q loose XP YP l.row.toRowW d [] (fun f vs => PySem.call f vs) := by
  refine Att.attach_callB hn hdf fun w s₀ s₁ mg mb fa o pm cd doc a vs ns G Y ho hd hcd hmg hobj hints hlen hbits hg => ?_
  obtain ⟨K, KX, fd, cs, sp, h1, h2, h3, h4, h5, h6⟩ := F w mg fa _ Y (PySem.W.Ground.X G) G.T.g hmg
  exact law_callTs KX G.T.g G.T.b G.T.builtins G.T.nolimit hg h1 h2 h3 G.T.bmain hobj hints (Nat.le_trans hlen hn2) hr h6 h4 (fun H hH hS => h5 H a ns hlen hbits hH hS) fun H e s' => hCX w H s₁ e s'
theorem cx_false {P : Program} {w : World} {H : Hp} {s : Shared} {e : Value} {s' : Shared} (h : L2N.CX P w [] H s (fun _ _ _ => False) e s') : False := by
  obtain ⟨_, _, _, _, _, _, _, _, _, _, _, _, z⟩ := h
  exact z
section
variable {K : PySem.W.Frag} {h : Heap} {mg : Str → Option Value}
theorem defAt_mk {x : Str} {st : Stmt} {ps : List Str} {f : Addr} {oc : Value} {od an : Option Addr} {osl : Array (Option Value)} {kV doc pm cdv ct : Value} (X : K.In h) (G : h.Ns mainGlobals mg) (a : PySem.W.nsIn K mainGlobals x = some (some (.ref f)))
    (l : K.lookup f = some ⟨oc, od, .func (PySem.W.fnOf x x (defArgs st) (defBody st) (defScope st) .none kV doc pm an cdv ct), osl⟩) (c : PySem.W.codeIn K cdv x = true) (k : PySem.W.keepIn K (.ref f) = true)
    (b : ∀ (kV doc pm : Value) (an : Option Addr) (cdv ct : Value) (us : List Value), us.length = ps.length → bindArgs (PySem.W.fnOf x x (defArgs st) (defBody st) (defScope st) .none kV doc pm an cdv ct) ⟨us, []⟩ = pure (ps.zip us)) : DefAt K mg x st ps :=
  ⟨f, _, PySem.W.mg_of X G a, fun_mk l c k, Fun.binds (fun_mk l c k) b⟩
/-- the law's own promise, of the script alone; tb: its table, where it has one -/
theorem law_script {ct : CtD} {tb : List (Addr × Str)} {H : Hp} {a : Addr} {ns : List Int} (hT : ∀ p ∈ tb, H p.1 = some (.tbl #[])) (hS : SqL K H a (ns.map V.int)) (q : ct [.scr ns] [] (fun d _ => d = .bl true) noE) :
    spD K mg tb 1 ct [.ref a] H (fun v _ => v = .bl true) fun _ _ _ => False := by
  refine ⟨⟨fun b => if b = a then (match H a with | some (.tbl _) => none | o => o) else none, []⟩, [], [.scr ns], _, _, ⟨fun b o e => ?_, rfl, List.nodup_nil, fun i b m e => by simp at e, fun b m => by simp at m, fun b o e => ?_⟩, fun p hp => TabS.nil (hT p hp), .cons (.scr ?_) .nil, rfl, q, fun v H' W' d M' f s r e => ?_, fun x cls dx H' W' M' f s xr e => e.elim⟩
  · dsimp only at e
    split at e
    · rename_i hb
      subst hb
      split at e
      · cases e
      · exact e
    · cases e
  · dsimp only at e
    split at e
    · split at e
      · cases e
      · rename_i hn
        cases o with
        | tbl ps => exact absurd e (hn ps)
        | _ => rfl
    · cases e
  · rcases hS with (h | ⟨o, h⟩) | h
    · exact .inl (.inl (by dsimp only; rw [if_pos rfl, h]))
    · exact .inl (.inr ⟨o, by dsimp only; rw [if_pos rfl, h]⟩)
    · exact .inr h
  · subst e
    cases r
    rfl
/-- the law, that makes lambdas -/
theorem fnok_lam {P : Program} {w : World} {base : Heap} {st : Stmt} {f c Pt : Addr} {N : List Str} {k : Nat} {oc : Value} {od an : Option Addr} {osl : Array (Option Value)} {kV doc pm cv : Value} {x p : Str} {tn : Str} {ct : CtD} {wb : WS}
    (l : K.lookup f = some ⟨oc, od, .func (PySem.W.fnOf x x (defArgs st) (defBody st) (defScope st) .none kV doc pm an (.ref c) cv), osl⟩) (hc : PySem.W.codeIn K (.ref c) x = true) (S : FnScope N [p] (defScope st))
    (hbody : ∀ (A : Around) (outer : List Env) (s : Shared) (H : Hp) (E : XK) (B : Bs), B.tb = [(Pt, tn)] → Room k (A.deeper (envOfC x (defScope st) s.heap.objs.size f (.ref c))) → DSs (cxOf (L2N.CX P w) P w K mg base N x (defScope st) f (.ref c) A outer s H E) B (defBody st) wb)
    (hct : ∀ ds M Q E, ds.length = 1 → ct ds M Q E → wb (startD N ds) M { nx := fun _ M' => Q .non M', rt := Q, bk := fun _ _ => False, ct := fun _ _ => False } E) :
    FnOk P w K mg base (L2N.CX P w) (k + 1) f (PySem.W.fnOf x x (defArgs st) (defBody st) (defScope st) .none kV doc pm an (.ref c) cv) [p] (spD K mg [(Pt, tn)] 1 ct) := by
  refine fn_of l hc S (fun vs H Q E h => ?_) fun A outer s H vs Q E hr h => ?_
  · obtain ⟨W, M, ds, Q', E', ft, t, r, hl, _⟩ := h
    rw [r.length, hl]; rfl
  · obtain ⟨W, M, ds, Q', E', ft, t, r, hl, q, k1, k2⟩ := h
    have tk : TakesD (cxOf (L2N.CX P w) P w K mg base N x (defScope st) f (.ref c) A outer s H E) ⟨[(Pt, tn)], W, H⟩ E' :=
      (L2N.takes_of (X := cxOf (L2N.CX P w) P w K mg base N x (defScope st) f (.ref c) A outer s H E) (E := E) rfl rfl rfl rfl).imp fun cls d σ H' h => by
        obtain ⟨W', M', xx, f', s', t', xr, q'⟩ := h
        exact k2 xx cls d H' W' M' f' s' xr q'
    refine ⟨_, hbody A outer s H E ⟨[(Pt, tn)], W, H⟩ rfl hr E' tk, startD N ds, W, M, _, ⟨ft, start_env r, .refl, t⟩, hct ds M Q' E' hl q, ?_, ?_, ?_, ?_⟩
    · exact fun env' σ' W' H' M' R' s' q' => k1 _ _ _ _ _ R'.fit s' .non q'
    · exact fun v H' W' d M' f' t' s' r' q' => k1 _ _ _ _ _ f' s' r' q'
    · exact fun env' σ' W' H' M' R' s' q' => q'.elim
    · exact fun env' σ' W' H' M' R' s' q' => q'.elim
end
end L3
set_option maxRecDepth 100000
set_option maxHeartbeats 4000000
/-! L3Q: what the top has left, asked of its written part at once. -/
namespace L3
open PySem PySem.Spec PyProof.Rows L2 HotX L2H LamX
open PySem.W (Frag nsIn findIn subIn hasDictIn specialIn takesIn mroIn kitOne exmOne excIn keepIn typeIn)
def atB (K : Frag) (x : Str) : Option Addr := match nsIn K mainGlobals x with
  | some (some (.ref a)) => some a
  | _ => none
theorem atB_of {K : Frag} {x : Str} {a : Addr} (h : atB K x = some a) : nsIn K mainGlobals x = some (some (.ref a)) := by
  unfold atB at h
  split at h
  · rename_i e
    cases h
    exact e
  · cases h
def noneB (K : Frag) (xs : List Str) : Bool := xs.all fun x => decide (nsIn K mainGlobals x = some none)
def excCB (K : Frag) (D : Addr) : Bool :=
  decide (findIn K (.ref D) "__getattribute__" = some (some (.builtin "BaseException.__getattribute__"))) && (decide (findIn K (.ref D) "__getattr__" = some none) && (decide (subIn K (.ref D) (.type "BaseException") = some true) && (hasDictIn K D &&
    (decide (findIn K (.ref D) "__class__" = some (some (.builtin "object.__class__"))) && (decide (specialIn K (.builtin "object.__class__") "__get__" = some (some (.builtin "getset_descriptor.__get__"))) && (decide (takesIn K (.builtin "object.__class__") = some true) && decide (mroIn K D (.type "object") = some true)))))))
theorem excCB_of {K : Frag} {D : Addr} (h : excCB K D = true) : ExcC K D := by
  unfold excCB at h
  simp only [Bool.and_eq_true, decide_eq_true_eq] at h
  obtain ⟨h1, h2, h3, h4, h5, h6, h7, h8⟩ := h
  exact ⟨h1, h2, h3, h4, h5, h6, h7, h8⟩
def catchB (K : Frag) (D : Addr) (x : Str) (b : Bool) : Bool := match atB K x with
  | some C => decide (exmOne K (.ref D) (.ref C) = some b)
  | none => false
def kitB1 (K : Frag) (D : Addr) (x : Str) (b : Bool) : Bool := match atB K x with
  | some C => decide (kitOne K (.ref D) (.ref C) = some b)
  | none => false
def errB (K : Frag) (c : Str) : Bool := match atB K c with
  | some D => excCB K D && (errNames.all (fun x => kitB1 K D x (x == c)) && (decide (kitOne K (.ref D) (.type "ValueError") = some true) && (catchB K D "TooMany" (decide (c = "TooMany")) && (catchB K D "InvalidText" (decide (c = "InvalidText")) && (catchB K D "LoopError" true &&
      (match fieldOf c with | some f => xfB K D && decide (findIn K (.ref D) f = some none) | none => true))))))
  | none => false
section
variable {K : Frag} {h : Heap} {mg : Str → Option Value}
theorem catchB_of (X : K.In h) (G : h.Ns mainGlobals mg) {D : Addr} {x : Str} {b : Bool} (q : catchB K D x b = true) : ∃ C : Addr, mg x = some (.ref C) ∧ exmOne K (.ref D) (.ref C) = some b := by
  unfold catchB at q
  split at q
  · rename_i C e
    exact ⟨C, PySem.W.mg_of X G (atB_of e), of_decide_eq_true q⟩
  · cases q
theorem errB_of (X : K.In h) (G : h.Ns mainGlobals mg) {c : Str} (hm : c ∈ errNames) (q : errB K c = true) : ∃ D, ErrF K mg c D := by
  unfold errB at q
  split at q
  · rename_i D e
    simp only [Bool.and_eq_true, decide_eq_true_eq, List.all_eq_true] at q
    obtain ⟨h1, h2, h3, h4, h5, h6, h7⟩ := q
    refine ⟨D, hm, PySem.W.mg_of X G (atB_of e), excCB_of h1, fun x hx => ?_, h3, catchB_of X G h4, catchB_of X G h5, catchB_of X G h6, fun f hf => ?_⟩
    · have q := h2 x hx
      unfold kitB1 at q
      split at q
      · rename_i C e2
        exact ⟨C, PySem.W.mg_of X G (atB_of e2), of_decide_eq_true q⟩
      · cases q
    · rw [hf] at h7
      simp only [Bool.and_eq_true, decide_eq_true_eq] at h7
      exact ⟨xfB_ok h7.1, h7.2⟩
  · cases q
theorem errs_of (X : K.In h) (G : h.Ns mainGlobals mg) (q : errNames.all (errB K) = true) : ∀ c ∈ errNames, ∃ D, ErrF K mg c D := fun c hc => errB_of X G hc (List.all_eq_true.mp q c hc)
theorem none_of (X : K.In h) (G : h.Ns mainGlobals mg) {xs : List Str} (q : noneB K xs = true) : ∀ x ∈ xs, mg x = none := fun x hx => PySem.W.mg_none_of X G (of_decide_eq_true (List.all_eq_true.mp q x hx))
/-- an own class without __init__ -/
def rsB (K : Frag) (x : Str) : Bool := match atB K x with
  | some C => excIn K C [.type "ValueError", .type "Exception", .type "BaseException", .type "object"] "ValueError.__new__" && (keepIn K (.ref C) && (decide (subIn K (.ref C) (.type "BaseException") = some true) && decide (typeIn K (.ref C) = some (.type "type"))))
  | none => false
theorem rsB_of (X : K.In h) (G : h.Ns mainGlobals mg) {x : Str} (q : rsB K x = true) : ExcF K mg x := by
  unfold rsB at q
  split at q
  · rename_i C e
    simp only [Bool.and_eq_true, decide_eq_true_eq] at q
    exact ⟨C, PySem.W.mg_of X G (atB_of e), q.1, q.2.1, q.2.2.1, q.2.2.2⟩
  · cases q
def intsB : List Value → List Int → Bool
  | [], [] => true
  | .int i _ :: vs, n :: ns => decide (i = n) && intsB vs ns
  | _, _ => false
theorem intsB_of : ∀ {vs : List Value} {ns : List Int}, intsB vs ns = true → Vals (ns.map V.int) vs
  | [], [], _ => .nil
  | [], _ :: _, h => by cases h
  | v :: vs, [], h => by cases v <;> cases h
  | v :: vs, n :: ns, h => by
    cases v with
    | int i t =>
      have h' : (decide (i = n) && intsB vs ns) = true := h
      rw [Bool.and_eq_true, decide_eq_true_eq] at h'
      exact .cons ⟨t, by rw [h'.1]⟩ (intsB_of h'.2)
    | _ => cases h
def tupB (K : Frag) (x : Str) (ns : List Int) : Bool := match atB K x with
  | some a => (match K.lookup a with
    | some ⟨.type "tuple", _, .seq its _, _⟩ => decide (its.size ≤ 100) && intsB its.toList ns
    | _ => false)
  | none => false
theorem tupB_of (X : K.In h) (G : h.Ns mainGlobals mg) {x : Str} {ns : List Int} (q : tupB K x ns = true) : TupK K mg x ns := by
  unfold tupB at q
  split at q
  · rename_i a e
    split at q
    · rename_i od its n osl e2
      rw [Bool.and_eq_true, decide_eq_true_eq] at q
      exact ⟨a, _, its, n, PySem.W.mg_of X G (atB_of e), e2, rfl, rfl, Nat.le_trans q.1 (by decide), intsB_of q.2⟩
    · cases q
  · cases q
def ciB (K : Frag) (x : Str) (i : Int) : Bool := match nsIn K mainGlobals x with
  | some (some (.int j _)) => decide (j = i)
  | _ => false
theorem ciB_of (X : K.In h) (G : h.Ns mainGlobals mg) {x : Str} {i : Int} (q : ciB K x i = true) : ∃ t, mg x = some (.int i t) := by
  unfold ciB at q
  split at q
  · rename_i j t e
    rw [decide_eq_true_eq] at q
    subst q
    exact ⟨t, PySem.W.mg_of X G e⟩
  · cases q
def csB (K : Frag) (x : Str) (i : Str) : Bool := match nsIn K mainGlobals x with
  | some (some (.str j _)) => decide (j = i)
  | _ => false
theorem csB_of (X : K.In h) (G : h.Ns mainGlobals mg) {x : Str} {i : Str} (q : csB K x i = true) : ∃ t, mg x = some (.str i t) := by
  unfold csB at q
  split at q
  · rename_i j t e
    rw [decide_eq_true_eq] at q
    subst q
    exact ⟨t, PySem.W.mg_of X G e⟩
  · cases q
/-- a loose int -/
theorem loose_int {p : Program} {lv : List (Str × PySem.W.WData)} {x : Str} {i : Int} (X : PySem.W.XL p lv mg h) (hm : (x, PySem.W.WData.int i) ∈ lv) : ∃ t, mg x = some (.int i t) := by
  obtain ⟨v, e, r⟩ := X.2.val _ hm
  cases v with
  | int j t =>
    first
    | (have q : j = i := r.1; exact ⟨t, by rw [← q]; exact e⟩)
    | (have q : i = j := r.1; exact ⟨t, by rw [q]; exact e⟩)
    | (cases r; exact ⟨t, e⟩)
  | _ => first | cases r | exact absurd r (by simp [PySem.W.ReadsLit])
end
end L3
namespace L3
open PySem PySem.Spec PyProof.Rows L2 HotX L2H LamX
theorem lawAt_lam {l : PySem.W.OpenLaw} {w : World} {K : PySem.W.Frag} {mg : Str → Option Value} {h : Heap} {fa f c Pt : Addr} {st : Stmt} {N : List Str} {k n : Nat} {oc : Value} {od an : Option Addr} {osl : Array (Option Value)} {kV doc pm cv : Value} {ct : CtD} {wb : WS} {tn : Str}
    (KX : K.In h) (G : h.Ns mainGlobals mg) (hmg : mg "law" = some (.ref fa)) (hP : ∀ P ∈ [Pt], h.get? P = some (PySem.W.tabObj #[])) (S : FnScope N ["_law_script"] (defScope st)) (a : PySem.W.nsIn K mainGlobals "law" = some (some (.ref f)))
    (lk : K.lookup f = some ⟨oc, od, .func (PySem.W.fnOf "law" "law" (defArgs st) (defBody st) (defScope st) .none kV doc pm an (.ref c) cv), osl⟩) (hc : PySem.W.codeIn K (.ref c) "law" = true) (nK : K.lookup Pt = none) (cH : PySem.W.codeHdIn K c Pt = true)
    (b : ∀ (kV doc pm : Value) (an : Option Addr) (cdv ct : Value) (us : List Value), us.length = 1 → bindArgs (PySem.W.fnOf "law" "law" (defArgs st) (defBody st) (defScope st) .none kV doc pm an cdv ct) ⟨us, []⟩ = pure ((["_law_script"] : List Str).zip us))
    (hbody : ∀ (base : Heap), TabB base mg c Pt → ∀ (A : Around) (outer : List Env) (s : Shared) (H : Hp) (E : XK) (B : Bs), B.tb = [(Pt, tn)] → Room k (A.deeper (envOfC "law" (defScope st) s.heap.objs.size f (.ref c))) → DSs (cxOf (L2N.CX l.prog w) l.prog w K mg base N "law" (defScope st) f (.ref c) A outer s H E) B (defBody st) wb)
    (hct : ∀ ds M Q E, ds.length = 1 → ct ds M Q E → wb (startD N ds) M { nx := fun _ M' => Q .non M', rt := Q, bk := fun _ _ => False, ct := fun _ _ => False } E)
    (q : ∀ ns : List Int, ns.length ≤ n → (∀ z ∈ ns, Builtin.Int.intBits z ≤ 1048576) → ct [.scr ns] [] (fun d _ => d = .bl true) noE) : LawAtS l w K (L2N.CX l.prog w) (k + 1) n "_law_script" mg fa h := by
  have e := hmg.symm.trans (PySem.W.mg_of KX G a)
  cases e
  refine ⟨_, [(c, Pt)], spD K mg [(Pt, tn)] 1 ct, fun p hp => ?_, fun p hp => ?_, fun p hp => ?_, fun s u => ?_, fun H a ns hl hb hT hS => law_script (fun p hp => ?_) hS (q ns hl hb), fun base hK hn hTB => fnok_lam lk hc S (hbody base (hTB _ (List.mem_singleton.mpr rfl))) hct⟩
  · rw [List.mem_singleton.mp hp]; exact hP Pt (List.mem_singleton.mpr rfl)
  · rw [List.mem_singleton.mp hp]; exact nK
  · rw [List.mem_singleton.mp hp]; exact PySem.W.codeHd_of_K KX cH
  · exact .of_eq (b _ _ _ _ _ _ [u] rfl)
  · rw [List.mem_singleton.mp hp]; exact hT (c, Pt) (List.mem_singleton.mpr rfl)
end L3
set_option maxRecDepth 100000
set_option maxHeartbeats 4000000
/-! L3R: steps of readings. -/
namespace L3
open PySem PySem.Spec PyProof.Rows L2
section
variable {M : Mem} {Q : D → Prop}
theorem ix_tup {ds : List D} {i : Int} {d : D} (h : atI ds i = some d) (q : Q d) : oIx (.tup ds) (.int i) M Q := by
  show (match atI ds i with | some d => Q d | none => False)
  rw [h]; exact q
theorem ix_lst {ds : List D} {i : Int} {d : D} (h : atI ds i = some d) (q : Q d) : oIx (.lst ds) (.int i) M Q := by
  show (match atI ds i with | some d => Q d | none => False)
  rw [h]; exact q
theorem ix_scr {ns : List Int} {i n : Int} (h : atI ns i = some n) (q : Q (.int n)) : oIx (.scr ns) (.int i) M Q := by
  show (match atI ns i with | some d => Q (.int d) | none => False)
  rw [h]; exact q
theorem ix_ref {r : Nat} {ds : List D} {i : Int} {d : D} (hr : M[r]? = some (.lst ds)) (h : atI ds i = some d) (q : Q d) : oIx (.ref r) (.int i) M Q := by
  have e : seeD M (.ref r) = .lst ds := by
    show (match M[r]? with | some (.lst ds) => D.lst ds | _ => D.ref r) = _
    rw [hr]
  unfold oIx
  rw [e]
  show (match atI ds i with | some d => Q d | none => False)
  rw [h]; exact q
theorem eq_int {neg : Bool} {i j : Int} (q : Q (.bl (if neg then !(i == j) else i == j))) : oEq neg (.int i) (.int j) M Q := ⟨rfl, rfl, q⟩
theorem in_ints {i : Int} {ns : List Int} (q : Q (.bl (decide (i ∈ ns)))) : oIn false (.int i) (.kup (ns.map D.int)) M Q := ⟨ns, rfl, q⟩
theorem mod_int {i j : Int} (h : 0 < j) (q : Q (.int (i % j))) : oMod (.int i) (.int j) M Q := ⟨h, q⟩
theorem atI_nat {α : Type} {xs : List α} {i : Nat} {x : α} (h : xs[i]? = some x) : atI xs (i : Int) = some x := by
  have hl := (List.getElem?_eq_some_iff.mp h).1
  unfold atI ixN
  rw [if_pos (by omega), if_pos (by omega)]
  simpa using h
end
section
variable {g : WG} {s1 : WS} {D : EndsD} {E : ExK}
/-- the turns of a for, by what holds ahead of each -/
theorem turns_ind (P : Nat → Envd → Mem → Prop) : ∀ (xs : List L3.D) (k : Nat) (env : Envd) (M : Mem),
    (∀ (i : Nat) (x : L3.D) (env : Envd) (M : Mem) (D' : EndsD), xs[i]? = some x → P (k + i) env M → (∀ env' M', P (k + i + 1) env' M' → D'.nx env' M') → (∀ env' M', P (k + i + 1) env' M' → D'.ct env' M') → (∀ d M', D.rt d M' → D'.rt d M') → (∀ env' M', D.nx env' M' → D'.bk env' M') → g x env M (fun env1 M1 => s1 env1 M1 D' E) E) →
    P k env M → (∀ env M, P (k + xs.length) env M → D.nx env M) → sTurns g s1 xs env M D E
  | [], k, env, M, _, h0, hd => hd env M h0
  | x :: xs, k, env, M, h, h0, hd => by
    have ih : ∀ env' M', P (k + 1) env' M' → sTurns g s1 xs env' M' D E := fun env' M' h1 => turns_ind P xs (k + 1) env' M' (fun i y env2 M2 D2 e p a b c d => h (i + 1) y env2 M2 D2 (by simpa using e) (by rw [show k + (i + 1) = k + 1 + i by omega]; exact p) (fun e' m' q => a e' m' (by rw [show k + 1 + i + 1 = k + (i + 1) + 1 by omega]; exact q)) (fun e' m' q => b e' m' (by rw [show k + 1 + i + 1 = k + (i + 1) + 1 by omega]; exact q)) c d)
      h1 (fun e' m' q => hd e' m' (by rw [show k + (x :: xs).length = k + 1 + xs.length by simp; omega]; exact q))
    exact h 0 x env M _ rfl h0 ih ih (fun _ _ q => q) (fun _ _ q => q)
end
/-- the turns of a comprehension that leave the store alone -/
theorem cturns_filter {g : D → Envd → Option Envd} {u : WT} {w : WE} {env : Envd} {M : Mem} {Q : List D → Mem → Prop} (p : D → Bool) (F : D → D) : ∀ (items acc : List D),
    (∀ x ∈ items, ∃ env2, g x env = some env2 ∧ (∀ R : Bool → Mem → Prop, R (p x) M → u env2 M R noE) ∧ (p x = true → ∀ R : KD, R (F x) M → w env2 M R noE)) → acc.length + items.length ≤ sizeLine → Q (acc ++ (items.filter p).map F) M → cTurns g u w items acc env M Q
  | [], acc, _, _, h => by
    show Q acc M
    simpa using h
  | x :: xs, acc, hs, hl, h => by
    obtain ⟨env2, e1, e2, e3⟩ := hs x List.mem_cons_self
    have hl' : acc.length + (xs.length + 1) ≤ sizeLine := hl
    show (match g x env with | some env2 => u env2 M (fun b M2 => if b = true then w env2 M2 (fun d M3 => acc.length < sizeLine ∧ cTurns g u w xs (acc ++ [d]) env M3 Q) noE else cTurns g u w xs acc env M2 Q) noE | none => False)
    rw [e1]
    refine e2 _ ?_
    cases hp : p x with
    | false =>
      rw [List.filter_cons_of_neg (by simp [hp])] at h
      rw [if_neg (by simp)]
      exact cturns_filter p F xs acc (fun y hy => hs y (List.mem_cons_of_mem _ hy)) (by omega) h
    | true =>
      rw [List.filter_cons_of_pos hp, List.map_cons] at h
      rw [if_pos rfl]
      refine e3 hp _ ⟨by omega, cturns_filter p F xs (acc ++ [F x]) (fun y hy => hs y (List.mem_cons_of_mem _ hy)) (by rw [List.length_append]; simp only [List.length_singleton]; omega) ?_⟩
      rw [List.append_assoc]
      exact h
theorem cturns_map {g : D → Envd → Option Envd} {w : WE} {env : Envd} {M : Mem} {Q : List D → Mem → Prop} (F : D → D) (items : List D) (hs : ∀ x ∈ items, ∃ env2, g x env = some env2 ∧ ∀ R : KD, R (F x) M → w env2 M R noE) (hl : items.length ≤ sizeLine) (h : Q (items.map F) M) : cTurns g uYes w items [] env M Q := by
  refine cturns_filter (fun _ => true) F items [] (fun x hx => ?_) (by simpa using hl) ?_
  · obtain ⟨env2, e1, e2⟩ := hs x hx
    exact ⟨env2, e1, fun R r => r, fun _ => e2⟩
  · rw [List.filter_eq_self.mpr (fun _ _ => rfl)]
    exact h
theorem isi_int_int : ∀ {M : Mem} {i : Int}, ((tyD (seeD M (.int i))).bind fun t => kitB t "int") = some true := fun {M i} => by show kitB "int" "int" = _; decide +kernel
end L3
set_option maxRecDepth 100000
set_option maxHeartbeats 4000000
/-! L3S: steps of readings as equations, for simp. -/
namespace L3
open PySem PySem.Spec PyProof.Rows L2
section
variable {M : Mem} {Q : D → Prop} {a b c d e : D} {l : List D} {i j : Int} {n : Nat}
theorem ixN0 : ixN (n + 1) 0 = some 0 := by unfold ixN; rw [if_pos (by omega), if_pos (by omega)]; rfl
theorem ixN1 : ixN (n + 2) 1 = some 1 := by unfold ixN; rw [if_pos (by omega), if_pos (by omega)]; rfl
theorem ixN2 : ixN (n + 3) 2 = some 2 := by unfold ixN; rw [if_pos (by omega), if_pos (by omega)]; rfl
theorem ixN3 : ixN (n + 4) 3 = some 3 := by unfold ixN; rw [if_pos (by omega), if_pos (by omega)]; rfl
theorem ixT0 : oIx (.tup (a :: l)) (.int 0) M Q = Q a := by
  show (match ((ixN (l.length + 1) 0).bind fun j => (a :: l)[j]?) with | some d => Q d | none => False) = _
  rw [ixN0]; rfl
theorem ixT1 : oIx (.tup (a :: b :: l)) (.int 1) M Q = Q b := by
  show (match ((ixN (l.length + 2) 1).bind fun j => (a :: b :: l)[j]?) with | some d => Q d | none => False) = _
  rw [ixN1]; rfl
theorem ixT2 : oIx (.tup (a :: b :: c :: l)) (.int 2) M Q = Q c := by
  show (match ((ixN (l.length + 3) 2).bind fun j => (a :: b :: c :: l)[j]?) with | some d => Q d | none => False) = _
  rw [ixN2]; rfl
theorem ixT3 : oIx (.tup (a :: b :: c :: d :: l)) (.int 3) M Q = Q d := by
  show (match ((ixN (l.length + 4) 3).bind fun j => (a :: b :: c :: d :: l)[j]?) with | some d => Q d | none => False) = _
  rw [ixN3]; rfl
theorem ixL0 : oIx (.lst (a :: l)) (.int 0) M Q = Q a := by
  show (match ((ixN (l.length + 1) 0).bind fun j => (a :: l)[j]?) with | some d => Q d | none => False) = _
  rw [ixN0]; rfl
theorem ixL1 : oIx (.lst (a :: b :: l)) (.int 1) M Q = Q b := by
  show (match ((ixN (l.length + 2) 1).bind fun j => (a :: b :: l)[j]?) with | some d => Q d | none => False) = _
  rw [ixN1]; rfl
theorem ixL2 : oIx (.lst (a :: b :: c :: l)) (.int 2) M Q = Q c := by
  show (match ((ixN (l.length + 3) 2).bind fun j => (a :: b :: c :: l)[j]?) with | some d => Q d | none => False) = _
  rw [ixN2]; rfl
theorem ixL3 : oIx (.lst (a :: b :: c :: d :: l)) (.int 3) M Q = Q d := by
  show (match ((ixN (l.length + 4) 3).bind fun j => (a :: b :: c :: d :: l)[j]?) with | some d => Q d | none => False) = _
  rw [ixN3]; rfl
theorem eqP (p q r : Prop) (hp : p) (hq : q) : (p ∧ q ∧ r) = r := by simp [hp, hq]
theorem eqII : oEq false (.int i) (.int j) M Q = Q (.bl (i == j)) := eqP _ _ _ rfl rfl
theorem neII : oEq true (.int i) (.int j) M Q = Q (.bl (!(i == j))) := eqP _ _ _ rfl rfl
theorem eqBB {x y : Bool} : oEq false (.bl x) (.bl y) M Q = Q (.bl (x == y)) := eqP _ _ _ rfl rfl
theorem neBB {x y : Bool} : oEq true (.bl x) (.bl y) M Q = Q (.bl (!(x == y))) := eqP _ _ _ rfl rfl
theorem eqPP {x y : Int} : oEq false (.tup [.int i, .int j]) (.tup [.int x, .int y]) M Q = Q (.bl (i == x && (j == y && true))) := eqP _ _ _ rfl rfl
theorem nePP {x y : Int} : oEq true (.tup [.int i, .int j]) (.tup [.int x, .int y]) M Q = Q (.bl (!(i == x && (j == y && true)))) := eqP _ _ _ rfl rfl
end
section
variable {k : Nat}
theorem szE (h : k ≤ 16777216) : (k ≤ sizeLine) = True := eq_true (sz_le h)
theorem sz0 : (0 ≤ sizeLine) = True := szE (by decide)
theorem sz1 : (1 ≤ sizeLine) = True := szE (by decide)
theorem sz2 : (2 ≤ sizeLine) = True := szE (by decide)
theorem sz3 : (3 ≤ sizeLine) = True := szE (by decide)
theorem sz4 : (4 ≤ sizeLine) = True := szE (by decide)
theorem sz5 : (5 ≤ sizeLine) = True := szE (by decide)
theorem sz6 : (6 ≤ sizeLine) = True := szE (by decide)
theorem sz7 : (7 ≤ sizeLine) = True := szE (by decide)
theorem sz8 : (8 ≤ sizeLine) = True := szE (by decide)
theorem sz9 : (9 ≤ sizeLine) = True := szE (by decide)
theorem sz10 : (10 ≤ sizeLine) = True := szE (by decide)
theorem sz12 : (12 ≤ sizeLine) = True := szE (by decide)
theorem sz1b : (0 + 1 ≤ sizeLine) = True := szE (by decide)
theorem sz2b : (0 + 1 + 1 ≤ sizeLine) = True := szE (by decide)
theorem sz3b : (0 + 1 + 1 + 1 ≤ sizeLine) = True := szE (by decide)
theorem sz4b : (0 + 1 + 1 + 1 + 1 ≤ sizeLine) = True := szE (by decide)
end
/-! isinstance of built-in classes -/
theorem kII : kitB "int" "int" = some true := by decide +kernel
theorem kIB : kitB "int" "bool" = some false := by decide +kernel
theorem kIT : kitB "int" "tuple" = some false := by decide +kernel
theorem kIS : kitB "int" "str" = some false := by decide +kernel
theorem kIL : kitB "int" "list" = some false := by decide +kernel
theorem kBI : kitB "bool" "int" = some true := by decide +kernel
theorem kBB : kitB "bool" "bool" = some true := by decide +kernel
theorem kBT : kitB "bool" "tuple" = some false := by decide +kernel
theorem kBS : kitB "bool" "str" = some false := by decide +kernel
theorem kBL : kitB "bool" "list" = some false := by decide +kernel
theorem kSI : kitB "str" "int" = some false := by decide +kernel
theorem kSB : kitB "str" "bool" = some false := by decide +kernel
theorem kST : kitB "str" "tuple" = some false := by decide +kernel
theorem kSS : kitB "str" "str" = some true := by decide +kernel
theorem kSL : kitB "str" "list" = some false := by decide +kernel
theorem kNI : kitB "NoneType" "int" = some false := by decide +kernel
theorem kNB : kitB "NoneType" "bool" = some false := by decide +kernel
theorem kNT : kitB "NoneType" "tuple" = some false := by decide +kernel
theorem kNS : kitB "NoneType" "str" = some false := by decide +kernel
theorem kNL : kitB "NoneType" "list" = some false := by decide +kernel
theorem kTI : kitB "tuple" "int" = some false := by decide +kernel
theorem kTB : kitB "tuple" "bool" = some false := by decide +kernel
theorem kTT : kitB "tuple" "tuple" = some true := by decide +kernel
theorem kTS : kitB "tuple" "str" = some false := by decide +kernel
theorem kTL : kitB "tuple" "list" = some false := by decide +kernel
theorem kLI : kitB "list" "int" = some false := by decide +kernel
theorem kLB : kitB "list" "bool" = some false := by decide +kernel
theorem kLT : kitB "list" "tuple" = some false := by decide +kernel
theorem kLS : kitB "list" "str" = some false := by decide +kernel
theorem kLL : kitB "list" "list" = some true := by decide +kernel

section
variable {M : Mem} {ds : List D} {i : Int} {b : Bool} {x : Str} {a : Addr} {ns : List Int} {kvs : List (List Key × D)}
theorem see_non : seeD M .non = .non := rfl
theorem see_bl : seeD M (.bl b) = .bl b := rfl
theorem see_int : seeD M (.int i) = .int i := rfl
theorem see_str : seeD M (.str x) = .str x := rfl
theorem see_tup : seeD M (.tup ds) = .tup ds := rfl
theorem see_lst : seeD M (.lst ds) = .lst ds := rfl
theorem see_dic : seeD M (.dic kvs) = .dic kvs := rfl
theorem see_adr : seeD M (.adr a) = .adr a := rfl
theorem see_scr : seeD M (.scr ns) = .scr ns := rfl
theorem see_kup : seeD M (.kup ds) = .kup ds := rfl
theorem see_ref {r : Nat} (h : M[r]? = some (.lst ds)) : seeD M (.ref r) = .lst ds := by
  show (match M[r]? with | some (.lst ds) => D.lst ds | _ => D.ref r) = _
  rw [h]
theorem nn_non : isNonD .non = true := rfl
theorem nn_bl : isNonD (.bl b) = false := rfl
theorem nn_int : isNonD (.int i) = false := rfl
theorem nn_str : isNonD (.str x) = false := rfl
theorem nn_tup : isNonD (.tup ds) = false := rfl
theorem nn_lst : isNonD (.lst ds) = false := rfl
theorem nn_dic : isNonD (.dic kvs) = false := rfl
theorem ty_non : tyD .non = some "NoneType" := rfl
theorem ty_bl : tyD (.bl b) = some "bool" := rfl
theorem ty_int : tyD (.int i) = some "int" := rfl
theorem ty_str : tyD (.str x) = some "str" := rfl
theorem ty_tup : tyD (.tup ds) = some "tuple" := rfl
theorem ty_lst : tyD (.lst ds) = some "list" := rfl
theorem ty_kup : tyD (.kup ds) = some "tuple" := rfl
end
theorem see_pure {M : Mem} {d : D} (h : d.pure = true) : seeD M d = d := by
  cases d <;> first | rfl | exact nomatch h
def isBoolD : D → Bool
  | .bl _ => true
  | _ => false
def isTupD : D → Bool
  | .tup _ => true
  | _ => false
def isLstD : D → Bool
  | .lst _ => true
  | _ => false
def isStrD : D → Bool
  | .str _ => true
  | _ => false
def isIntOrBoolD : D → Bool
  | .bl _ => true
  | .int _ => true
  | _ => false
theorem isi_bool {M : Mem} {d : D} (h : d.pure = true) : ((tyD (seeD M d)).bind fun t => kitB t "bool") = some (isBoolD d) := by
  rw [see_pure h]
  match d, h with
  | .non, _ => exact kNB
  | .bl _, _ => exact kBB
  | .int _, _ => exact kIB
  | .str _, _ => exact kSB
  | .tup _, _ => exact kTB
  | .lst _, _ => exact kLB
theorem isi_tup {M : Mem} {d : D} (h : d.pure = true) : ((tyD (seeD M d)).bind fun t => kitB t "tuple") = some (isTupD d) := by
  rw [see_pure h]
  match d, h with
  | .non, _ => exact kNT
  | .bl _, _ => exact kBT
  | .int _, _ => exact kIT
  | .str _, _ => exact kST
  | .tup _, _ => exact kTT
  | .lst _, _ => exact kLT
theorem isi_lst {M : Mem} {d : D} (h : d.pure = true) : ((tyD (seeD M d)).bind fun t => kitB t "list") = some (isLstD d) := by
  rw [see_pure h]
  match d, h with
  | .non, _ => exact kNL
  | .bl _, _ => exact kBL
  | .int _, _ => exact kIL
  | .str _, _ => exact kSL
  | .tup _, _ => exact kTL
  | .lst _, _ => exact kLL
theorem isi_str {M : Mem} {d : D} (h : d.pure = true) : ((tyD (seeD M d)).bind fun t => kitB t "str") = some (isStrD d) := by
  rw [see_pure h]
  match d, h with
  | .non, _ => exact kNS
  | .bl _, _ => exact kBS
  | .int _, _ => exact kIS
  | .str _, _ => exact kSS
  | .tup _, _ => exact kTS
  | .lst _, _ => exact kLS
theorem isi_int {M : Mem} {d : D} (h : d.pure = true) : ((tyD (seeD M d)).bind fun t => kitB t "int") = some (isIntOrBoolD d) := by
  rw [see_pure h]
  match d, h with
  | .non, _ => exact kNI
  | .bl _, _ => exact kBI
  | .int _, _ => exact kII
  | .str _, _ => exact kSI
  | .tup _, _ => exact kTI
  | .lst _, _ => exact kLI
/-- len where there is one -/
theorem len_tup {M : Mem} {Q : D → Prop} {ds : List D} : oLen [.tup ds] M Q = Q (.int (ds.length : Nat)) := rfl
theorem len_lst {M : Mem} {Q : D → Prop} {ds : List D} : oLen [.lst ds] M Q = Q (.int (ds.length : Nat)) := rfl
theorem len_scr {M : Mem} {Q : D → Prop} {ns : List Int} : oLen [.scr ns] M Q = Q (.int (ns.length : Nat)) := rfl
theorem len_str {M : Mem} {Q : D → Prop} {x : Str} : oLen [.str x] M Q = (x.length ≤ sizeLine ∧ Q (.int (x.length : Nat))) := rfl
theorem int_int {M : Mem} {Q : D → Prop} {i : Int} : oInt [.int i] M Q = Q (.int i) := rfl
theorem int_bl {M : Mem} {Q : D → Prop} {b : Bool} : oInt [.bl b] M Q = Q (.int (if b = true then 1 else 0)) := rfl
theorem tup_lst {M : Mem} {Q : D → Prop} {ds : List D} : oTuple [.lst ds] M Q = Q (.tup ds) := rfl
theorem tup_tup {M : Mem} {Q : D → Prop} {ds : List D} : oTuple [.tup ds] M Q = Q (.tup ds) := rfl
theorem add_ii {M : Mem} {Q : D → Prop} {i j : Int} : oAdd (.int i) (.int j) M Q = Q (.int (i + j)) := rfl
theorem add_tt {M : Mem} {Q : D → Prop} {a b : List D} : oAdd (.tup a) (.tup b) M Q = (a.length + b.length ≤ sizeLine ∧ Q (.tup (a ++ b))) := rfl
theorem add_ss {M : Mem} {Q : D → Prop} {a b : Str} : oAdd (.str a) (.str b) M Q = (a.length + b.length ≤ sizeLine ∧ Q (.str (a ++ b))) := rfl
theorem add_ll {M : Mem} {Q : D → Prop} {a b : List D} : oAdd (.lst a) (.lst b) M Q = (a.length + b.length ≤ sizeLine ∧ Q (.lst (a ++ b))) := by
  show (∃ x y, some a = some x ∧ some b = some y ∧ x.length + y.length ≤ sizeLine ∧ Q (.lst (x ++ y))) = _
  simp
theorem min_ii {M : Mem} {Q : D → Prop} {i j : Int} : oMin2 [.int i, .int j] M Q = Q (.int (if j < i then j else i)) := rfl
theorem max_ii {M : Mem} {Q : D → Prop} {i j : Int} : oMax2 [.int i, .int j] M Q = Q (.int (if j > i then j else i)) := rfl
/-! letting go of the store -/
mutual
theorem under_pure (n : Nat) : ∀ d : D, d.pure = true → d.under n = true
  | .non, _ => rfl
  | .bl _, _ => rfl
  | .int _, _ => rfl
  | .str _, _ => rfl
  | .tup ds, h => unders_pure n ds h
  | .lst ds, h => unders_pure n ds h
  | .dic _, h => nomatch h
  | .ref _, h => nomatch h
  | .adr _, _ => rfl
  | .scr _, _ => rfl
  | .kup _, h => nomatch h
theorem unders_pure (n : Nat) : ∀ ds : List D, D.pures ds = true → D.unders n ds = true
  | [], _ => rfl
  | d :: ds, h => by
    have h : (d.pure && D.pures ds) = true := h
    rw [Bool.and_eq_true] at h
    show (D.under n d && D.unders n ds) = true
    rw [under_pure n d h.1, unders_pure n ds h.2]; rfl
end
theorem gc_app (M r : Mem) : GcOk M (M ++ r) := ⟨by rw [List.length_append]; omega, fun i m hi e => .inl (by rw [List.getElem?_append_left hi] at e; exact e)⟩
theorem gc_ret {M r : Mem} {d : D} {Q : KD} (h : d.pure = true) (q : Q d M) : GcOk M (M ++ r) ∧ d.under M.length = true ∧ Q d ((M ++ r).take M.length) := by
  refine ⟨gc_app M r, under_pure _ d h, ?_⟩
  rw [List.take_left]; exact q
theorem pures_append : ∀ {a b : List D}, D.pures a = true → D.pures b = true → D.pures (a ++ b) = true
  | [], _, _, h => h
  | x :: xs, b, h, h' => by
    have h : (x.pure && D.pures xs) = true := h
    rw [Bool.and_eq_true] at h
    show (x.pure && D.pures (xs ++ b)) = true
    rw [h.1, pures_append h.2 h']; rfl
theorem pures_map {α : Type} (f : α → D) (h : ∀ a, (f a).pure = true) : ∀ xs : List α, D.pures (xs.map f) = true
  | [] => rfl
  | x :: xs => by
    show ((f x).pure && D.pures (xs.map f)) = true
    rw [h x, pures_map f h xs]; rfl
theorem pures_all : ∀ {ds : List D}, (∀ d ∈ ds, d.pure = true) → D.pures ds = true
  | [], _ => rfl
  | x :: xs, h => by
    show (x.pure && D.pures xs) = true
    rw [h x List.mem_cons_self, pures_all fun d hd => h d (List.mem_cons_of_mem _ hd)]; rfl

theorem ok_see {n : Nat} {M : Mem} {d : D} (h : d.ok n = true) : seeD M d = d := see_pure (D.ok_pure n d h).1
theorem eq_pure {neg : Bool} {x y : D} {M : Mem} {Q : D → Prop} (hx : x.ok 60 = true) (hy : y.ok 60 = true) (q : Q (.bl (if neg then !eqD x y else eqD x y))) : oEq neg x y M Q := by
  unfold oEq
  rw [ok_see hx, ok_see hy]
  exact ⟨hx, hy, q⟩
/-- the next turn of a for -/
theorem turns_cons {g : WG} {s1 : WS} {x : D} {xs : List D} {env : Envd} {M : Mem} {D : EndsD} {E : ExK} (h : g x env M (fun env1 M1 => s1 env1 M1 { D with nx := fun e' M' => sTurns g s1 xs e' M' D E, ct := fun e' M' => sTurns g s1 xs e' M' D E, bk := D.nx } E) E) : sTurns g s1 (x :: xs) env M D E := h
theorem turns_nil {g : WG} {s1 : WS} {env : Envd} {M : Mem} {D : EndsD} {E : ExK} (h : D.nx env M) : sTurns g s1 [] env M D E := h

/-! great numbers -/
theorem log2_le {i : Int} {k : Nat} (h : i.natAbs < 2 ^ (k + 1)) : i.natAbs.log2 ≤ k := by
  by_cases h0 : i.natAbs = 0
  · rw [h0]; simp
  · have := (Nat.log2_lt h0).mpr h
    omega
theorem mul_ok {i j : Int} {k m : Nat} (h : i.natAbs < 2 ^ (k + 1)) (h' : j.natAbs < 2 ^ (m + 1)) (hk : k + m < 1000000) : CMulW i j := by
  have a := log2_le h
  have b := log2_le h'
  unfold CMulW
  omega
/-- a number of at most about 200 bits -/
def Sm (i : Int) : Prop := i.natAbs < 2 ^ 200
theorem Sm.of {i : Int} (h1 : -1000000000000000000000000000000000000000000000000 ≤ i) (h2 : i ≤ 1000000000000000000000000000000000000000000000000) : Sm i := by
  unfold Sm
  have : (2 : Nat) ^ 200 = 1606938044258990275541962092341162602522202993782792835301376 := by decide
  rw [this]; omega
theorem mul_sm {i j : Int} (h : Sm i) (h' : Sm j) : CMulW i j := mul_ok (k := 199) (m := 199) h h' (by decide)
theorem div_sm {i j : Int} (h0 : 0 < j) (h : Sm j) : CDivW i j := ⟨h0, Nat.lt_of_le_of_lt (log2_le (k := 199) h) (by decide)⟩
end L3
set_option maxRecDepth 100000
set_option maxHeartbeats 4000000
/-! L3T: the end of a law without lambdas. -/
namespace L3
open PySem PySem.Spec PyProof.Rows L2 HotX L2H LamX
theorem lawAt_plain {l : PySem.W.OpenLaw} {w : World} {K : PySem.W.Frag} {mg : Str → Option Value} {h : Heap} {fa f : Addr} {st : Stmt} {k n : Nat} {oc : Value} {od an : Option Addr} {osl : Array (Option Value)} {kV doc pm cdv cv : Value} {ct : CtD}
    (KX : K.In h) (G : h.Ns mainGlobals mg) (hmg : mg "law" = some (.ref fa)) (a : PySem.W.nsIn K mainGlobals "law" = some (some (.ref f)))
    (lk : K.lookup f = some ⟨oc, od, .func (PySem.W.fnOf "law" "law" (defArgs st) (defBody st) (defScope st) .none kV doc pm an cdv cv), osl⟩) (hc : PySem.W.codeIn K cdv "law" = true) (kp : PySem.W.keepIn K (.ref f) = true)
    (b : ∀ (kV doc pm : Value) (an : Option Addr) (cdv ct : Value) (us : List Value), us.length = 1 → bindArgs (PySem.W.fnOf "law" "law" (defArgs st) (defBody st) (defScope st) .none kV doc pm an cdv ct) ⟨us, []⟩ = pure ((["_law_script"] : List Str).zip us))
    (hF : ∀ (base : Heap) (fd : FuncData), Fun K "law" "law" st f fd → FnOk l.prog w K mg base (L2N.CX l.prog w) k f fd ["_law_script"] (spD K mg [] 1 ct))
    (q : ∀ ns : List Int, ns.length ≤ n → (∀ z ∈ ns, Builtin.Int.intBits z ≤ 1048576) → ct [.scr ns] [] (fun d _ => d = .bl true) noE) : LawAtS l w K (L2N.CX l.prog w) k n "_law_script" mg fa h := by
  have e := hmg.symm.trans (PySem.W.mg_of KX G a)
  cases e
  refine ⟨_, [], spD K mg [] 1 ct, fun p hp => ?_, fun p hp => ?_, fun p hp => ?_, fun s u => ?_, fun H a ns hl hb hT hS => law_script (fun p hp => ?_) hS (q ns hl hb), fun base hK hn hTB => hF base _ (fun_mk lk hc kp)⟩
  · exact absurd hp (by simp)
  · exact absurd hp (by simp)
  · exact absurd hp (by simp)
  · exact .of_eq (b _ _ _ _ _ _ [u] rfl)
  · exact absurd hp (by simp)
end L3
set_option maxRecDepth 100000
set_option maxHeartbeats 4000000
/-! L3U: dicts whose keys are tuples. -/
namespace L3
open PySem PySem.Spec PyProof.Rows L2
/-! ### over data -/
def dgetD (kvs : List (List Key × D)) (k : List Key) : Option D := (kvs.find? fun kv => decide (kv.1 = k)).map (·.2)
def dputD (kvs : List (List Key × D)) (k : List Key) (v : D) : List (List Key × D) :=
  if (kvs.any fun kv => decide (kv.1 = k)) = true then kvs.map (fun kv => if kv.1 = k then (kv.1, v) else kv) else kvs ++ [(k, v)]
def dmerge (kvs more : List (List Key × D)) : List (List Key × D) := more.foldl (fun acc kv => dputD acc kv.1 kv.2) kvs
def keyE : D → Option Key
  | .int i => some (.inl i)
  | .str x => some (.inr x)
  | _ => none
def keysE : List D → Option (List Key)
  | [] => some []
  | d :: ds => match keyE d, keysE ds with
    | some k, some ks => some (k :: ks)
    | _, _ => none
def keyD : D → Option (List Key)
  | .tup ds => keysE ds
  | _ => none
def viewT (M : Mem) : D → Option (List (List Key × D))
  | .dic kvs => some kvs
  | .ref i => match M[i]? with
    | some (.dic kvs) => some kvs
    | _ => none
  | _ => none
section
variable {K : PySem.W.Frag} {W : Wd}
theorem keysE_rep : ∀ {ds : List D} {vs : List V} {ks : List Key}, Reps K W vs ds → keysE ds = some ks → vs = ks.map kV
  | [], _, _, r, h => by cases r; cases h; rfl
  | d :: ds, _, ks, r, h => by
    cases r with
    | cons q r =>
      cases d with
      | int i =>
        have h : (match keysE ds with | some ks => some (Sum.inl i :: ks) | none => none) = some ks := by rw [← h]; show _ = (match some (Sum.inl i), keysE ds with | some k, some ks => some (k :: ks) | _, _ => none); cases keysE ds <;> rfl
        cases e : keysE ds with
        | none => rw [e] at h; cases h
        | some ks' =>
          rw [e] at h
          cases h
          cases q
          rw [keysE_rep r e]; rfl
      | str x =>
        have h : (match keysE ds with | some ks => some (Sum.inr x :: ks) | none => none) = some ks := by rw [← h]; show _ = (match some (Sum.inr x), keysE ds with | some k, some ks => some (k :: ks) | _, _ => none); cases keysE ds <;> rfl
        cases e : keysE ds with
        | none => rw [e] at h; cases h
        | some ks' =>
          rw [e] at h
          cases h
          cases q
          rw [keysE_rep r e]; rfl
      | _ => cases h
theorem key_at {H : Hp} {v : V} {d : D} {k : List Key} (f : ∀ a o, W.fz a = some o → H a = some o) (r : Rep K W v d) (h : keyD d = some k) : ∃ b, v = .ref b ∧ H b = some (.tup (k.map kV)) := by
  cases d <;> first | cases h | skip
  cases r with
  | tup e r => exact ⟨_, rfl, by rw [f _ _ e, keysE_rep r h]⟩
theorem RepK.get {k : List Key} : ∀ {kvs : List (List Key × D)} {ys : List (List Key × V)}, RepK K W ys kvs → (∀ d, dgetD kvs k = some d → ∃ v, valV ys k = some v ∧ Rep K W v d) ∧ (dgetD kvs k = none → valV ys k = none)
  | [], _, r => by cases r; exact ⟨fun d h => (by cases h), fun _ => rfl⟩
  | (k', d') :: kvs, _, r => by
    cases r with
    | cons q r =>
      obtain ⟨h1, h2⟩ := RepK.get (k := k) r
      by_cases e : k' = k
      · subst e
        have e1 : dgetD ((k', d') :: kvs) k' = some d' := by unfold dgetD; rw [List.find?_cons_of_pos (by simp)]; rfl
        rw [e1, valV_pos rfl]
        exact ⟨fun d h => by cases h; exact ⟨_, rfl, q⟩, fun h => by cases h⟩
      · have e1 : dgetD ((k', d') :: kvs) k = dgetD kvs k := by unfold dgetD; rw [List.find?_cons_of_neg (by simpa using e)]
        rw [e1, valV_neg e]
        exact ⟨h1, h2⟩
theorem RepK.any {k : List Key} : ∀ {kvs : List (List Key × D)} {ys : List (List Key × V)}, RepK K W ys kvs → (ys.any fun kv => decide (kv.1 = k)) = kvs.any fun kv => decide (kv.1 = k)
  | [], _, r => by cases r; rfl
  | (k', d') :: kvs, _, r => by
    cases r with
    | cons q r => rw [List.any_cons, List.any_cons, RepK.any r]
theorem RepK.map {k : List Key} {v : V} {d : D} (rv : Rep K W v d) : ∀ {kvs : List (List Key × D)} {ys : List (List Key × V)}, RepK K W ys kvs → RepK K W (ys.map fun kv => if kv.1 = k then (kv.1, v) else kv) (kvs.map fun kv => if kv.1 = k then (kv.1, d) else kv)
  | [], _, r => by cases r; exact .nil
  | (k', d') :: kvs, _, r => by
    cases r with
    | cons q r =>
      rw [List.map_cons, List.map_cons]
      dsimp only
      split
      · exact .cons rv (RepK.map rv r)
      · exact .cons q (RepK.map rv r)
theorem RepK.snoc {k : List Key} {v : V} {d : D} (rv : Rep K W v d) : ∀ {kvs : List (List Key × D)} {ys : List (List Key × V)}, RepK K W ys kvs → RepK K W (ys ++ [(k, v)]) (kvs ++ [(k, d)])
  | [], _, r => by cases r; exact .cons rv .nil
  | (k', d') :: kvs, _, r => by
    cases r with
    | cons q r => exact .cons q (RepK.snoc rv r)
theorem RepK.put {k : List Key} {v : V} {d : D} {kvs : List (List Key × D)} {ys : List (List Key × V)} (rv : Rep K W v d) (r : RepK K W ys kvs) : RepK K W (putK ys k v) (dputD kvs k d) := by
  unfold putK dputD
  rw [r.any]
  split
  · exact RepK.map rv r
  · exact RepK.snoc rv r
end
theorem viewT_at {B : Bs} {K : PySem.W.Frag} {env : Envd} {σ : L2.St} {W : Wd} {H : Hp} {M : Mem} {v : V} {d : D} {kvs : List (List Key × D)} (R : Rl B K env σ W H M) (r : Rep K W v d) (h : viewT M d = some kvs) : ∃ a ys, v = .ref a ∧ Rd H a (.dT ys) ∧ RepK K W ys kvs := by
  unfold viewT at h
  split at h
  · cases h
    cases r with
    | dic h r => exact ⟨_, _, rfl, .inr ⟨_, R.fit.fz _ _ h⟩, r⟩
  · rename_i i
    split at h
    · rename_i es em
      cases h
      cases r with
      | ref hi =>
        obtain ⟨_, xs, e, r⟩ := R.fit.obj i _ _ hi em
        exact ⟨_, xs, rfl, .inl e, r⟩
    · cases h
  · cases h
theorem dget_t {H : Hp} {a b : Addr} {kvs : List (List Key × V)} {k : List Key} (e : Rd H a (.dT kvs)) (eb : H b = some (.tup (k.map kV))) : DGet H a (.ref b) (valV kvs k) := .inr ⟨kvs, k, b, e, rfl, eb, rfl⟩
section
variable {X : Cx} {B : Bs} {a b c : Expr} {wd wk wv w : WE} {pos pos' : Pos}
/-- {} -/
def wDNew : WE := fun _ M Q _ => Q (.ref M.length) (M ++ [.dic []])
theorem de_dnew : DE X B (.Dict [] [] pos) wDNew := fun E tk => pe_dnewT.imp fun σ H Q h => by
  obtain ⟨env, W, M, Q', R, q, k⟩ := h
  intro p hp
  obtain ⟨R', s', hz, hr⟩ := R.bare (o := .dT []) hp rfl
  obtain ⟨R2, s2⟩ := Rl.adoptR (m := .dic []) R R' s' (fre_none hp) upd_same rfl hr ⟨hz, [], upd_same, .nil⟩
  refine k _ _ _ _ _ R2 s2 (.ref ?_) q
  show (W.ro ++ [p])[M.length]? = some p
  rw [← R.fit.len, List.getElem?_append_right (Nat.le_refl _)]
  simp
/-- d[k] -/
def wDGet (wd wk : WE) : WE := fun env M Q E => wd env M (fun x M1 => wk env M1 (fun y M2 => match viewT M2 x, keyD y with
  | some kvs, some k => match dgetD kvs k with
    | some d => Q d M2
    | none => False
  | _, _ => False) E) E
theorem de_dget (hu : X.A.units + 1 < cLine) (hd : DE X B a wd) (hk : DE X B b wk) (hs : NoSl b := by intro _ _; rfl) : DE X B (.Subscript a b pos) (wDGet wd wk) := fun E tk => (pe_dget hu (hd E tk) (hk E tk) hs).imp fun σ H Q h => by
  obtain ⟨env, W, M, Q', R, q, k⟩ := h
  refine ⟨env, W, M, _, R, q, fun v H1 W1 d M1 R1 s1 r1 q1 => ⟨env, W1, M1, _, R1, q1, fun v2 H2 W2 d2 M2 R2 s2 r2 q2 => ?_⟩⟩
  split at q2
  · rename_i kvs ky e1 e2
    split at q2
    · rename_i dd ed
      obtain ⟨p, ys, rfl, hp, rr⟩ := viewT_at R2 (Rep.mono s2.le _ _ r1) e1
      obtain ⟨bb, rfl, hb⟩ := key_at R2.fit.fz r2 e2
      obtain ⟨vv, ev, rv⟩ := (RepK.get (k := ky) rr).1 _ ed
      exact ⟨p, vv, rfl, by rw [← ev]; exact dget_t hp hb, k _ _ _ _ _ R2 (s1.trans s2) rv q2⟩
    · exact q2.elim
  · exact q2.elim
/-- k in d -/
def wDIn (neg : Bool) (wk wd : WE) : WE := fun env M Q E => wk env M (fun y M1 => wd env M1 (fun x M2 => match viewT M2 x, keyD y with
  | some kvs, some k => Q (.bl (if neg then !(dgetD kvs k).isSome else (dgetD kvs k).isSome)) M2
  | _, _ => False) E) E
theorem din_at {env : Envd} {σ : L2.St} {W : Wd} {H : Hp} {M : Mem} {x y : V} {dx dy : D} {kvs : List (List Key × D)} {k : List Key} (R : Rl B X.K env σ W H M) (rx : Rep X.K W x dx) (ry : Rep X.K W y dy) (e1 : viewT M dx = some kvs) (e2 : keyD dy = some k) : ∃ a o, x = .ref a ∧ DGet H a y o ∧ o.isSome = (dgetD kvs k).isSome := by
  obtain ⟨p, ys, rfl, hp, rr⟩ := viewT_at R rx e1
  obtain ⟨bb, rfl, hb⟩ := key_at R.fit.fz ry e2
  refine ⟨p, valV ys k, rfl, dget_t hp hb, ?_⟩
  obtain ⟨h1, h2⟩ := RepK.get (k := k) rr
  cases e : dgetD kvs k with
  | none => rw [h2 e]; rfl
  | some d =>
    obtain ⟨v, ev, _⟩ := h1 d e
    rw [ev]
    rfl
theorem de_din (hu : X.A.units + 1 < cLine) (hk : DE X B a wk) (hd : DE X B b wd) (hm : behindInMarks .In b = false := by rfl) : DE X B (.Compare a [.In] [b] pos) (wDIn false wk wd) := fun E tk => (pe_cmp (pc_din hu (hk E tk) (hd E tk)) hm).imp fun σ H Q h => by
  obtain ⟨env, W, M, Q', R, q, k⟩ := h
  refine ⟨env, W, M, _, R, q, fun v H1 W1 d M1 R1 s1 r1 q1 => ⟨env, W1, M1, _, R1, q1, fun v2 H2 W2 d2 M2 R2 s2 r2 q2 => ?_⟩⟩
  split at q2
  · rename_i kvs ky e1 e2
    obtain ⟨p, o, ex, hg, eo⟩ := din_at R2 r2 (Rep.mono s2.le _ _ r1) e1 e2
    exact ⟨p, o, ex, hg, k _ _ _ _ _ R2 (s1.trans s2) (.bl _) (by rw [eo]; exact q2)⟩
  · exact q2.elim
theorem de_dnin (hu : X.A.units + 1 < cLine) (hk : DE X B a wk) (hd : DE X B b wd) (hm : behindInMarks .NotIn b = false := by rfl) : DE X B (.Compare a [.NotIn] [b] pos) (wDIn true wk wd) := fun E tk => (pe_cmp (pc_dnotin hu (hk E tk) (hd E tk)) hm).imp fun σ H Q h => by
  obtain ⟨env, W, M, Q', R, q, k⟩ := h
  refine ⟨env, W, M, _, R, q, fun v H1 W1 d M1 R1 s1 r1 q1 => ⟨env, W1, M1, _, R1, q1, fun v2 H2 W2 d2 M2 R2 s2 r2 q2 => ?_⟩⟩
  split at q2
  · rename_i kvs ky e1 e2
    obtain ⟨p, o, ex, hg, eo⟩ := din_at R2 r2 (Rep.mono s2.le _ _ r1) e1 e2
    exact ⟨p, o, ex, hg, k _ _ _ _ _ R2 (s1.trans s2) (.bl _) (by rw [eo]; exact q2)⟩
  · exact q2.elim
theorem dt_din (hu : X.A.units + 1 < cLine) (hk : DE X B a wk) (hd : DE X B b wd) (hm : behindInMarks .In b = false := by rfl) : DT X B (.Compare a [.In] [b] pos) (wTst (wDIn false wk wd)) := fun E tk => (pt_cmp (pc_din hu (hk E tk) (hd E tk)) hm).imp fun σ H Q h => by
  obtain ⟨env, W, M, Q', R, q, k⟩ := h
  refine ⟨env, W, M, _, R, q, fun v H1 W1 d M1 R1 s1 r1 q1 => ⟨env, W1, M1, _, R1, q1, fun v2 H2 W2 d2 M2 R2 s2 r2 q2 => ?_⟩⟩
  split at q2
  · rename_i kvs ky e1 e2
    obtain ⟨p, o, ex, hg, eo⟩ := din_at R2 r2 (Rep.mono s2.le _ _ r1) e1 e2
    refine ⟨p, o, ex, hg, _, rfl, k _ _ _ _ R2 (s1.trans s2) ?_⟩
    rw [eo]
    exact q2
  · exact q2.elim
theorem dt_dnin (hu : X.A.units + 1 < cLine) (hk : DE X B a wk) (hd : DE X B b wd) (hm : behindInMarks .NotIn b = false := by rfl) : DT X B (.Compare a [.NotIn] [b] pos) (wTst (wDIn true wk wd)) := fun E tk => (pt_cmp (pc_dnotin hu (hk E tk) (hd E tk)) hm).imp fun σ H Q h => by
  obtain ⟨env, W, M, Q', R, q, k⟩ := h
  refine ⟨env, W, M, _, R, q, fun v H1 W1 d M1 R1 s1 r1 q1 => ⟨env, W1, M1, _, R1, q1, fun v2 H2 W2 d2 M2 R2 s2 r2 q2 => ?_⟩⟩
  split at q2
  · rename_i kvs ky e1 e2
    obtain ⟨p, o, ex, hg, eo⟩ := din_at R2 r2 (Rep.mono s2.le _ _ r1) e1 e2
    refine ⟨p, o, ex, hg, _, rfl, k _ _ _ _ R2 (s1.trans s2) ?_⟩
    rw [eo]
    exact q2
  · exact q2.elim
/-- d[k] = v, d of the store -/
def sDPut (wd wk wv : WE) : WS := fun env M D E => wv env M (fun v M1 => wd env M1 (fun x M2 => wk env M2 (fun y M3 => match x, keyD y with
  | .ref r, some k => match M3[r]? with
    | some (.dic kvs) => kvs.length < sizeLine ∧ D.nx env (M3.set r (.dic (dputD kvs k v)))
    | _ => False
  | _, _ => False) E) E) E
theorem ds_dput (hu : X.A.units + 1 < cLine) (hd : DE X B a wd) (hk : DE X B b wk) (hv : DE X B c wv) (hs : swapsWith c (some (.Subscript a b pos')) pos.line X.env = pure false := by rfl) : DS X B (.Assign [.Subscript a b pos'] c pos) (sDPut wd wk wv) := fun E tk =>
  (ps_dput hu (hd E tk) (hk E tk) (hv E tk) hs).imp fun D σ H h => by
    obtain ⟨env, W, M, D', R, q, k1, k2, k3, k4⟩ := h
    refine ⟨env, W, M, _, R, q, fun v H1 W1 d M1 R1 s1 r1 q1 => ⟨env, W1, M1, _, R1, q1, fun v2 H2 W2 d2 M2 R2 s2 r2 q2 => ⟨env, W2, M2, _, R2, q2, fun v3 H3 W3 d3 M3 R3 s3 r3 q3 => ?_⟩⟩⟩
    split at q3
    · rename_i r ky e2
      split at q3
      · rename_i kvs em
        cases Rep.mono s3.le _ _ r2 with
        | ref hi =>
          obtain ⟨hz, ys, e1, rr⟩ := R3.fit.obj r _ _ hi em
          obtain ⟨bb, rfl, hb⟩ := key_at R3.fit.fz r3 e2
          have s23 := s2.trans s3
          have rput := RepK.put (k := ky) (Rep.mono s23.le _ _ r1) rr
          obtain ⟨R4, s4⟩ := R3.write (m := .dic (dputD kvs ky d)) (o := .dT (putK ys ky v)) hi hz rfl ⟨hz, _, upd_same, rput⟩
          exact ⟨_, _, rfl, DPut.t e1 hb (by rw [rr.length]; exact q3.1), k1 _ _ _ _ _ R4 ((s1.trans s23).trans s4) q3.2⟩
      · exact q3.elim
    · exact q3.elim
/-- a dict of the store becomes a value -/
def wFrzT (w : WE) : WE := fun env M Q E => w env M (fun d M1 => match d with
  | .ref i => match M1[i]? with
    | some (.dic kvs) => Q (.dic kvs) (M1.set i .gone)
    | _ => False
  | _ => False) E
theorem _root_.L2.pe_hold {e : Expr} {t : TE} (h : PE X e t) : PE X e (fun σ H Q => t σ H fun v H1 => ∃ d u, v = .ref d ∧ H1 d = some u ∧ Mut (some u) ∧ ∀ od, Q v (upd H1 d (.frz od u))) := by
  refine ⟨fun pins s σ H Q I hw => ?_⟩
  refine thn (h.run pins s σ _ _ I hw) fun v s1 ⟨x, H1, I1, r, d, u, ex, hd, mu, q⟩ => ?_
  obtain ⟨od, I2⟩ := I1.lock hd mu
  exact ⟨x, _, I2, r, q od⟩
/-- a dict of the store is locked -/
theorem Rl.lockT {B : Bs} {K : PySem.W.Frag} {env : Envd} {σ : L2.St} {W : Wd} {H : Hp} {M : Mem} {i : Nat} {p : Addr} {od : Obj} {ys : List (List Key × V)} (R : Rl B K env σ W H M) (hi : W.ro[i]? = some p) (hz : W.fz p = none) (e : H p = some (.dT ys)) :
    Rl B K env σ (W.add p (.frz od (.dT ys))) (upd H p (.frz od (.dT ys))) (M.set i .gone) ∧ Since B.tb W H (W.add p (.frz od (.dT ys))) (upd H p (.frz od (.dT ys))) := by
  obtain ⟨R1, s1⟩ := R.write (m := .gone) (o := .frz od (.dT ys)) hi hz rfl trivial
  obtain ⟨R2, s2⟩ := R1.freeze hi hz upd_same
  rw [List.set_set] at R2
  exact ⟨R2, s1.trans s2⟩
theorem de_frzT (h : DE X B a w) : DE X B a (wFrzT w) := fun E tk => (pe_hold (h E tk)).imp fun σ H Q h => by
  obtain ⟨env, W, M, Q', R, q, k⟩ := h
  refine ⟨env, W, M, _, R, q, fun v H1 W1 d M1 R1 s1 r1 q1 => ?_⟩
  cases d <;> first | exact q1.elim | skip
  rename_i i
  dsimp only at q1
  split at q1
  · rename_i ds em
    cases r1 with
    | ref hi =>
      obtain ⟨hz, xs, e1, rr⟩ := R1.fit.obj i _ _ hi em
      refine ⟨_, _, rfl, e1, trivial, fun od => ?_⟩
      obtain ⟨R2, s2⟩ := R1.lockT (od := od) hi hz e1
      exact k _ _ _ _ _ R2 (s1.trans s2) (.dic upd_same (RepK.mono s2.le _ _ rr)) q1
  · exact q1.elim
/-! ### dict(a list of pairs) -/
/-- pairs with tuples as keys -/
def pairsE : List D → Option (List (List Key × D))
  | [] => some []
  | .tup [k, v] :: ds => match keyD k, pairsE ds with
    | some k, some r => some ((k, v) :: r)
    | _, _ => none
  | _ :: _ => none
def mergeT (kvs more : List (List Key × V)) : List (List Key × V) := more.foldl (fun acc kv => putK acc kv.1 kv.2) kvs
theorem length_mergeT : ∀ (more kvs : List (List Key × V)), (mergeT kvs more).length ≤ kvs.length + more.length
  | [], kvs => by simp [mergeT]
  | p :: more, kvs => by
    have h := length_mergeT more (putK kvs p.1 p.2)
    have h2 := length_putK kvs p.1 p.2
    show (mergeT (putK kvs p.1 p.2) more).length ≤ _
    rw [List.length_cons]
    omega
theorem KT.mergeAll {H : Hp} {more : List (List Key × V)} {rs : List (List Key × Addr × Value)} (h : KT H more rs) : ∀ {xs : List (List Key × Addr × Value)} {kvs : List (List Key × V)}, KT H kvs xs → KT H (mergeT kvs more) (storedAllH xs rs) := by
  induction h with
  | nil => exact fun r => r
  | cons h t ih =>
    intro xs kvs r
    obtain ⟨h1, h2, h3⟩ := h
    have r' := KT.put r _ h2 h3
    have := ih r'
    rw [h1] at this
    unfold mergeT at this ⊢
    rw [List.foldl_cons]
    exact (by rw [h1]; exact this)
theorem RepK.mergeAll {K : PySem.W.Frag} {W : Wd} : ∀ (more : List (List Key × D)) (rs xs : List (List Key × V)) (kvs : List (List Key × D)), RepK K W rs more → RepK K W xs kvs → RepK K W (mergeT xs rs) (dmerge kvs more)
  | [], _, _, _, h, r => by cases h; exact r
  | (k, d) :: more, _, _, _, h, r => by
    cases h with
    | cons q h => exact RepK.mergeAll more _ (putK _ k _) (dputD _ k d) h (r.put q)
theorem tpairs_of {X : Cx} {pins : List (Addr × Obj)} {σ : L2.St} {H : Hp} {s : Shared} (I : Inv X pins σ H s) : ∀ {ps : List Addr} {kvs : List (List Key × V)}, Paired (fun p kv => ∃ b, SqT X.K H p [.ref b, kv.2] ∧ H b = some (.tup (kv.1.map kV))) ps kvs →
    ∃ prs : List (List Key × Addr × Value), KT H kvs prs ∧ prs.length = ps.length ∧ ∀ (j : Nat) (q : List Key × Addr × Value), prs[j]? = some q → ∃ b : Addr, ps[j]? = some b ∧ IsTup s.heap b #[.ref q.2.1, q.2.2] ∧ H q.2.1 = some (.tup (q.1.map kV))
  | _, _, .nil => ⟨[], .nil, rfl, fun j q e => by simp at e⟩
  | _, _, .cons (a := p) (b := kv) h t => by
    obtain ⟨prs, r, hl, hp⟩ := tpairs_of I t
    obtain ⟨b, h, hb⟩ := h
    obtain ⟨its, rv, ht, _⟩ := I.tuple h
    obtain ⟨u, y, ei, ru, ry⟩ := vals2 rv
    subst ei
    obtain rfl : u = Value.ref b := ru
    refine ⟨(kv.1, b, y) :: prs, .cons ⟨rfl, hb, ry⟩ r, by rw [List.length_cons, List.length_cons, hl], fun j q e => ?_⟩
    cases j with
    | zero =>
      have e' : (kv.1, b, y) = q := Option.some.inj e
      subst e'
      exact ⟨p, rfl, ht, hb⟩
    | succ j =>
      obtain ⟨b', e1, e2, e3⟩ := hp j q (by simpa using e)
      exact ⟨b', by simpa using e1, e2, e3⟩
/-- dict(xs) of a list of pairs whose keys are tuples -/
theorem call_dictT {X : Cx} (hcalm : X.calm = true) (hu : X.A.units + 4 < cLine) : CallR X (.type "dict") (fun xs H Q => ∃ (a : Addr) (ps : List Addr) (kvs : List (List Key × V)), xs = [.ref a] ∧ SqL X.K H a (ps.map V.ref) ∧ Paired (fun p kv => ∃ b, SqT X.K H p [.ref b, kv.2] ∧ H b = some (.tup (kv.1.map kV))) ps kvs ∧
    ∀ p, H p = none → Q (.ref p) (upd H p (.dT (mergeT [] kvs)))) := by
  intro pins s σ H xs us Q I r q
  obtain ⟨a, ps, kvs, ex, hq, hp, q⟩ := q
  subst ex
  obtain ⟨u, eu, rx⟩ := vals1 r
  subst eu
  cases rx
  obtain ⟨its, rv, pl, hz⟩ := I.list hq
  have ei := refs_at rv
  subst ei
  rw [List.length_map] at hz
  obtain ⟨prs, rel, hl, hpr⟩ := tpairs_of I hp
  obtain ⟨o, n, ho, hc, hd, hdat⟩ := pl
  have keyAt : ∀ {h' : Heap}, (∀ b o, s.heap.get? b = some o → h'.get? b = some o) → ∀ x ∈ prs, (tupleKind (mixKind X.prog X.w)).is h' x.1 x.2.1 := fun {h'} hk x hx => by
    obtain ⟨j, hj⟩ := List.getElem?_of_mem hx
    obtain ⟨b, _, _, e3⟩ := hpr j x hj
    obtain ⟨o, items, n, ho, hc, hd, hi⟩ := key_of I.hok e3
    exact ⟨o, items, n, hk _ _ ho, hc, hd, hi⟩
  have lens : prs.length = ps.length := hl
  refine call_dict_pairsH (knd := tupleKind (mixKind X.prog X.w)) (ps := prs) (PairArg.list a (ps.map Value.ref).toArray (fun j => ps.getD j 0) (prs.map fun x => (Value.ref x.2.1, x.2.2))) (I.ok.hd hcalm) (by show X.A.in1.in1.units < cLine; have := hu; show X.A.units + 1 + 1 < cLine; omega) ⟨⟨o, n, ho, hc, hd, hdat⟩, ?_, fun j k v e => ?_⟩ ⟨?_, fun j k v e => ?_⟩ (fun h' hk x hx => ?_) (by rw [List.length_map, hl]; exact hz) fun h' tk hd' k => ?_
  · simp [hl]
  · have e : ∃ q, prs[j]? = some q ∧ (Value.ref q.2.1, q.2.2) = (k, v) := by
      rw [List.getElem?_map] at e
      cases hq : prs[j]? with
      | none => rw [hq] at e; cases e
      | some q => rw [hq] at e; exact ⟨q, rfl, Option.some.inj e⟩
    obtain ⟨q, e1, e2⟩ := e
    obtain ⟨b, f1, f2, f3⟩ := hpr j q e1
    cases e2
    have g : ps.getD j 0 = b := by rw [List.getD_eq_getElem?_getD, f1]; rfl
    dsimp only
    rw [g]
    refine ⟨by simp [f1], .inl ?_⟩
    obtain ⟨o2, h1, h2, c2, h3⟩ := f2
    exact ⟨o2, h1, h2, c2, h3⟩
  · simp
  · have e : ∃ q, prs[j]? = some q ∧ (Value.ref q.2.1, q.2.2) = (k, v) := by
      have e : (prs.map fun x => (Value.ref x.2.1, x.2.2))[j]? = some (k, v) := e
      rw [List.getElem?_map] at e
      cases hq : prs[j]? with
      | none => rw [hq] at e; cases e
      | some q => rw [hq] at e; exact ⟨q, rfl, Option.some.inj e⟩
    obtain ⟨q, e1, e2⟩ := e
    cases e2
    exact ⟨q.1, q.2.1, e1, rfl⟩
  · exact keyAt (fun b o e => hk b o (Nat.ne_of_lt (Heap.lt_size e)) (by simp) e) x hx
  · have hm : (s.heap.objs.size == sysModules) = false := beq_eq_false_iff_ne.mpr (Nat.ne_of_gt I.big)
    have hlen : (mergeT [] kvs).length ≤ sizeLine := by
      refine Nat.le_trans (length_mergeT kvs []) ?_
      rw [List.length_nil, Nat.zero_add, Paired.length rel, hl]
      exact hz
    obtain ⟨o', es, ep, d1, d2, d3, d4, d5, d6⟩ := hd'
    refine ⟨.ref s.heap.objs.size, upd H s.heap.objs.size (.dT (mergeT [] kvs)), I.laid (t' := tk) (fun b o e => k b o (by simp) e) (Nat.le_refl _) (show ObjOk X.prog X.w _ _ _ (.dT (mergeT [] kvs)) from ⟨hlen, hm, storedAllH [] prs, ?_, o', es, ep, d1, d2, d3, d4, d6⟩), rfl, q _ (I.hok.fresh (Nat.le_refl _))⟩
    refine KT.keeps (KT.mergeAll rel .nil) fun b ys e => ?_
    rw [upd_ne (fun z => ?_)]
    · exact e
    · have := I.hok.fresh (Nat.le_refl s.heap.objs.size)
      rw [← z, e] at this
      cases this
theorem pairs_split {K : PySem.W.Frag} {W : Wd} {H : Hp} (f : ∀ a o, W.fz a = some o → H a = some o) : ∀ {ds : List D} {vs : List V} {prs : List (List Key × D)}, Reps K W vs ds → pairsE ds = some prs →
    ∃ (ps : List Addr) (kvs : List (List Key × V)), vs = ps.map V.ref ∧ Paired (fun p kv => ∃ b, SqT K H p [.ref b, kv.2] ∧ H b = some (.tup (kv.1.map kV))) ps kvs ∧ RepK K W kvs prs
  | [], _, _, r, h => by
    cases r
    cases h
    exact ⟨[], [], rfl, .nil, .nil⟩
  | d :: ds, _, prs, r, h => by
    cases r with
    | cons q r =>
      unfold pairsE at h
      split at h
      · rename_i e; cases e
      · rename_i k v ds' ed
        cases ed
        split at h
        · rename_i kk rr e1 e2
          cases h
          cases q with
          | tup hp rq =>
            cases rq with
            | cons r1 rq =>
              cases rq with
              | cons r2 rq =>
                cases rq
                obtain ⟨b, rfl, hb⟩ := key_at f r1 e1
                obtain ⟨ps, kvs, rfl, h2, h3⟩ := pairs_split f r e2
                exact ⟨_ :: ps, (kk, _) :: kvs, rfl, .cons ⟨b, SqT.of (f _ _ hp), hb⟩ h2, .cons r2 h3⟩
        · cases h
      · cases h
/-- dict(xs) -/
def wDictT (z : WA) : WE := fun env M Q E => z env M (fun ds M1 => match ds with
  | [d] => match viewL M1 d with
    | some xs => match pairsE xs with
      | some prs => Q (.dic (dmerge [] prs)) M1
      | none => False
    | none => False
  | _ => False) E
theorem de_dictT {X : Cx} {B : Bs} {a : Expr} {z : WA} {p pos : Pos} (hc : X.calm = true) (hu : X.A.units + 4 < cLine) (hg : Gl X "dict") (hm : X.mg "dict" = none) (ha : DA X B [a] z) (he : starEach [a] X.env = (false, eval a X.env) :: starEach [] X.env := by rfl) : DE X B (.Call (.Name "dict" p) [a] [] pos) (wDictT z) := fun E tk =>
  (pe_hold (pe_callTy (call_dictT hc hu) hg hm (by decide +kernel) (ha E tk) (he := he) (hpl := rfl))).imp fun σ H Q h => by
    obtain ⟨env, W, M, Q', R, q, k⟩ := h
    refine ⟨env, W, M, _, R, q, fun vs H1 W1 ds M1 R1 s1 r1 q1 => ?_⟩
    split at q1
    · rename_i d
      cases r1 with
      | cons r rr =>
        cases rr
        split at q1
        · rename_i xs e1
          split at q1
          · rename_i prs e2
            obtain ⟨a', vs', rfl, e3, r3⟩ := viewL_at R1 r e1
            obtain ⟨ps, kvs, rfl, h2, h3⟩ := pairs_split R1.fit.fz r3 e2
            refine ⟨a', ps, kvs, rfl, SqL.of e3, h2, fun p hp => ⟨p, _, rfl, upd_same, trivial, fun od => ?_⟩⟩
            rw [upd_upd]
            obtain ⟨R', s'⟩ := R1.laid (o := .frz od (.dT (mergeT [] kvs))) hp
            exact k _ _ _ _ _ R' (s1.trans s') (.dic upd_same (RepK.mono s'.le _ _ (RepK.mergeAll prs kvs [] [] h3 .nil))) q1
          · exact q1.elim
        · exact q1.elim
    · exact q1.elim
/-! ### walks over a dict -/
/-- a tuple that stands is told of -/
theorem Rl.tell {B : Bs} {K : PySem.W.Frag} {env : Envd} {σ : L2.St} {W : Wd} {H : Hp} {M : Mem} {p : Addr} {xs : List V} (R : Rl B K env σ W H M) (h1 : H p = some (.tup xs)) : ∃ W', Rl B K env σ W' H M ∧ Since B.tb W H W' H ∧ W'.fz p = some (.tup xs) := by
  cases q : W.fz p with
  | some o =>
    have := R.fit.fz _ _ q
    rw [h1] at this
    cases this
    exact ⟨W, R, .refl, q⟩
  | none =>
    have hr : p ∉ W.ro := fun m => by
      obtain ⟨o, e, ho⟩ := R.fit.here p m
      rw [h1] at e; cases e; cases ho
    have f : Fits K (W.add p (.tup xs)) H M := {
      nt := fun b u q => by
        by_cases e : b = p
        · subst e; rw [show (W.add b (.tup xs)).fz b = some (.tup xs) from upd_same] at q; cases q; rfl
        · rw [show (W.add p (.tup xs)).fz b = W.fz b from upd_ne e] at q; exact R.fit.nt b u q
      fz := fun b u q => by
        by_cases e : b = p
        · subst e; rw [show (W.add b (.tup xs)).fz b = some (.tup xs) from upd_same] at q; cases q; exact h1
        · rw [show (W.add p (.tup xs)).fz b = W.fz b from upd_ne e] at q; exact R.fit.fz b u q
      len := R.fit.len
      nd := R.fit.nd
      obj := fun i b m q q2 => by
        have hb : b ≠ p := fun z => hr (z ▸ List.mem_of_getElem? q)
        exact (R.fit.obj i b m q q2).stay (.add ‹_›) (fun z => by show upd W.fz p (.tup xs) b = none; rw [upd_ne hb]; exact z) fun u e => e
      here := R.fit.here }
    have s2 : Since B.tb W H (W.add p (.tup xs)) H := ⟨.add ‹_›, fun _ _ h _ _ => h, fun b u q => by
      by_cases e : b = p
      · subst e
        rw [show (W.add b (.tup xs)).fz b = some (.tup xs) from upd_same] at q
        cases q
        exact .inr (.inr (.inr ⟨xs, rfl, h1⟩))
      · rw [show (W.add p (.tup xs)).fz b = W.fz b from upd_ne e] at q; exact .inl q, fun _ m => .inl m, fun _ o h n => ⟨o, h, n⟩⟩
    exact ⟨_, R.step f s2 R.tabs, s2, upd_same⟩
def keyAs : Key → D
  | .inl i => .int i
  | .inr x => .str x
theorem reps_keys {K : PySem.W.Frag} {W : Wd} : ∀ k : List Key, Reps K W (k.map kV) (k.map keyAs)
  | [] => .nil
  | .inl i :: k => .cons (.int i) (reps_keys k)
  | .inr x :: k => .cons (.str x) (reps_keys k)
def keysOf (kvs : List (List Key × D)) : List D := kvs.map fun kv => .tup (kv.1.map keyAs)
theorem RepK.key {K : PySem.W.Frag} {W : Wd} : ∀ {kvs : List (List Key × D)} {ys : List (List Key × V)} {i : Nat} {k : List Key} {v : V}, RepK K W ys kvs → ys[i]? = some (k, v) → ∃ d, kvs[i]? = some (k, d)
  | [], _, i, _, _, r, h => by cases r; simp at h
  | (k', d') :: kvs, _, i, k, v, r, h => by
    cases r with
    | cons q r =>
      cases i with
      | zero => simp at h; exact ⟨d', by simp [h.1]⟩
      | succ i =>
        obtain ⟨d, e⟩ := RepK.key (i := i) r (by simpa using h)
        exact ⟨d, by simpa using e⟩
def iDic (w : WE) : WI := fun env M R E => w env M (fun d M1 => match d with
  | .dic kvs => R (keysOf kvs) M1
  | _ => False) E
theorem di_dic {X : Cx} {B : Bs} {e tg : Expr} {w : WE} (h : DE X B e w) : DI X B tg e (iDic w) := fun E tk => (pi_keys (h E tk)).imp fun σ H Q h => by
  obtain ⟨env, W, M, R', R, q, k⟩ := h
  refine ⟨env, W, M, _, R, q, fun v H1 W1 d M1 R1 s1 r1 q1 => ?_⟩
  cases d <;> first | exact q1.elim | skip
  rename_i kvs
  cases r1 with
  | dic h r =>
    rename_i p od ys
    refine ⟨p, od, rfl, .inr ⟨ys, R1.fit.fz _ _ h, k _ _ _ _ (keysOf kvs) R1 s1 (fun i env' σ' W' H' M' R'' s'' => ?_) q1⟩⟩
    have e' := R''.fit.fz _ _ (s''.le.fz _ _ h)
    have r' := RepK.mono s''.le _ _ r
    have hl : (keysOf kvs).length = ys.length := by unfold keysOf; rw [List.length_map, r.length]
    refine ⟨fun d hd => ⟨⟨e', ?_⟩, fun x H2 y => ?_⟩, fun hi => ⟨e', by omega⟩⟩
    · have := (List.getElem?_eq_some_iff.mp hd).1; omega
    · obtain ⟨rfl, ky, vv, qq, e1, rfl, e3⟩ := y
      obtain ⟨dd, e4⟩ := RepK.key r' e1
      obtain ⟨W2, R2, s2, e5⟩ := R''.tell e3
      refine ⟨W2, R2, s2, ?_⟩
      have ed : d = .tup (ky.map keyAs) := by
        unfold keysOf at hd
        rw [List.getElem?_map, e4] at hd
        exact (Option.some.inj hd).symm
      rw [ed]
      exact .tup e5 (reps_keys ky)
theorem _root_.L2.Room.u4 {k : Nat} {A : Around} (r : Room k A) : A.units + 4 < cLine := by have := r.un; omega
end
end L3
set_option maxRecDepth 100000
set_option maxHeartbeats 4000000
/-! L3V: list comprehensions of two clauses. -/
namespace L3
open PySem PySem.Spec PyProof.Rows L2
def c2Turns (g : D → Envd → Option Envd) (wi1 : WI) (vs1 : List Nat) (g1 : D → Envd → Option Envd) (w : WE) : List D → List D → Envd → Mem → (List D → Mem → Prop) → Prop
  | [], acc, _, M, Q => Q acc M
  | x :: xs, acc, env, M, Q => match g x env with
    | some env2 => wi1 env2 M (fun items1 M1 => cTurns g1 uYes w items1 acc (wipeD env2 vs1) M1 fun acc2 M2 => c2Turns g wi1 vs1 g1 w xs acc2 env M2 Q) noE
    | none => False
def fLc2 (vs : List Nat) (wi : WI) (g : D → Envd → Option Envd) (wi1 : WI) (vs1 : List Nat) (g1 : D → Envd → Option Envd) (w : WE) : WF := fun env M Q E => wi env M (fun items M1 => c2Turns g wi1 vs1 g1 w items [] (wipeD env vs) M1 Q) E
/-- what is walked, told of any moment -/
def tIDu (B : Bs) (K : PySem.W.Frag) (w : WI) (E : ExK) : TI := fun σ H R => ∃ (env : Envd) (W : Wd) (M : Mem) (R' : List D → Mem → Prop), Rl B K env σ W H M ∧ w env M R' E ∧
  ∀ J H' W' M' items, Rl B K env σ W' H' M' → Since B.tb W H W' H' → (∀ W0 H0, ItD B K J W0 H0 items) → R' items M' → R J H'
def DIu (X : Cx) (B : Bs) (tg iter : Expr) (w : WI) : Prop := ∀ E, TakesD X B E → PI X tg iter (tIDu B X.K w E)
theorem diu_range1 {X : Cx} {B : Bs} {a : Expr} {z : WA} {pos : Pos} {tg : Expr} {p : Pos} (hg : Gl X "range") (hm : X.mg "range" = none) (ha : DA X B [a] z) (hs : starEach [a] X.env = [(false, eval a X.env)] := by rfl) : DIu X B tg (.Call (.Name "range" p) [a] [] pos) (iRange1 z) := fun E tk => (pi_range1 hg hm (ha E tk) hs).imp fun σ H Q h => by
  obtain ⟨env, W, M, R', R, q, k⟩ := h
  refine ⟨env, W, M, _, R, q, fun vs H1 W1 ds M1 R1 s1 r1 q1 => ?_⟩
  split at q1
  · cases r1 with
    | cons h1 r1 =>
      cases r1
      cases h1
      exact ⟨_, rfl, q1.2.1, q1.1, k _ _ _ _ _ R1 s1 (fun _ _ => itD_range) q1.2.2⟩
  · exact q1.elim
section
variable {B : Bs}
theorem lc2_read {X : Cx} {vs vs1 : List Nat} {wi wi1 : WI} {g g1 : D → Envd → Option Envd} {t t1 : TG} {w : WE} {E : ExK} {Q : VK} {σ : L2.St} {H : Hp} (L : CLink X.K vs t g) (L1 : CLink X.K vs1 t1 g1) (h : tFD B X.K (fLc2 vs wi g wi1 vs1 g1 w) E σ H Q) :
    tLc2 (tID B X.K wi E) t (tTD B X.K uYes noE) (tIDu B X.K wi1 noE) t1 (tTD B X.K uYes noE) (tD B X.K w noE) vs vs1 σ H Q := by
  obtain ⟨env, W, M, Q', R, q, k⟩ := h
  refine ⟨env, W, M, _, R, q, fun J H1 W1 M1 items R1 s1 it q1 => fun D hD => ?_⟩
  have h0 : Fre B.tb H D := s1.frees (fre_none hD)
  have hB : Fre B.tb B.H D := R.sin.frees h0
  obtain ⟨Rb, sb, zb, nb⟩ := R1.bare (o := .lst []) hD rfl
  refine ⟨fun i m H2 => m = items.length - i ∧ i ≤ items.length ∧ ∃ W2 M2 vsa acc, Rl B X.K env σ W2 H2 M2 ∧ Since B.tb W1 H1 W2 H2 ∧ H2 D = some (.lst vsa) ∧ D ∉ W2.ro ∧ W2.fz D = none ∧ Reps X.K W2 vsa acc ∧
    c2Turns g wi1 vs1 g1 w (items.drop i) acc (wipeD env vs) M2 Q', ⟨_, rfl, Nat.zero_le _, W1, M1, [], [], Rb, sb, upd_same, nb, zb, .nil, by simpa using q1⟩, ?_⟩
  rintro i m H2 ⟨rfl, hi, W2, M2, vsa, acc, R2, s2, eD, nD, zD, ra, q2⟩
  obtain ⟨go, stop⟩ := it i env σ W2 H2 M2 R2 s2
  have stays : ∀ {vsa : List V} {Wa Wb : Wd} {Ha Hb : Hp}, Since B.tb Wa Ha Wb Hb → Ha D = some (.lst vsa) → D ∉ Wa.ro → Wa.fz D = none → Hb D = some (.lst vsa) ∧ D ∉ Wb.ro ∧ Wb.fz D = none := fun {vsa Wa Wb Ha Hb} s e n z => by
    refine ⟨s.keep D _ e n (.inr rfl), fun m => ?_, ?_⟩
    · rcases s.newr D m with m | m
      · exact n m
      · exact m _ e (.inr rfl)
    · cases q : Wb.fz D with
      | none => rfl
      | some y =>
        rcases s.newf D y q with h | h | h | ⟨xs, hy, h⟩
        · rw [z] at h; cases h
        · exact absurd (.inr rfl) (h _ e)
        · exact absurd h n
        · rw [e] at h; cases h; cases hy
  by_cases hlt : i < items.length
  · rw [List.drop_eq_getElem_cons hlt] at q2
    obtain ⟨hgo, yl⟩ := go _ (List.getElem?_eq_getElem hlt)
    refine .inr ⟨hgo, fun H' => ∃ W' M' vsa acc, Rl B X.K env σ W' H' M' ∧ Since B.tb W1 H1 W' H' ∧ H' D = some (.lst vsa) ∧ D ∉ W'.ro ∧ W'.fz D = none ∧ Reps X.K W' vsa acc ∧
      c2Turns g wi1 vs1 g1 w (items.drop (i + 1)) acc (wipeD env vs) M' Q', fun H' h' => ⟨_, by omega, rfl, hlt, h'⟩, fun x H3 hy => ?_⟩
    obtain ⟨W3, R3, s3, r3⟩ := yl x H3 hy
    unfold c2Turns at q2
    split at q2
    · rename_i env2 eg
      have Rw : Rl B X.K (wipeD env vs) (L2.wipe σ vs) W3 H3 M2 := ⟨R3.fit, R3.env.wipe vs, R3.sin, R3.tabs⟩
      refine L.go B _ _ W3 H3 M2 x _ env2 _ Rw r3 eg fun σ2 Rg hw => ⟨by rw [hw, wipe_wipe], ?_⟩
      obtain ⟨e3, n3, z3⟩ := stays s3 eD nD zD
      refine ⟨env2, W3, M2, (fun b M' => b = true ∧ M' = M2), Rg, ⟨rfl, rfl⟩, fun b H4 W4 M4 R4 s4 q4 => ?_⟩
      obtain ⟨rfl, rfl⟩ := q4
      obtain ⟨e4, n4, z4⟩ := stays s4 e3 n3 z3
      have s34 := s3.trans s4
      rw [if_pos rfl]
      refine ⟨env2, W4, M4, _, R4, q2, fun J1 H5 W5 M5 items1 R5 s5 it1 q5 => ?_⟩
      obtain ⟨e5, n5, z5⟩ := stays s5 e4 n4 z4
      have s35 := s34.trans s5
      have big5 : ∀ {W' H' M'}, Rl B X.K env2 σ2 W' H' M' → Since B.tb W2 H2 W' H' → Rl B X.K env σ W' H' M' := fun {W' H' M'} R' s' => ⟨R'.fit, R.env.mono ((s1.trans s2).trans s').le, R'.sin, R'.tabs⟩
      refine ⟨fun j k H6 => k = items1.length - j ∧ j ≤ items1.length ∧ ∃ W6 M6 vsb accb, Rl B X.K env2 σ2 W6 H6 M6 ∧ Since B.tb W1 H1 W6 H6 ∧ Rl B X.K env σ W6 H6 M6 ∧ H6 D = some (.lst vsb) ∧ D ∉ W6.ro ∧ W6.fz D = none ∧ Reps X.K W6 vsb accb ∧
        cTurns g1 uYes w (items1.drop j) accb (wipeD env2 vs1) M6 (fun acc2 M2 => c2Turns g wi1 vs1 g1 w (items.drop (i + 1)) acc2 (wipeD env vs) M2 Q'), ⟨_, rfl, Nat.zero_le _, W5, M5, vsa, acc, R5, s2.trans s35, big5 R5 s35, e5, n5, z5, Reps.mono s35.le _ _ ra, by simpa using q5⟩, ?_⟩
      rintro j k6 H6 ⟨rfl, hj, W6, M6, vsb, accb, R6, s16, R6', e6, n6, z6, rb, q6⟩
      obtain ⟨go1, stop1⟩ := it1 W6 H6 j env2 σ2 W6 H6 M6 R6 .refl
      by_cases hlt1 : j < items1.length
      · rw [List.drop_eq_getElem_cons hlt1] at q6
        obtain ⟨hgo1, yl1⟩ := go1 _ (List.getElem?_eq_getElem hlt1)
        refine .inr ⟨hgo1, fun H' => ∃ W6 M6 vsb accb, Rl B X.K env2 σ2 W6 H' M6 ∧ Since B.tb W1 H1 W6 H' ∧ Rl B X.K env σ W6 H' M6 ∧ H' D = some (.lst vsb) ∧ D ∉ W6.ro ∧ W6.fz D = none ∧ Reps X.K W6 vsb accb ∧
          cTurns g1 uYes w (items1.drop (j + 1)) accb (wipeD env2 vs1) M6 (fun acc2 M2 => c2Turns g wi1 vs1 g1 w (items.drop (i + 1)) acc2 (wipeD env vs) M2 Q'), fun H' h' => ⟨_, by omega, rfl, hlt1, h'⟩, fun x7 H7 hy7 => ?_⟩
        obtain ⟨W7, R7, s7, r7⟩ := yl1 x7 H7 hy7
        unfold cTurns at q6
        split at q6
        · rename_i env3 eg3
          have Rw3 : Rl B X.K (wipeD env2 vs1) (L2.wipe σ2 vs1) W7 H7 M6 := ⟨R7.fit, R7.env.wipe vs1, R7.sin, R7.tabs⟩
          refine L1.go B _ _ W7 H7 M6 x7 _ env3 _ Rw3 r7 eg3 fun σ3 Rg3 hw3 => ⟨by rw [hw3, wipe_wipe], ?_⟩
          obtain ⟨e7, n7, z7⟩ := stays s7 e6 n6 z6
          refine ⟨env3, W7, M6, (fun b M' => b = true ∧ M' = M6), Rg3, ⟨rfl, rfl⟩, fun b H8 W8 M8 R8 s8 q8 => ?_⟩
          obtain ⟨rfl, rfl⟩ := q8
          obtain ⟨e8, n8, z8⟩ := stays s8 e7 n7 z7
          rw [if_pos rfl]
          have q6' : w env3 M8 (fun d M3 => accb.length < sizeLine ∧ cTurns g1 uYes w (items1.drop (j + 1)) (accb ++ [d]) (wipeD env2 vs1) M3 (fun acc2 M2 => c2Turns g wi1 vs1 g1 w (items.drop (i + 1)) acc2 (wipeD env vs) M2 Q')) noE := q6
          refine ⟨env3, W8, M8, _, R8, q6', fun y H9 W9 d M9 R9 s9 r9 q9 => ?_⟩
          obtain ⟨e9, n9, z9⟩ := stays s9 e8 n8 z8
          have s79 := (s7.trans s8).trans s9
          have R9a : Rl B X.K env2 σ2 W9 H9 M9 := ⟨R9.fit, R6.env.mono s79.le, R9.sin, R9.tabs⟩
          have R9b : Rl B X.K env σ W9 H9 M9 := ⟨R9.fit, R6'.env.mono s79.le, R9.sin, R9.tabs⟩
          refine ⟨vsb, e9, by rw [rb.length]; exact q9.1, W9, M9, _, accb ++ [d], R9a.over hB n9 z9 e9 rfl, (s16.trans s79).over (fre_none hD), R9b.over hB n9 z9 e9 rfl, upd_same, n9, z9, (Reps.mono s79.le _ _ rb).append (.cons r9 .nil), q9.2⟩
        · exact q6.elim
      · have e : items1.drop j = [] := List.drop_eq_nil_of_le (by omega)
        rw [e] at q6
        exact .inl ⟨stop1 (by omega), W6, M6, vsb, accb, R6', s16, e6, n6, z6, rb, q6⟩
    · exact q2.elim
  · have e : items.drop i = [] := List.drop_eq_nil_of_le (by omega)
    rw [e] at q2
    exact .inl ⟨stop (by omega), k D vsa H2 W2 acc M2 R2 (s1.trans s2) h0 eD zD nD ra q2⟩
theorem df_lc2 {X : Cx} {elt tg iter tg1 iter1 : Expr} {w : WE} {wi wi1 : WI} {pos : Pos} {scope : Scope} {own : List (Str × Nat)} {vs1 : List Nat} {t t1 : TG} {g g1 : D → Envd → Option Envd} (hc : X.calm = true) (hN : X.N.Nodup) (hi : DI X B tg iter wi) (ok : BlkOk X.N X.env.scope scope own) (hv : ∀ i ∈ vs1, i ∈ own.map (·.2))
    (L : CLink X.K (own.map (·.2)) t g) (L1 : CLink X.K vs1 t1 g1)
    (hg : ∀ (s : Shared) (H : Hp) (C : Addr) (cl : List (Str × Addr)) (fp : List Addr), PG (blkE X scope s H C cl fp) tg t)
    (hi1 : ∀ (s : Shared) (H : Hp) (C : Addr) (cl : List (Str × Addr)) (fp : List Addr), DIu (blkE X scope s H C cl fp) B tg1 iter1 wi1)
    (hg1 : ∀ (s : Shared) (H : Hp) (C : Addr) (cl : List (Str × Addr)) (fp : List Addr), PG (blkE X scope s H C cl fp) tg1 t1)
    (he : ∀ (s : Shared) (H : Hp) (C : Addr) (cl : List (Str × Addr)) (fp : List Addr), DE (blkE X scope s H C cl fp) B elt w) (hs : ∀ x, foldedSetIterable iter X.env x = pure x := by intro _; rfl) (hs1 : ∀ env x, foldedSetIterable iter1 env x = pure x := by intro _ _; rfl) :
    DF X B (.ListComp elt [⟨tg, iter, [], 0⟩, ⟨tg1, iter1, [], 0⟩] scope pos) (fLc2 (own.map (·.2)) wi g wi1 vs1 g1 w) := fun E tk =>
  (pe_lc2 hc hN (hi E tk) ok hv hg (fun s H C cl fp => dts_nil noE takes_blk) (fun s H C cl fp => hi1 s H C cl fp noE takes_blk) hg1 (fun s H C cl fp => dts_nil noE takes_blk) (fun s H C cl fp => he s H C cl fp noE takes_blk) hs hs1).imp fun σ H Q h => lc2_read L L1 h
end
end L3
set_option maxRecDepth 100000
set_option maxHeartbeats 4000000
/-! L3W: defs as values, called by a local name. -/
namespace L3
open PySem PySem.Spec PyProof.Rows L2
/-- where a def of the text stands -/
def addrOf (mg : Str → Option Value) (x : Str) : Addr := match mg x with
  | some (.ref f) => f
  | _ => 0
theorem addr_of {mg : Str → Option Value} {x : Str} {f : Addr} (h : mg x = some (.ref f)) : addrOf mg x = f := by unfold addrOf; rw [h]
section
variable {X : Cx} {B : Bs} {e : Expr} {es : List Expr} {z : WA} {p pos : Pos}
theorem de_fn {K : PySem.W.Frag} {x : Str} {st : Stmt} {ps : List Str} (hg : Gl X x) (h : DefAt K X.mg x st ps) (hd : (x == ("__debug__" : Str)) = false := by decide) : DE X B (.Name x pos) (wC (.adr (addrOf X.mg x))) := by
  obtain ⟨f, fd, hm, _⟩ := h
  rw [addr_of hm]
  exact de_adr hg hm hd
/-- a call of what a local name holds: one of some defs -/
def wCallV (af : Str → Addr) (i n : Nat) (tab : List (Str × CtD)) (z : WA) : WE := fun env M Q E => ∃ p ∈ tab, env[i]? = some (some (.adr (af p.1))) ∧ z env M (fun ds M1 => ds.length = n ∧ p.2 ds M1 Q E) E
theorem DFn.mono {P : Program} {w : World} {K : PySem.W.Frag} {mg : Str → Option Value} {base : Heap} {x : Str} {n k : Nat} {ct : CtD} (F : DFn P w K mg base x n k ct) : ∃ k', k' ≤ k ∧ DFn P w K mg base x n k' ct := ⟨k, Nat.le_refl _, F⟩
theorem de_callV {i n k : Nat} {x : Str} {tab : List (Str × CtD)} (F : ∀ p ∈ tab, ∃ k', k' ≤ k ∧ DFn X.prog X.w X.K X.mg X.base p.1 n k' p.2) (hr : Room k X.A) (ha : DA X B (e :: es) z) (hN : X.N[i]? = some x := by rfl) (hv : Vis X.env.scope x := by first | exact Or.inl rfl | exact Or.inr (Or.inl rfl) | exact Or.inr (Or.inr rfl))
    (hdb : (x == ("__debug__" : Str)) = false := by decide) (hcd : (x == ("__classdict__" : Str)) = false := by decide)
    (he : starEach (e :: es) X.env = (false, eval e X.env) :: starEach es X.env := by rfl) (hpl : (backTo pos (starEach es X.env)).any (·.1) = false := by rfl) : DE X B (.Call (.Name x p) (e :: es) [] pos) (wCallV (addrOf X.mg) i n tab z) := fun E tk => by
  refine ⟨fun pins s σ H Q I h => ?_⟩
  obtain ⟨env, W, M, Q', R, ⟨pr, hpr, henv, q⟩, k1⟩ := h
  obtain ⟨k', hk', Fn⟩ := F pr hpr
  obtain ⟨f, fd, ps, hm, hk, hb, Fn⟩ := Fn.ex
  rw [addr_of hm] at henv
  obtain ⟨v, hσ, rv⟩ := R.env.get i _ henv
  cases rv
  refine (pe_callL (i := i) (f := f) (dvs := []) (E := fun cls d H' => wxD X B E cls d [] H') Fn (hr.mono hk') hN hv hk hb .nil (L2N.passes_call tk fun _ _ _ _ h => h) (ha E tk) hdb hcd he hpl).run pins s σ H Q I ⟨hσ, ?_⟩
  refine ⟨env, W, M, _, R, q, fun vs H1 W1 ds M1 R1 s1 r1 q1 => ?_⟩
  show spD X.K X.mg [] n pr.2 (vs ++ []) H1 Q _
  rw [List.append_nil]
  exact fn_read R1 s1 r1 q1.1 q1.2 k1
end
end L3
namespace L3
open PySem PySem.Spec PyProof.Rows L2
section
variable {X : Cx} {B : Bs} {a : Expr} {z : WA} {pos : Pos}
def intsD : List D → Option (List Int)
  | [] => some []
  | .int i :: ds => (intsD ds).map (i :: ·)
  | _ :: _ => none
theorem intsD_of : ∀ {ds : List D} {ns : List Int}, intsD ds = some ns → ds = ns.map D.int
  | [], _, h => by cases h; rfl
  | d :: ds, ns, h => by
    cases d with
    | int b =>
      have h' : (intsD ds).map (b :: ·) = some ns := h
      cases e : intsD ds with
      | none => rw [e] at h'; cases h'
      | some cs =>
        rw [e] at h'
        cases h'
        rw [intsD_of e]; rfl
    | _ => cases h
theorem intsD_map (xs : List Int) : intsD (xs.map D.int) = some xs := by
  induction xs with
  | nil => rfl
  | cons x xs ih =>
    show (intsD (xs.map D.int)).map (x :: ·) = _
    rw [ih]; rfl
/-- nothing is told: a statement that is not reached -/
def sNever : WS := fun _ _ _ _ => False
theorem ds_never {st : Stmt} : DS X B st sNever := fun E tk => ⟨fun pins s σ H D I h => by
  obtain ⟨_, _, _, _, _, z, _⟩ := h
  exact z.elim⟩
def wNever : WE := fun _ _ _ _ => False
theorem de_never {e : Expr} : DE X B e wNever := fun E tk => ⟨fun pins s σ H D I h => by
  obtain ⟨_, _, _, _, _, z, _⟩ := h
  exact z.elim⟩
end
end L3
set_option maxRecDepth 100000
set_option maxHeartbeats 1000000
/-! L3X: the greatest of a list of ints. -/
namespace PySem
/-- the place of a best one -/
theorem argBest_spec {n : Nat} {g : Nat → Int} : ∀ k, k < n → argBest (fun i j => decide (g i > g j)) k ≤ k ∧ ∀ i, i ≤ k → g i ≤ g (argBest (fun i j => decide (g i > g j)) k)
  | 0, _ => ⟨Nat.le_refl _, fun i hi => by rw [Nat.le_zero.mp hi]; exact Int.le_refl _⟩
  | k + 1, hk => by
    obtain ⟨h1, h2⟩ := argBest_spec (n := n) (g := g) k (by omega)
    show (if decide (g (k + 1) > g (argBest (fun i j => decide (g i > g j)) k)) = true then k + 1 else argBest (fun i j => decide (g i > g j)) k) ≤ k + 1 ∧ _
    by_cases e : g (k + 1) > g (argBest (fun i j => decide (g i > g j)) k)
    · have e3 : argBest (fun i j => decide (g i > g j)) (k + 1) = k + 1 := if_pos (decide_eq_true e)
      rw [e3, if_pos (decide_eq_true e)]
      refine ⟨Nat.le_refl _, fun i hi => ?_⟩
      by_cases z : i = k + 1
      · rw [z]; exact Int.le_refl _
      · have := h2 i (by omega); omega
    · have e3 : argBest (fun i j => decide (g i > g j)) (k + 1) = argBest (fun i j => decide (g i > g j)) k := if_neg (show ¬ decide (g (k + 1) > g (argBest (fun i j => decide (g i > g j)) k)) = true by rw [decide_eq_false e]; decide)
      rw [e3, if_neg (show ¬ decide (g (k + 1) > g (argBest (fun i j => decide (g i > g j)) k)) = true by rw [decide_eq_false e]; decide)]
      refine ⟨by omega, fun i hi => ?_⟩
      by_cases z : i = k + 1
      · rw [z]; omega
      · exact h2 i (by omega)
end PySem
namespace L2
open PySem PySem.Spec PyProof.Rows
section
variable {prog : Program} {w : World} {A : Around} {E : Value → Shared → Prop} {s : Shared} {l : Addr}
theorem valsInts : ∀ {ns : List Int} {its : List Value}, Vals (ns.map V.int) its → ∀ (i : Nat) (v : Value), its[i]? = some v → ∃ t, v = Value.int ((ns[i]?).getD 0) t
  | [], _, r, i, v, h => by cases r; simp at h
  | n :: ns, _, r, i, v, h => by
    cases r with
    | cons r1 r2 =>
      cases i with
      | zero =>
        have h : some _ = some v := h
        injection h with h
        subst h
        obtain ⟨t, rfl⟩ := r1
        exact ⟨t, rfl⟩
      | succ i => exact valsInts r2 i v h
theorem maxL_num {Q : Value → Shared → Prop} {ns : List Int} {its : List Value} (hh : A.handled = none) (hl : s.heap.IsList l its.toArray) (hv : Vals (ns.map V.int) its) (hne : ns ≠ [])
    (h : ∀ h' tk m t, (∀ d o, s.heap.get? d = some o → h'.get? d = some o) → m ∈ ns → (∀ a ∈ ns, a ≤ m) → Q (.int m t) { s with heap := h', toks := tk }) :
    wpAny (model prog w) A (call (.builtin "max") [.ref l]) Q E s := by
  have hlen : its.length = ns.length := by have := hv.length; rw [List.length_map] at this; exact this.symm
  have hpos : 0 < its.length := by rw [hlen]; exact List.length_pos_iff.mpr hne
  refine call_max_walk (iter_anyList hl fun s₂ e st hfp hlI => ?_)
  subst e
  refine ⟨_, _, _, _, _, _, _, rfl, Walks.list (A := A.in1) hh _ l hlI its.toArray, st, hfp, by simpa using hpos, CmpOf.ints_gt (fun i => (ns[i]?).getD 0) (fun i v hi => valsInts hv i v (by simpa using hi)), fun v h' tk hP hk => ?_⟩
  obtain ⟨h1, h2⟩ := argBest_spec (n := ns.length) (g := fun i => (ns[i]?).getD 0) (its.toArray.size - 1) (by simp; omega)
  obtain ⟨t, rfl⟩ := valsInts hv (argBest (fun i j => decide ((ns[i]?).getD 0 > (ns[j]?).getD 0)) (its.toArray.size - 1)) v (by rw [← hP]; rw [List.getElem?_toArray])
  refine h h' tk _ t (PySem.old_kept hk) ?_ ?_
  · have hi : argBest (fun i j => decide ((ns[i]?).getD 0 > (ns[j]?).getD 0)) (its.toArray.size - 1) < ns.length := Nat.lt_of_le_of_lt h1 (by simp; omega)
    have e := List.getElem?_eq_getElem hi
    rw [e]
    exact List.getElem_mem hi
  · intro a ha
    obtain ⟨i, hi, rfl⟩ := List.mem_iff_getElem.mp ha
    have := h2 i (by simp; omega)
    rwa [List.getElem?_eq_getElem hi] at this
end
section
variable {X : Cx}
def rMaxL (K : PySem.W.Frag) : List V → Hp → VK → Prop := fun vs H Q => ∃ (p : Addr) (ns : List Int), vs = [.ref p] ∧ SqL K H p (ns.map V.int) ∧ ns ≠ [] ∧ ∀ m ∈ ns, (∀ a ∈ ns, a ≤ m) → Q (.int m) H
theorem call_maxL (hc : X.calm = true) : CallR X (.builtin "max") (rMaxL X.K) := by
  intro pins s σ H vs us Q I r h
  obtain ⟨p, ns, rfl, hs, hne, q⟩ := h
  obtain ⟨its, rv, hl, _⟩ := I.list hs
  rw [Vals.ref1 r]
  exact maxL_num (I.ok.hd hc) hl.isList rv hne fun h' tk m t k h1 h2 => ⟨.int m, H, I.kept k, ⟨t, rfl⟩, q m h1 h2⟩
end
end L2
namespace L3
open PySem PySem.Spec PyProof.Rows L2
section
variable {X : Cx} {B : Bs} {a : Expr} {z : WA} {pos : Pos}
def oMaxL : OcD := fun ds _ Q => match ds with
  | [.lst xs] => ∃ ns : List Int, xs = ns.map D.int ∧ ns ≠ [] ∧ ∀ m ∈ ns, (∀ b ∈ ns, b ≤ m) → Q (.int m)
  | _ => False
theorem reps_ints {K : PySem.W.Frag} {W : Wd} : ∀ {ns : List Int} {vs : List V}, Reps K W vs (ns.map D.int) → vs = ns.map V.int
  | [], _, r => by cases r; rfl
  | n :: ns, _, r => by
    cases r with
    | cons r1 r2 =>
      cases r1
      rw [reps_ints r2]; rfl
theorem lift_maxL {K : PySem.W.Frag} : LiftC B K (rMaxL K) oMaxL := by
  intro env σ W H M vs ds Q Q' R rs q k
  dsimp only [oMaxL] at q
  split at q
  · rename_i xs
    obtain ⟨ns, rfl, hne, q⟩ := q
    cases rs with
    | cons r rr =>
      cases rr
      obtain ⟨p, ys, rfl, e1, r1⟩ := seeD_lst R r (show seeD M (.lst (ns.map D.int)) = .lst (ns.map D.int) from rfl)
      obtain rfl := reps_ints r1
      exact ⟨p, ns, rfl, SqL.of e1, hne, fun m h1 h2 => k _ _ _ _ R .refl (.int _) (q m h1 h2)⟩
  · exact q.elim
theorem de_maxL {p : Pos} (hc : X.calm = true) (hg : Gl X "max") (hm : X.mg "max" = none) (ha : DA X B [a] z) (he : starEach [a] X.env = (false, eval a X.env) :: starEach [] X.env := by rfl) : DE X B (.Call (.Name "max" p) [a] [] pos) (wB oMaxL z) :=
  de_blt (call_maxL hc) lift_maxL hg hm (by decide +kernel) ha (he := he) (hpl := rfl)
end
end L3
set_option maxRecDepth 100000
set_option maxHeartbeats 4000000
/-! L3Y: an own class of error whose __init__ keeps one field. -/
namespace L3
open PySem PySem.Spec PyProof.Rows L2 PySem.W ClX
/-- C(e, ..), C's own __init__ keeping sp -/
theorem pmk_oexN {X : Cx} {CX : CXT} {x : Str} {e : Expr} {es : List Expr} {ta : TA} {p pos : Pos} {C fI : Addr} {k : Nat} {fd : FuncData} {ps : List Str} {sp : Sp} (T : OexC X.K C) (iC : PySem.W.findIn X.K (.ref C) "__init__" = some (some (.ref fI))) (tI : PySem.W.typeIn X.K (.ref fI) = some (.type "function"))
    (F1 : FnOk X.prog X.w X.K X.mg X.base CX k fI fd ps sp) (hr : Room (k + 1) X.A) (hb : Binds X.K fd ps []) (hx : Passes CX X (fun _ _ _ => False)) (hg : Gl X x) (hm : X.mg x = some (.ref C)) (ha : PA X (e :: es) ta)
    (hdb : (x == ("__debug__" : Str)) = false := by decide) (he : starEach (e :: es) X.env = (false, eval e X.env) :: starEach es X.env := by rfl) (hpl : (backTo pos (starEach es X.env)).any (·.1) = false := by rfl) :
    L2N.PMk X (.Call (.Name x p) (e :: es) [] pos) (tMkO C sp [] ta) := by
  intro pins s σ H Q I h
  obtain ⟨nm, q, N, bs, bm, sn, sub, ab, col, dd, k0, k1, k2, k3, k5, hC, hbm⟩ := T.cls
  refine wpAny_Call_Name_kw (ld_glob I hg hm ?_ hdb)
  refine PySem.W.callWith_K (h₀ := X.base) I.ok.mod.kin T.kC (thn (ha.run pos pins s σ H _ I h) fun us s1 ⟨vs, H1, I1, r1, hz, q1⟩ => ⟨I1.kIn, ?_⟩) he hpl
  show wpAny _ _ (call (.ref C) us) _ _ _
  obtain ⟨hp, g, dr, tk, os⟩ := s1
  have hsz : hp.objs.size ≤ hp.objs.size + 1 := Nat.le_succ _
  have hn : H1 (hp.objs.size + 1) = none := I1.hok.fresh hsz
  have hq := q1 (hp.objs.size + 1) hn
  rw [List.append_nil] at hq
  have kk : ∀ b o, hp.get? b = some o → ((hp.push (PySem.W.kdv_tup us)).push (PySem.HandSPX.excO C hp.objs.size)).get? b = some o := fun b o e => Heap.get?_push_of_some _ (Heap.get?_push_of_some _ e)
  have hget : ((hp.push (PySem.W.kdv_tup us)).push (PySem.HandSPX.excO C hp.objs.size)).get? (hp.objs.size + 1) = some (PySem.HandSPX.excO C hp.objs.size) := by heap_get
  have I2 : Inv X pins σ (upd H1 (hp.objs.size + 1) (exo (hp.objs.size + 1) C none)) ⟨(hp.push (PySem.W.kdv_tup us)).push (PySem.HandSPX.excO C hp.objs.size), g, dr, tk, os⟩ :=
    I1.laid (t' := tk) (a := hp.objs.size + 1) (o := exo (hp.objs.size + 1) C none) (h' := (hp.push (PySem.W.kdv_tup us)).push (PySem.HandSPX.excO C hp.objs.size)) kk hsz (exo_ok hget)
  have r2 : Vals (V.ref (hp.objs.size + 1) :: vs) (Value.ref (hp.objs.size + 1) :: us) := .cons rfl r1
  have hl : (Value.ref (hp.objs.size + 1) :: us ++ []).length = ps.length := by
    have e := r2.length
    rw [F1.len _ _ _ _ hq] at e
    rw [List.append_nil]
    exact e.symm
  have hus : us.length ≤ sizeLine := by
    rw [← Paired.length r1, sizeLine_eq]
    omega
  have b2 := hb _ (Value.ref (hp.objs.size + 1) :: us) I2.kIn hl
  rw [List.append_nil] at b2
  refine wpAny_call (PySem.HandSPX.call_own F.excBase_ValueError (fun Y => PySem.HandSPX.refsVE_contains Y bm hbm) (I1.kIn _ _ hC) (PySem.W.looks_findIn I1.kIn iC) (fun self => PySem.W.bind_fn I1.kIn self tI) hus
    (codeAny_mono (F1.run _ X.stack _ _ ⟨Value.ref (hp.objs.size + 1) :: us, []⟩ (Value.ref (hp.objs.size + 1) :: us) _ _ (fun _ _ _ => False) (hr.make C us []) (I2.env0.make C us []) b2 r2 hq) fun r s' hq' => ?_))
  cases r with
  | error er => exact hx pins σ _ _ er s' I2 hq'
  | ok fl =>
    cases fl with
    | ret u =>
      obtain ⟨v, H2, os2, bare2, un2, hok2, rv, ev, d, fs, ea, ed, hd1, q2⟩ := hq'
      subst ev
      obtain ⟨h2, g2, d2, t2, os'⟩ := s'
      obtain ⟨t0, G, J, kG, ge, hoe, na⟩ := mk_end0 (d2 := d2) (t2 := t2) I1 hsz kk un2 hok2 os2 bare2 ea ed hd1
      refine ⟨rv, hp.objs.size + 1, _, _, ⟨G, g2, d2, t2, os'⟩, _, .ref C, some d, rfl, J, kG, ge, hoe, ⟨rfl, rfl, fun vs hv => ?_⟩, rfl, rfl, na, rfl, bare2, raises_own T.exC T.tyC, q2⟩
      cases hv
      rfl
    | next => exact False.elim hq'
    | brk => exact False.elim hq'
    | cont => exact False.elim hq'
section
variable {X : Cx} {e : Expr} {es : List Expr} {ta : TA} {p p1 p2 pos : Pos} {n : Str} {C : Addr} {mc : Value} {pl : Sem Bool}
/-- C.__init__(self, ..), where C's __init__ is ValueError's -/
theorem pe_clsinit (hg : Gl X n) (hm : X.mg n = some (.ref C)) (r : CRead X.K C mc) (at_ : PySem.W.findCls X.K (.ref C) mc "__init__" = some (.val (.builtin "ValueError.__init__"))) (ha : PA X (e :: es) ta)
    (hdb : (n == ("__debug__" : Str)) = false := by decide)
    (hc : eval (.Call (.Attribute (.Name n p1) "__init__" p2) (e :: es) [] pos) X.env = (do
      let ov ← eval (.Name n p1) X.env
      standAt p2.atName
      let (f, first) ← holding [ov] (getMethod ov "__init__" pl)
      callWith pos f first (backTo pos (starEach (e :: es) X.env)) (backToKw pos (keywordEach [] X.env))) := by rfl)
    (he : starEach (e :: es) X.env = (false, eval e X.env) :: starEach es X.env := by rfl) (hpl : (backTo pos (starEach es X.env)).any (·.1) = false := by rfl) :
    PE X (.Call (.Attribute (.Name n p1) "__init__" p2) (e :: es) [] pos) (tVeI X.K ta) := by
  refine ⟨fun pins s σ H Q I h => ?_⟩
  refine PySem.W.methodCall_KW (ld_glob I hg hm ?_ hdb) hc
  refine PySem.W.method_cls I.kIn r.ga (PySem.W.cls_value I.kIn r.rd at_ (by rfl) ?_)
  show wpAny _ _ (callWith pos (Value.builtin "ValueError.__init__") [] (backTo pos (starEach (e :: es) X.env)) []) _ _ _
  refine PyProof.Rows.callWith_method1 (thn (ha.run pos pins _ σ H _ (I.tok _) h) fun us s1 ⟨vs, H1, I1, r1, a, C, ws, ev, hl, T, ea, q⟩ => ?_) he hpl
  subst ev
  cases r1 with
  | @cons _ u0 _ ur ra rw' =>
    obtain rfl : u0 = Value.ref a := ra
    have hlen : ur.length ≤ sizeLine := by
      rw [← Paired.length rw', sizeLine_eq]
      omega
    exact oinit_ok T I1 ea hlen fun s' J => ⟨.non, H1, J, rfl, q⟩
end
/-! ### the facts of the text -/
def oexB (K : Frag) (C : Addr) : Bool := match K.lookup C with
  | some ⟨.type "type", _, .cls cd, sl⟩ => (match cd.mro, sl.toList with
    | .ref C' :: bm, [_, _, _, _, some (.builtin n), _] => C' == C && n == "ValueError.__new__" && !cd.hasDel && cd.hasDict && PySem.HandSPX.refsVE bm
    | _, _ => false)
  | _ => false
theorem oexB_of {K : Frag} {C : Addr} (q : oexB K C = true) : ∃ nm q N bs bm sn sub ab col dd k0 k1 k2 k3 k5, K.lookup C = some (excClassObj nm q C N bs bm true sn sub ab col dd k0 k1 k2 k3 k5 "ValueError.__new__") ∧ PySem.HandSPX.refsVE bm = true := by
  unfold oexB at q
  split at q
  · rename_i dd cd sl ho
    split at q
    · rename_i C' bm k0 k1 k2 k3 n k5 hm hs
      simp only [Bool.and_eq_true, beq_iff_eq, Bool.not_eq_true'] at q
      obtain ⟨⟨⟨⟨rfl, rfl⟩, hdel⟩, hdi⟩, ht⟩ := q
      obtain ⟨nm, bs, mro, ns, qn, hd, sn, sub, ab, col, del⟩ := cd
      dsimp only at hm hdel hdi
      subst hm hdel hdi
      have hsl : sl = #[k0, k1, k2, k3, some (.builtin "ValueError.__new__"), k5] := by
        obtain ⟨l⟩ := sl
        simp only at hs
        rw [hs]
      subst hsl
      exact ⟨nm, qn, ns, bs, bm, sn, sub, ab, col, dd, k0, k1, k2, k3, k5, ho, ht⟩
    · cases q
  · cases q
/-- an own class of error whose __init__ keeps a field -/
structure InitF (K : Frag) (mg : Str → Option Value) (st : Stmt) (c qual f : Str) : Prop where
  ex : ∃ (C fI CL : Addr) (fd : FuncData), mg c = some (.ref C) ∧ OexC K C ∧ findIn K (.ref C) "__init__" = some (some (.ref fI)) ∧ typeIn K (.ref fI) = some (.type "function") ∧ Fun K "__init__" qual st fI fd ∧ Binds K fd ["self", f] [] ∧
    findIn K (.ref C) f = some none ∧ mg "LoopError" = some (.ref CL) ∧ CRead K CL (.type "type") ∧ findCls K (.ref CL) (.type "type") "__init__" = some (.val (.builtin "ValueError.__init__"))
def initB (K : Frag) (c f : Str) (fI : Addr) : Bool := match atB K c, atB K "LoopError" with
  | some C, some CL => oexB K C && (decide (findIn K (.ref C) "__setattr__" = some (some (.builtin "object.__setattr__"))) && (decide (subIn K (.ref C) (.type "BaseException") = some true) && (decide (typeIn K (.ref C) = some (.type "type")) && (keepIn K (.ref C) &&
      (decide (findIn K (.ref C) "__init__" = some (some (.ref fI))) && (decide (typeIn K (.ref fI) = some (.type "function")) && (decide (findIn K (.ref C) f = some none) && (readsIn K CL (.type "type") &&
      (decide (specialIn K (.ref CL) "__getattribute__" = some (some (.builtin "type.__getattribute__"))) && (match findCls K (.ref CL) (.type "type") "__init__" with | some (.val (.builtin b)) => b == "ValueError.__init__" | _ => false))))))))))
  | _, _ => false
theorem init_mk {K : Frag} {h : Heap} {mg : Str → Option Value} {st : Stmt} {c qual f : Str} {C fI : Addr} {oc : Value} {od an : Option Addr} {osl : Array (Option Value)} {kV doc pm cdv ct : Value} (X : K.In h) (G : h.Ns mainGlobals mg)
    (a : PySem.W.nsIn K mainGlobals c = some (some (.ref C))) (i : PySem.W.findIn K (.ref C) "__init__" = some (some (.ref fI)))
    (l : K.lookup fI = some ⟨oc, od, .func (PySem.W.fnOf "__init__" qual (defArgs st) (defBody st) (defScope st) .none kV doc pm an cdv ct), osl⟩) (cd : PySem.W.codeIn K cdv qual = true) (k : PySem.W.keepIn K (.ref fI) = true) (q : initB K c f fI = true)
    (b : ∀ (kV doc pm : Value) (an : Option Addr) (cdv ct : Value) (us : List Value), us.length = 2 → bindArgs (PySem.W.fnOf "__init__" qual (defArgs st) (defBody st) (defScope st) .none kV doc pm an cdv ct) ⟨us, []⟩ = pure ((["self", f] : List Str).zip us)) : InitF K mg st c qual f := by
  unfold initB at q
  split at q
  · rename_i C CL e1 e2
    simp only [Bool.and_eq_true, decide_eq_true_eq] at q
    obtain ⟨q1, q2, q3, q4, q5, q6, q7, q8, q9, q10, q11⟩ := q
    refine ⟨C, fI, CL, _, PySem.W.mg_of X G (atB_of e1), ⟨oexB_of q1, q2, q3, q4, q5⟩, q6, q7, fun_mk l cd k, Fun.binds (fun_mk l cd k) b, q8, PySem.W.mg_of X G (atB_of e2), ⟨q9, q10⟩, ?_⟩
    split at q11
    · rename_i b e
      rw [e, beq_iff_eq.mp q11]
    · cases q11
  · cases q
/-! ### its __init__, and raising it -/
def spInit (C : Addr) (f : Str) : Sp := fun vs H Q _ => ∃ (a : Addr) (y : V), vs = [.ref a, y] ∧ H a = some (exo a C none) ∧ ∀ dx, H dx = none → dx ≠ a → Q .non (upd (upd H dx (exd dx [(f, y)])) a (exo a C (some dx)))
structure InitOk (P : Program) (w : World) (K : PySem.W.Frag) (mg : Str → Option Value) (base : Heap) (c f : Str) : Prop where
  ex : ∃ (C fI : Addr) (fd : FuncData), mg c = some (.ref C) ∧ OexC K C ∧ findIn K (.ref C) "__init__" = some (some (.ref fI)) ∧ typeIn K (.ref fI) = some (.type "function") ∧ Binds K fd ["self", f] [] ∧ FnOk P w K mg base (L2N.CX P w) 1 fI fd ["self", f] (spInit C f)
def tInit (K : PySem.W.Frag) (f msg : Str) : TS := tSeq (tDrop (tVeI K (tCons (tVar 0) (tCons (tC (.str msg)) tNil)))) (tOst K f (tVar 0) (tVar 1))
theorem init_of {P : Program} {w : World} {K : PySem.W.Frag} {mg : Str → Option Value} {base : Heap} {st : Stmt} {c qual f msg : Str} (I : InitF K mg st c qual f) (S : FnScope ["self", f] ["self", f] (defScope st))
    (hbody : ∀ (CL : Addr) (cdv : Value) (A : Around) (outer : List Env) (s : Shared) (H : Hp) (E : XK) (fI : Addr), mg "LoopError" = some (.ref CL) → CRead K CL (.type "type") → findCls K (.ref CL) (.type "type") "__init__" = some (.val (.builtin "ValueError.__init__")) →
      PSs (cxOf (L2N.CX P w) P w K mg base ["self", f] qual (defScope st) fI cdv A outer s H E) (defBody st) (tInit K f msg)) : InitOk P w K mg base c f := by
  obtain ⟨C, fI, CL, fd, h1, h2, h3, h4, h5, h6, h7, h8, h9, h10⟩ := I.ex
  refine ⟨C, fI, fd, h1, h2, h3, h4, h6, okN h5 S (fun vs H Q E h => ?_) fun cdv A outer s H vs Q E hr h => ⟨_, hbody CL cdv A outer s H E fI h8 h9 h10, ?_⟩⟩
  · obtain ⟨a, y, rfl, _⟩ := h
    rfl
  · obtain ⟨a, y, rfl, ea, q⟩ := h
    refine ⟨.ref a, rfl, ?_⟩
    refine ⟨a, C, [.str msg], rfl, by simp, h2, ea, ?_⟩
    refine ⟨y, rfl, .ref a, rfl, a, C, rfl, h2, h7, .inl ⟨ea, fun dx n ne => q dx n ne⟩⟩
/-- raise C(e) -/
def sRaiseF (c f : Str) (z : WA) : WS := fun env M _ E => z env M (fun ds M1 => match ds with | [d] => E ⟨c, some (f, d)⟩ M1 | _ => False) E
section
variable {X : Cx} {B : Bs} {e : Expr} {p p3 pos : Pos} {x f : Str} {z : WA}
theorem ds_raiseF (I : InitOk X.prog X.w X.K X.mg X.base x f) (hc : X.calm = true) (hr : Room 2 X.A) (hg : Gl X x) (ha : DA X B [e] z) (hdb : (x == ("__debug__" : Str)) = false := by decide)
    (he : starEach [e] X.env = (false, eval e X.env) :: starEach [] X.env := by rfl) (hpl : (backTo p3 (starEach [] X.env)).any (·.1) = false := by rfl) :
    DS X B (.Raise (some (.Call (.Name x p) [e] [] p3)) none pos) (sRaiseF x f z) := fun E tk => by
  obtain ⟨C, fI, fd, h1, h2, h3, h4, h6, F⟩ := I.ex
  refine (L2N.ps_raise hc tk (pmk_oexN h2 h3 h4 F hr h6 (L2N.passes_call tk fun _ _ _ _ h => h.elim) hg h1 (ha E tk) hdb he hpl)).imp fun D σ H h => ?_
  obtain ⟨env, W, M, D', R, q, k1, k2, k3, k4⟩ := h
  refine ⟨env, W, M, _, R, q, fun vs H1 W1 ds M1 R1 s1 r1 q1 => ?_⟩
  split at q1
  · rename_i d
    cases r1 with
    | cons r rr =>
      cases rr
      rename_i v
      refine ⟨by simp, fun a hn => ⟨a, v, rfl, upd_same, fun dx hdx hne => ⟨rfl, dx, [(f, v)], ?_, ?_, ?_, ?_⟩⟩⟩
      · rw [upd_same]
      · rw [upd_ne hne, upd_same]
      · rw [upd_ne hne] at hdx; exact hdx
      · rw [upd_ne hne] at hdx
        have eH : upd (del (upd (upd (upd H1 a (exo a C none)) dx (exd dx [(f, v)])) a (exo a C (some dx))) a) dx (.xd [(f, v)]) = upd H1 dx (.xd [(f, v)]) := by
          funext b
          by_cases e1 : b = dx
          · rw [e1, upd_same, upd_same]
          · rw [upd_ne e1, upd_ne e1]
            by_cases e2 : b = a
            · rw [e2, del_same, hn]
            · rw [del_ne e2, upd_ne e2, upd_ne e1, upd_ne e2]
        rw [eH]
        have s0 : Since [] W1 H1 W1 (upd H1 dx (.xd [(f, v)])) := Since.refl.over (fre_none hdx)
        refine ⟨W1, M1, ⟨x, some (f, d)⟩, R1.fit.ext (.of fun b o h => by rw [upd_ne (ne_of_none h hdx)]; exact h), R1.sin.trans (Since.refl.over (fre_none hdx)), tabs_keep R1.tabs R1.fit s0, ⟨h1, dx, v, rfl, upd_same, r⟩, q1⟩
  · exact q1.elim
end
end L3
namespace L3
open PySem PySem.Spec PyProof.Rows L2
section
variable {X : Cx} {B : Bs} {a b : Expr} {wa wb : WE} {pos : Pos}
/-- a tuple, many times -/
def oMulT : OpD := fun x y _ Q => match x, y with
  | .tup ds, .int j => ds ≠ [] ∧ 2 ≤ j ∧ j ≤ 1000 ∧ ds.length ≤ 1000 ∧ Q (.tup (List.replicate j.toNat ds).flatten)
  | _, _ => False
theorem de_mulT (ha : DE X B a wa) (hb : DE X B b wb) : DE X B (.BinOp a .Mult b pos) (wOp oMulT wa wb) := by
  refine de_op op_repT ?_ ha hb
  intro env σ W H M x y dx dy Q Q' R rx ry q k
  dsimp only [oMulT] at q
  split at q
  · rename_i ds j
    obtain ⟨h1, h2, h3, h4, q⟩ := q
    cases ry
    obtain ⟨p, xs, rfl, e1, _, r1⟩ := tup_at R rx
    refine ⟨p, _, xs, rfl, rfl, SqT.of e1, fun z => h1 ?_, h2, h3, by rw [r1.length]; exact h4, fun n hn => ?_⟩
    · have := r1.length
      rw [z] at this
      exact List.eq_nil_of_length_eq_zero this.symm
    obtain ⟨R', s'⟩ := R.laid (o := .tup (List.replicate _ xs).flatten) hn
    exact k _ _ _ _ R' s' (.tup upd_same (Reps.mono s'.le _ _ (r1.rep _))) q
  · exact q.elim
end
end L3
set_option maxRecDepth 100000
set_option maxHeartbeats 1000000
/-! L3Z: the signs of a string. -/
namespace L3
open PySem PySem.Spec PyProof.Rows L2
section
variable {X : Cx} {B : Bs} {a b : Expr} {wa wb : WE} {pos : Pos}
def signsD (x : Str) : List D := x.cps.toList.map fun c => D.str ⟨#[c]⟩
theorem itD_str {K : PySem.W.Frag} {W0 : Wd} {H0 : Hp} {x : Str} : ItD B K (Its x) W0 H0 (signsD x) := fun i env σ W H M R s => by
  have hl : (signsD x).length = x.cps.size := by unfold signsD; rw [List.length_map, Array.length_toList]
  refine ⟨fun d hd => ?_, fun hi => by rw [hl] at hi; exact hi⟩
  have hi : i < x.cps.size := by
    have := (List.getElem?_eq_some_iff.mp hd).1
    rw [hl] at this
    exact this
  refine ⟨hi, fun v H' y => ?_⟩
  obtain ⟨rfl, c, hc, rfl⟩ := y
  unfold signsD at hd
  rw [List.getElem?_map, Array.getElem?_toList, hc] at hd
  cases hd
  exact ⟨W, R, .refl, .str _⟩
def iStrD (w : WE) : WI := fun env M R E => w env M (fun d M1 => match d with
  | .str x => R (signsD x) M1
  | _ => False) E
theorem di_str {tg e : Expr} {w : WE} (h : DE X B e w) : DI X B tg e (iStrD w) := fun E tk => (pi_str (h E tk)).imp fun σ H Q h => by
  obtain ⟨env, W, M, R', R, q, k⟩ := h
  refine ⟨env, W, M, _, R, q, fun v H1 W1 d M1 R1 s1 r1 q1 => ?_⟩
  cases d <;> first | exact q1.elim | skip
  cases r1
  exact ⟨_, rfl, k _ _ _ _ _ R1 s1 itD_str q1⟩
/-- a sign in a string -/
def oInS : OpD := fun x y _ Q => match x, y with
  | .str s, .str z => ∃ c : Nat, s = ⟨#[c]⟩ ∧ Q (.bl (decide (c ∈ z.cps.toList)))
  | _, _ => False
theorem de_inS (ha : DE X B a wa) (hb : DE X B b wb) (hm : behindInMarks .In b = false := by rfl) : DE X B (.Compare a [.In] [b] pos) (wOp oInS wa wb) := by
  refine de_cmp op_in_sign ?_ ha hb hm
  intro env σ W H M x y dx dy Q Q' R rx ry q k
  dsimp only [oInS] at q
  split at q
  · obtain ⟨c, rfl, q⟩ := q
    cases rx
    cases ry
    exact ⟨c, _, rfl, rfl, k _ _ _ _ R .refl (.bl _) q⟩
  · exact q.elim
end
end L3
set_option maxRecDepth 100000
set_option maxHeartbeats 1000000
/-! L4A: xs.index(x). -/
namespace L3
open PySem PySem.Spec PyProof.Rows L2
section
variable {X : Cx} {B : Bs} {a b : Expr} {wa wb : WE} {pos : Pos}
def wIndex (wo w : WE) : WE := fun env M Q E => wo env M (fun o M1 => (∃ ds, viewL M1 o = some ds) ∧ w env M1 (fun d M2 => d.ok 60 = true ∧ match seeD M2 o with
  | .lst ds => D.oks 59 ds = true ∧ ∃ (j : Nat) (z : D), ds[j]? = some z ∧ eqD z d = true ∧ (∀ (m : Nat) (z' : D), m < j → ds[m]? = some z' → eqD z' d = false) ∧ Q (.int (j : Nat)) M2
  | _ => False) E) E
theorem pys_get : ∀ (ds : List D) (j : Nat), (D.pys ds)[j]? = (ds[j]?).map D.py
  | [], j => by simp [D.pys]
  | d :: ds, 0 => rfl
  | d :: ds, j + 1 => pys_get ds j
theorem pures_get : ∀ {ds : List D} {j : Nat} {z : D}, D.pures ds = true → ds[j]? = some z → z.pure = true
  | [], _, _, _, h => by simp at h
  | d :: ds, 0, z, p, h => by
    have p : (d.pure && D.pures ds) = true := p
    rw [Bool.and_eq_true] at p
    have h : some d = some z := h
    cases h
    exact p.1
  | d :: ds, j + 1, z, p, h => by
    have p : (d.pure && D.pures ds) = true := p
    rw [Bool.and_eq_true] at p
    exact pures_get (j := j) p.2 h
theorem de_index {apos : Pos} {wo w : WE} (hu : X.A.units + 65 < cLine) (ho : DE X B a wo) (h : DE X B b w) (hbase : attributeBase a "index" X.env (eval a X.env) = eval a X.env := by rfl)
    (hfew : ((backTo pos (starEach [b] X.env)).all (fun x => !x.1) && (backToKw pos (keywordEach [] X.env)).all (fun x => x.1.isSome)
      && decide ([b].length + ([] : List Keyword).length + (if ([] : List Keyword).isEmpty then 0 else 1) < 30)) = true := by rfl)
    (hline : (apos.endLine == pos.line) = true := by rfl) (hs : starEach [b] X.env = (false, eval b X.env) :: starEach [] X.env := by rfl) (hplain : (backTo pos (starEach [] X.env)).any (·.1) = false := by rfl) : DE X B (.Call (.Attribute a "index" apos) [b] [] pos) (wIndex wo w) := fun E tk =>
  (pe_bm PySem.F.plainAttrs_list PySem.F.slot_list_index PySem.F.type_list_index (mt_indexD hu) (ho E tk) (pa_cons (h E tk) pa_nil hs) hbase hfew hline hs hplain).imp fun σ H Q h => by
    obtain ⟨env, W, M, Q', R, q, k⟩ := h
    refine ⟨env, W, M, _, R, q, fun v H1 W1 d M1 R1 s1 r1 q1 => ?_⟩
    obtain ⟨⟨ds0, e0⟩, q1⟩ := q1
    obtain ⟨p0, xs0, rfl, e0', _⟩ := viewL_at R1 r1 e0
    refine ⟨.inl ⟨rfl, xs0, SqL.of e0'⟩, env, W1, M1, _, R1, q1, fun v2 H2 W2 d2 M2 R2 s2 r2 q2 => ?_⟩
    obtain ⟨h1, q2⟩ := q2
    split at q2
    · rename_i ds e
      obtain ⟨h2, j, z, e1, e2, e3, q2⟩ := q2
      obtain ⟨a', ys, ea, e4, r4⟩ := seeD_lst R2 (Rep.mono s2.le _ _ r1) e
      cases ea
      obtain ⟨sh1, pu1⟩ := D.ok_shaped h1
      obtain ⟨sh2, pu2⟩ := D.ok_shaped (d := .lst ds) h2
      refine ⟨p0, v2, d2.py, D.pys ds, j, z.py, rfl, rfl, .lst (SqL.of e4) (Reps.dp R2.fit.fz _ _ pu2 r4), Rep.dp R2.fit.fz _ _ pu1 r2, sh2, sh1, by rw [pys_get, e1]; rfl, ?_, ?_, ?_⟩
      · rw [eqD_py z d2 (pures_get pu2 e1) pu1]; exact e2
      · intro m z' hm hz'
        rw [pys_get] at hz'
        cases q5 : ds[m]? with
        | none => rw [q5] at hz'; cases hz'
        | some y =>
          rw [q5] at hz'
          cases hz'
          rw [eqD_py y d2 (pures_get pu2 q5) pu1]
          exact e3 m y hm q5
      · exact k _ _ _ _ _ R2 (s1.trans s2) (.int _) q2
    · exact q2.elim
end
end L3
set_option maxRecDepth 100000
set_option maxHeartbeats 1000000
/-! L4B: a string, many times. -/
namespace L2
open PySem PySem.Spec PyProof.Rows
theorem op_mulS {X : Cx} : OpR X (binaryOp .Mult) (fun x y H Q => ∃ (a : Str) (n : Int), x = .str a ∧ y = .int n ∧ MulOk a n ∧ Q (.str (Txt.mul a n)) H) := by
  intro pins s σ H x y v u Q I rx ry h
  obtain ⟨a, n, rfl, rfl, ok, q⟩ := h
  obtain ⟨t, rfl⟩ := rx
  obtain ⟨t', rfl⟩ := ry
  exact SB.mul ok fun t' k => ⟨.str _, H, I.tok _, ⟨_, rfl⟩, q⟩
end L2
namespace L3
open PySem PySem.Spec PyProof.Rows L2
section
variable {X : Cx} {B : Bs} {a b : Expr} {wa wb : WE} {pos : Pos}
def oMulS : OpD := fun x y _ Q => match x, y with
  | .str s, .int n => MulOk s n ∧ Q (.str (Txt.mul s n))
  | _, _ => False
theorem de_mulS (ha : DE X B a wa) (hb : DE X B b wb) : DE X B (.BinOp a .Mult b pos) (wOp oMulS wa wb) := by
  refine de_op op_mulS ?_ ha hb
  intro env σ W H M x y dx dy Q Q' R rx ry q k
  dsimp only [oMulS] at q
  split at q
  · obtain ⟨ok, q⟩ := q
    cases rx
    cases ry
    exact ⟨_, _, rfl, rfl, ok, k _ _ _ _ R .refl (.str _) q⟩
  · exact q.elim
end
end L3
set_option maxRecDepth 100000
set_option maxHeartbeats 1000000
/-! L4C: d.get, d.setdefault of dicts whose keys are tuples; how often a string stands in one. -/
namespace L2
open PySem PySem.Spec PyProof.Rows
section
variable {X : Cx} {pins : List (Addr × Obj)} {σ : St} {H : Hp} {s : Shared} {a b : Addr} {u r : Value} {d : V} {A : Around} {E : Value → Shared → Prop}
theorem d_setdT {k : List Key} {kvs : List (List Key × V)} {Q : Value → Shared → Prop} (hu : A.units + 1 < cLine) (I : Inv X pins σ H s) (e : H a = some (.dT kvs)) (eb : H b = some (.tup (k.map kV))) (rd : RelV d r) (hl : kvs.length < sizeLine)
    (h1 : ∀ v, valV kvs k = some v → ∀ (w' : Value) (s' : Shared), Inv X pins σ H s' → RelV v w' → Q w' s') (h2 : valV kvs k = none → ∀ (w' : Value) (s' : Shared), Inv X pins σ (upd H a (.dT (putK kvs k d))) s' → RelV d w' → Q w' s') :
    wpAny (model X.prog X.w) A (call (.builtin "dict.setdefault") [.ref a, .ref b, r]) Q E s := by
  obtain ⟨z, hd, xs, rel, dd⟩ := dt_of I.hok e
  have hz : xs.length ≤ sizeLine := by rw [← Paired.length rel]; exact z
  refine PySem.call_setdefault_heap (hsz := hz) (tupleKind_room_in1 hu) (key_of I.hok eb) hd dd (fun p hp => ?_) fun hn h' dd' hs => ?_
  · have q := rel.val k
    rw [hp] at q
    cases q0 : valV kvs k with
    | none =>
      rw [q0] at q
      exact (show False from q).elim
    | some v0 =>
      rw [q0] at q
      exact h1 v0 q0 _ _ (I.tok _) q
  · have q := rel.val k
    rw [hn] at q
    cases q0 : valV kvs k with
    | some v0 =>
      rw [q0] at q
      exact (show False from q).elim
    | none =>
      have hl2 : (putK kvs k d).length ≤ sizeLine := by
        have := length_putK kvs k d
        omega
      obtain ⟨q, es, ep, hq, g2, g3, g4, _, g5⟩ := dd'
      refine h2 q0 _ _ (d_write I (by rw [e]; exact True.intro) hs ⟨q, hq⟩ ⟨hl2, hd, _, (rel.put k eb rd).keeps fun c ys ec => ?_, q, es, ep, hq, g2, g3, g4, g5⟩) rd
      rw [upd_ne (ne_of ec e (fun z => nomatch z))]
      exact ec
end
/-- d.setdefault(y, z), keys that are tuples -/
def tDSetdT (td ty tx : TE) : TE := fun σ H Q => td σ H fun x H1 => ∃ a, x = .ref a ∧ IsD H1 a ∧ ty σ H1 fun y H2 => tx σ H2 fun z H3 => ∃ (kvs : List (List Key × V)) (k : List Key) (b : Addr), H3 a = some (.dT kvs) ∧ y = .ref b ∧ H3 b = some (.tup (k.map kV)) ∧ kvs.length < sizeLine ∧
  (∀ v, valV kvs k = some v → Q v H3) ∧ (valV kvs k = none → Q z (upd H3 a (.dT (putK kvs k z))))
section
variable {X : Cx} {o e f : Expr} {td ty tx : TE} {apos cpos : Pos}
theorem pe_dsetdT (hu : X.A.units + 1 < cLine) (ho : PE X o td) (he : PE X e ty) (hf : PE X f tx) (m : M2 X o "setdefault" apos e f cpos) : PE X (.Call (.Attribute o "setdefault" apos) [e, f] [] cpos) (tDSetdT td ty tx) := by
  refine ⟨fun pins s σ H Q I h => ?_⟩
  refine wpAny_Call_method m.base m.few m.line PySem.F.plainAttrs_dict PySem.F.slot_dict_setdefault PySem.F.type_dict_setdefault (thn (ho.run pins s σ H _ I h) fun u s1 ⟨x, H1, I1, rx, a, ex, d, q1⟩ => ?_)
  subst ex
  obtain rfl : u = Value.ref a := rx
  obtain ⟨t1, t2, _⟩ := isD_at I1 d
  refine ⟨t1, t2, ?_⟩
  rw [m.trees]
  refine Calls.callWith_builtin rfl (Calls.evalArgs_plain (Calls.spliced_cons (thn (he.run pins s1 σ H1 _ I1 q1) fun iv s2 ⟨y, H2, I2, ry, q2⟩ =>
    Calls.spliced_cons (thn (hf.run pins s2 σ H2 _ I2 q2) fun fv s3 ⟨z, H3, I3, rz, kvs, k, b, ea, ey, eb, hl, q3, q4⟩ => Calls.spliced_nil ?_))))
  subst ey
  obtain rfl : iv = Value.ref b := ry
  exact d_setdT hu I3 ea eb rz hl (fun v hv w' s4 I4 rw' => ⟨v, _, I4, rw', q3 v hv⟩) fun hn w' s4 I4 rw' => ⟨z, _, I4, rw', q4 hn⟩
end
end L2
namespace L3
open PySem PySem.Spec PyProof.Rows L2
section
variable {X : Cx} {B : Bs} {a b c : Expr} {wd wk wv w wo : WE} {pos pos' apos : Pos}
theorem viewT_rd {B : Bs} {K : PySem.W.Frag} {env : Envd} {σ : L2.St} {W : Wd} {H : Hp} {M : Mem} {v : V} {d : D} {kvs : List (List Key × D)} (R : Rl B K env σ W H M) (r : Rep K W v d) (h : viewT M d = some kvs) : ∃ a, v = .ref a ∧ IsD H a := by
  obtain ⟨p, ys, rfl, hp, _⟩ := viewT_at R r h
  exact ⟨p, rfl, .inr ⟨ys, hp⟩⟩
/-- d.get(k) -/
def wGet1 (wd wk : WE) : WE := fun env M Q E => wd env M (fun x M1 => (∃ kvs, viewT M1 x = some kvs) ∧ wk env M1 (fun y M2 => match viewT M2 x, keyD y with
  | some kvs, some k => Q ((dgetD kvs k).getD .non) M2
  | _, _ => False) E) E
theorem de_get1 (hu : X.A.units + 1 < cLine) (hd : DE X B a wd) (hk : DE X B b wk) (m : M1 X a "get" apos b pos := by exact ⟨rfl, rfl, rfl, rfl⟩) : DE X B (.Call (.Attribute a "get" apos) [b] [] pos) (wGet1 wd wk) := fun E tk => (pe_dget1 hu (hd E tk) (hk E tk) m).imp fun σ H Q h => by
  obtain ⟨env, W, M, Q', R, q, k⟩ := h
  refine ⟨env, W, M, _, R, q, fun v H1 W1 d M1 R1 s1 r1 q1 => ?_⟩
  obtain ⟨⟨kvs0, e0⟩, q1⟩ := q1
  obtain ⟨p, rfl, hp⟩ := viewT_rd R1 r1 e0
  refine ⟨p, rfl, hp, env, W1, M1, _, R1, q1, fun v2 H2 W2 d2 M2 R2 s2 r2 q2 => ?_⟩
  split at q2
  · rename_i kvs ky e1 e2
    obtain ⟨p', ys, ep, hp, rr⟩ := viewT_at R2 (Rep.mono s2.le _ _ r1) e1
    cases ep
    obtain ⟨bb, rfl, hb⟩ := key_at R2.fit.fz r2 e2
    refine ⟨_, dget_t hp hb, ?_⟩
    obtain ⟨h1, h2⟩ := RepK.get (k := ky) rr
    cases e : dgetD kvs ky with
    | none =>
      rw [e] at q2
      rw [h2 e]
      exact k _ _ _ _ _ R2 (s1.trans s2) .non q2
    | some dd =>
      rw [e] at q2
      obtain ⟨vv, ev, rv⟩ := h1 dd e
      rw [ev]
      exact k _ _ _ _ _ R2 (s1.trans s2) rv q2
  · exact q2.elim
/-- d.get(k, x) -/
def wGet2 (wd wk wv : WE) : WE := fun env M Q E => wd env M (fun x M1 => (∃ kvs, viewT M1 x = some kvs) ∧ wk env M1 (fun y M2 => wv env M2 (fun z M3 => match viewT M3 x, keyD y with
  | some kvs, some k => Q ((dgetD kvs k).getD z) M3
  | _, _ => False) E) E) E
theorem de_get2 (hu : X.A.units + 1 < cLine) (hd : DE X B a wd) (hk : DE X B b wk) (hv : DE X B c wv) (m : M2 X a "get" apos b c pos := by exact ⟨rfl, rfl, rfl, rfl⟩) : DE X B (.Call (.Attribute a "get" apos) [b, c] [] pos) (wGet2 wd wk wv) := fun E tk => (pe_dget2 hu (hd E tk) (hk E tk) (hv E tk) m).imp fun σ H Q h => by
  obtain ⟨env, W, M, Q', R, q, k⟩ := h
  refine ⟨env, W, M, _, R, q, fun v H1 W1 d M1 R1 s1 r1 q1 => ?_⟩
  obtain ⟨⟨kvs0, e0⟩, q1⟩ := q1
  obtain ⟨p, rfl, hp⟩ := viewT_rd R1 r1 e0
  refine ⟨p, rfl, hp, env, W1, M1, _, R1, q1, fun v2 H2 W2 d2 M2 R2 s2 r2 q2 => ⟨env, W2, M2, _, R2, q2, fun v3 H3 W3 d3 M3 R3 s3 r3 q3 => ?_⟩⟩
  split at q3
  · rename_i kvs ky e1 e2
    have s23 := s2.trans s3
    obtain ⟨p', ys, ep, hp, rr⟩ := viewT_at R3 (Rep.mono s23.le _ _ r1) e1
    cases ep
    obtain ⟨bb, rfl, hb⟩ := key_at R3.fit.fz (Rep.mono s3.le _ _ r2) e2
    refine ⟨_, dget_t hp hb, ?_⟩
    obtain ⟨h1, h2⟩ := RepK.get (k := ky) rr
    cases e : dgetD kvs ky with
    | none =>
      rw [e] at q3
      rw [h2 e]
      exact k _ _ _ _ _ R3 (s1.trans s23) r3 q3
    | some dd =>
      rw [e] at q3
      obtain ⟨vv, ev, rv⟩ := h1 dd e
      rw [ev]
      exact k _ _ _ _ _ R3 (s1.trans s23) rv q3
  · exact q3.elim
/-- d.setdefault(k, x), d of the store -/
def wSetd (wd wk wv : WE) : WE := fun env M Q E => wd env M (fun x M1 => (∃ kvs, viewT M1 x = some kvs) ∧ wk env M1 (fun y M2 => wv env M2 (fun z M3 => match x, keyD y with
  | .ref r, some k => match M3[r]? with
    | some (.dic kvs) => kvs.length < sizeLine ∧ match dgetD kvs k with
      | some d => Q d M3
      | none => Q z (M3.set r (.dic (dputD kvs k z)))
    | _ => False
  | _, _ => False) E) E) E
theorem de_setd (hu : X.A.units + 1 < cLine) (hd : DE X B a wd) (hk : DE X B b wk) (hv : DE X B c wv) (m : M2 X a "setdefault" apos b c pos := by exact ⟨rfl, rfl, rfl, rfl⟩) : DE X B (.Call (.Attribute a "setdefault" apos) [b, c] [] pos) (wSetd wd wk wv) := fun E tk => (pe_dsetdT hu (hd E tk) (hk E tk) (hv E tk) m).imp fun σ H Q h => by
  obtain ⟨env, W, M, Q', R, q, k⟩ := h
  refine ⟨env, W, M, _, R, q, fun v H1 W1 d M1 R1 s1 r1 q1 => ?_⟩
  obtain ⟨⟨kvs0, e0⟩, q1⟩ := q1
  obtain ⟨p, rfl, hp⟩ := viewT_rd R1 r1 e0
  refine ⟨p, rfl, hp, env, W1, M1, _, R1, q1, fun v2 H2 W2 d2 M2 R2 s2 r2 q2 => ⟨env, W2, M2, _, R2, q2, fun v3 H3 W3 d3 M3 R3 s3 r3 q3 => ?_⟩⟩
  split at q3
  · rename_i r ky e2
    split at q3
    · rename_i kvs em
      obtain ⟨hl, q3⟩ := q3
      have s23 := s2.trans s3
      cases Rep.mono s23.le _ _ r1 with
      | ref hi =>
        obtain ⟨hz, ys, e1, rr⟩ := R3.fit.obj r _ _ hi em
        obtain ⟨bb, rfl, hb⟩ := key_at R3.fit.fz (Rep.mono s3.le _ _ r2) e2
        obtain ⟨g1, g2⟩ := RepK.get (k := ky) rr
        refine ⟨ys, ky, bb, e1, rfl, hb, by rw [rr.length]; exact hl, fun v hv => ?_, fun hn => ?_⟩
        · cases e : dgetD kvs ky with
          | none => rw [g2 e] at hv; cases hv
          | some dd =>
            rw [e] at q3
            obtain ⟨vv, ev, rv⟩ := g1 dd e
            rw [ev] at hv
            cases hv
            exact k _ _ _ _ _ R3 (s1.trans s23) rv q3
        · cases e : dgetD kvs ky with
          | some dd =>
            obtain ⟨vv, ev, rv⟩ := g1 dd e
            rw [ev] at hn; cases hn
          | none =>
            rw [e] at q3
            have rput := RepK.put (k := ky) r3 rr
            obtain ⟨R4, s4⟩ := R3.write (m := .dic (dputD kvs ky d3)) (o := .dT (putK ys ky v3)) hi hz rfl ⟨hz, _, upd_same, rput⟩
            exact k _ _ _ _ _ R4 ((s1.trans s23).trans s4) (Rep.mono s4.le _ _ r3) q3
    · exact q3.elim
  · exact q3.elim
/-- x.count(y) of strings -/
def wCount (wo w : WE) : WE := fun env M Q E => wo env M (fun o M1 => (∃ x, o = .str x) ∧ w env M1 (fun d M2 => match o, d with
  | .str x, .str y => Q (.int (Txt.count x y)) M2
  | _, _ => False) E) E
theorem de_count (ho : DE X B a wo) (h : DE X B b w) (hbase : attributeBase a "count" X.env (eval a X.env) = eval a X.env := by rfl)
    (hfew : ((backTo pos (starEach [b] X.env)).all (fun x => !x.1) && (backToKw pos (keywordEach [] X.env)).all (fun x => x.1.isSome)
      && decide ([b].length + ([] : List Keyword).length + (if ([] : List Keyword).isEmpty then 0 else 1) < 30)) = true := by rfl)
    (hline : (apos.endLine == pos.line) = true := by rfl) (hs : starEach [b] X.env = (false, eval b X.env) :: starEach [] X.env := by rfl) (hplain : (backTo pos (starEach [] X.env)).any (·.1) = false := by rfl) : DE X B (.Call (.Attribute a "count" apos) [b] [] pos) (wCount wo w) := fun E tk =>
  (pe_bm PySem.F.plainAttrs_str PySem.F.slot_str_count PySem.F.type_str_count mt_count (ho E tk) (pa_cons (h E tk) pa_nil hs) hbase hfew hline hs hplain).imp fun σ H Q h => by
    obtain ⟨env, W, M, Q', R, q, k⟩ := h
    refine ⟨env, W, M, _, R, q, fun v H1 W1 d M1 R1 s1 r1 q1 => ?_⟩
    obtain ⟨⟨x, rfl⟩, q1⟩ := q1
    cases r1
    refine ⟨rfl, env, W1, M1, _, R1, q1, fun v2 H2 W2 d2 M2 R2 s2 r2 q2 => ?_⟩
    cases d2 <;> first | exact q2.elim | skip
    cases r2
    exact ⟨_, _, rfl, rfl, k _ _ _ _ _ R2 (s1.trans s2) (.int _) q2⟩
end
end L3
set_option maxRecDepth 100000
set_option maxHeartbeats 1000000
/-! L4D: defs of a law that make lambdas; `is` of two truths. -/
namespace L3
open PySem PySem.Spec PyProof.Rows L2 HotX L2H LamX
section
variable {X : Cx} {B : Bs} {a b : Expr} {wa wb : WE} {pos : Pos}
def oIsB : OpD := fun x y M Q => match x, y with
  | .bl a, .bl b => Q (.bl (decide (a = b)))
  | _, _ => False
theorem de_isB (ha : DE X B a wa) (hb : DE X B b wb) (hm : behindInMarks .Is b = false := by rfl) : DE X B (.Compare a [.Is] [b] pos) (wOp oIsB wa wb) := by
  refine de_cmp op_is_bl ?_ ha hb hm
  intro env σ W H M x y dx dy Q Q' R rx ry q k
  dsimp only [oIsB] at q
  split at q
  · cases rx
    cases ry
    exact ⟨_, _, rfl, rfl, k _ _ _ _ R .refl (.bl _) q⟩
  · exact q.elim
end
/-- a contract over tables of code objects -/
def spDT (K : PySem.W.Frag) (mg : Str → Option Value) (tb : List (Addr × Str)) (n : Nat) (ct : CtD) : Sp := fun vs H Q E => ∃ (W : Wd) (M : Mem) (ds : List D) (Q' : KD) (E' : ExK), Fits K W H M ∧ LamX.Tabs tb H ∧ Reps K W vs ds ∧ ds.length = n ∧ ct ds M Q' E' ∧
  (∀ v H' W' d M', Fits K W' H' M' → LamX.Tabs tb H' → Since tb W H W' H' → Rep K W' v d → Q' d M' → Q v H') ∧
  (∀ x cls dx H' W' M', Fits K W' H' M' → LamX.Tabs tb H' → Since tb W H W' H' → ExnR K mg W' H' x cls dx → E' x M' → E cls dx H')
structure DFnT (tb : List (Addr × Str)) (P : Program) (w : World) (K : PySem.W.Frag) (mg : Str → Option Value) (base : Heap) (x : Str) (n k : Nat) (ct : CtD) : Prop where
  ex : ∃ (f : Addr) (fd : FuncData) (ps : List Str), mg x = some (.ref f) ∧ PySem.W.keepIn K (.ref f) = true ∧ Binds K fd ps [] ∧ FnOk P w K mg base (L2N.CX P w) k f fd ps (spDT K mg tb n ct)
section
variable {X : Cx} {B : Bs} {e : Expr} {es : List Expr} {z : WA} {pos : Pos}
theorem de_callT {x : Str} {n k : Nat} {ct : CtD} {p : Pos} {tb : List (Addr × Str)} (F : DFnT tb X.prog X.w X.K X.mg X.base x n k ct) (hB : B.tb = tb) (hr : Room k X.A) (hg : Gl X x) (ha : DA X B (e :: es) z) (hdb : (x == ("__debug__" : Str)) = false := by decide)
    (he : starEach (e :: es) X.env = (false, eval e X.env) :: starEach es X.env := by rfl) (hpl : (backTo pos (starEach es X.env)).any (·.1) = false := by rfl) : DE X B (.Call (.Name x p) (e :: es) [] pos) (wCall n ct z) := fun E tk => by
  obtain ⟨f, fd, ps, hm, hk, hb, F⟩ := F.ex
  refine (pe_call (dvs := []) (E := fun cls d H' => wxD X B E cls d [] H') F hr hg hm hk hb .nil (L2N.passes_call tk fun _ _ _ _ h => h) (ha E tk) hdb he hpl).imp fun σ H Q h => ?_
  obtain ⟨env, W, M, Q', R, q, k⟩ := h
  refine ⟨env, W, M, _, R, q, fun vs H1 W1 ds M1 R1 s1 r1 q1 => ?_⟩
  show spDT X.K X.mg tb n ct (vs ++ []) H1 Q _
  rw [List.append_nil]
  subst hB
  refine ⟨W1, M1, ds, Q', E, R1.fit, R1.tabs, r1, q1.1, q1.2, fun v H' W' d M' f t s r q' => ?_, fun x cls dx H' W' M' f t s xr q' => ?_⟩
  · exact k v H' W' d M' (R1.step f s t) (s1.trans s) r q'
  · exact ⟨W', M', x, f, R1.sin.trans s, t, xr, q'⟩
end
section
variable {P : Program} {w : World} {K : PySem.W.Frag} {mg : Str → Option Value} {base : Heap}
/-- a def at the top whose code object is at c -/
def LamAtD (K : PySem.W.Frag) (mg : Str → Option Value) (x : Str) (st : Stmt) (ps : List Str) (c : Addr) : Prop := ∃ (f : Addr) (oc : Value) (od an : Option Addr) (osl : Array (Option Value)) (kV doc pm cv : Value), mg x = some (.ref f) ∧
  K.lookup f = some ⟨oc, od, .func (PySem.W.fnOf x x (defArgs st) (defBody st) (defScope st) .none kV doc pm an (.ref c) cv), osl⟩ ∧ PySem.W.codeIn K (.ref c) x = true ∧ PySem.W.keepIn K (.ref f) = true ∧
  Binds K (PySem.W.fnOf x x (defArgs st) (defBody st) (defScope st) .none kV doc pm an (.ref c) cv) ps []
theorem lamAt_mk {h : Heap} {x : Str} {st : Stmt} {ps : List Str} {f c : Addr} {oc : Value} {od an : Option Addr} {osl : Array (Option Value)} {kV doc pm ct : Value} (X : K.In h) (G : h.Ns mainGlobals mg) (a : PySem.W.nsIn K mainGlobals x = some (some (.ref f)))
    (l : K.lookup f = some ⟨oc, od, .func (PySem.W.fnOf x x (defArgs st) (defBody st) (defScope st) .none kV doc pm an (.ref c) ct), osl⟩) (hc : PySem.W.codeIn K (.ref c) x = true) (k : PySem.W.keepIn K (.ref f) = true)
    (b : ∀ (kV doc pm : Value) (an : Option Addr) (cdv ct : Value) (us : List Value), us.length = ps.length → bindArgs (PySem.W.fnOf x x (defArgs st) (defBody st) (defScope st) .none kV doc pm an cdv ct) ⟨us, []⟩ = pure (ps.zip us)) : LamAtD K mg x st ps c :=
  ⟨f, oc, od, an, osl, kV, doc, pm, ct, PySem.W.mg_of X G a, l, hc, k, Fun.binds (fun_mk l hc k) b⟩
theorem fnok_lamT {st : Stmt} {f c : Addr} {N ps : List Str} {k n : Nat} {oc : Value} {od an : Option Addr} {osl : Array (Option Value)} {kV doc pm cv : Value} {x : Str} {tb : List (Addr × Str)} {ct : CtD} {wb : WS}
    (l : K.lookup f = some ⟨oc, od, .func (PySem.W.fnOf x x (defArgs st) (defBody st) (defScope st) .none kV doc pm an (.ref c) cv), osl⟩) (hc : PySem.W.codeIn K (.ref c) x = true) (S : FnScope N ps (defScope st)) (hn : ps.length = n)
    (hbody : ∀ (A : Around) (outer : List Env) (s : Shared) (H : Hp) (E : XK) (B : Bs), B.tb = tb → Room k (A.deeper (envOfC x (defScope st) s.heap.objs.size f (.ref c))) → DSs (cxOf (L2N.CX P w) P w K mg base N x (defScope st) f (.ref c) A outer s H E) B (defBody st) wb)
    (hct : ∀ ds M Q E, ds.length = n → ct ds M Q E → wb (startD N ds) M { nx := fun _ M' => Q .non M', rt := Q, bk := fun _ _ => False, ct := fun _ _ => False } E) :
    FnOk P w K mg base (L2N.CX P w) (k + 1) f (PySem.W.fnOf x x (defArgs st) (defBody st) (defScope st) .none kV doc pm an (.ref c) cv) ps (spDT K mg tb n ct) := by
  refine fn_of l hc S (fun vs H Q E h => ?_) fun A outer s H vs Q E hr h => ?_
  · obtain ⟨W, M, ds, Q', E', ft, t, r, hl, _⟩ := h
    rw [r.length, hl, hn]
  · obtain ⟨W, M, ds, Q', E', ft, t, r, hl, q, k1, k2⟩ := h
    have tk : TakesD (cxOf (L2N.CX P w) P w K mg base N x (defScope st) f (.ref c) A outer s H E) ⟨tb, W, H⟩ E' :=
      (L2N.takes_of (X := cxOf (L2N.CX P w) P w K mg base N x (defScope st) f (.ref c) A outer s H E) (E := E) rfl rfl rfl rfl).imp fun cls d σ H' h => by
        obtain ⟨W', M', xx, f', s', t', xr, q'⟩ := h
        exact k2 xx cls d H' W' M' f' t' s' xr q'
    refine ⟨_, hbody A outer s H E ⟨tb, W, H⟩ rfl hr E' tk, startD N ds, W, M, _, ⟨ft, start_env r, .refl, t⟩, hct ds M Q' E' hl q, ?_, ?_, ?_, ?_⟩
    · exact fun env' σ' W' H' M' R' s' q' => k1 _ _ _ _ _ R'.fit R'.tabs s' .non q'
    · exact fun v H' W' d M' f' t' s' r' q' => k1 _ _ _ _ _ f' t' s' r' q'
    · exact fun env' σ' W' H' M' R' s' q' => q'.elim
    · exact fun env' σ' W' H' M' R' s' q' => q'.elim
theorem fnok_lamG {st : Stmt} {f c : Addr} {N ps : List Str} {k n : Nat} {oc : Value} {od an : Option Addr} {osl : Array (Option Value)} {kV doc pm cv : Value} {x : Str} {tb : List (Addr × Str)} {ct : CtD} {wb : WS}
    (l : K.lookup f = some ⟨oc, od, .func (PySem.W.fnOf x x (defArgs st) (defBody st) (defScope st) .none kV doc pm an (.ref c) cv), osl⟩) (hc : PySem.W.codeIn K (.ref c) x = true) (S : FnScope N ps (defScope st)) (hn : ps.length = n)
    (hbody : ∀ (A : Around) (outer : List Env) (s : Shared) (H : Hp) (E : XK) (B : Bs), B.tb = tb → Room k (A.deeper (envOfC x (defScope st) s.heap.objs.size f (.ref c))) → DSs (cxOf (L2N.CX P w) P w K mg base N x (defScope st) f (.ref c) A outer s H E) B (defBody st) wb)
    (hct : ∀ ds M Q E, ds.length = n → ct ds M Q E → sGc wb (startD N ds) M { nx := fun _ M' => Q .non M', rt := Q, bk := fun _ _ => False, ct := fun _ _ => False } E) :
    FnOk P w K mg base (L2N.CX P w) (k + 1) f (PySem.W.fnOf x x (defArgs st) (defBody st) (defScope st) .none kV doc pm an (.ref c) cv) ps (spDT K mg tb n ct) := by
  refine fn_of l hc S (fun vs H Q E h => ?_) fun A outer s H vs Q E hr h => ?_
  · obtain ⟨W, M, ds, Q', E', ft, t, r, hl, _⟩ := h
    rw [r.length, hl, hn]
  · obtain ⟨W, M, ds, Q', E', ft, t, r, hl, q, k1, k2⟩ := h
    obtain ⟨E2, hE⟩ : ∃ E2 : ExK, (fun (x : Exn) (M' : Mem) => GcOk M M' ∧ (match x.arg with | none => true | some (_, d) => d.under M.length) = true ∧ E' x (M'.take M.length)) = E2 := ⟨_, rfl⟩
    have tk : TakesD (cxOf (L2N.CX P w) P w K mg base N x (defScope st) f (.ref c) A outer s H E) ⟨tb, W, H⟩ E2 :=
      (L2N.takes_of (X := cxOf (L2N.CX P w) P w K mg base N x (defScope st) f (.ref c) A outer s H E) (E := E) rfl rfl rfl rfl).imp fun cls d σ H' h => by
        obtain ⟨W', M', xx, f', s', t', xr, q'⟩ := h
        rw [← hE] at q'
        obtain ⟨g1, g2, g3⟩ := q'
        obtain ⟨fc, sc⟩ := gc_fits ft f' s' g1
        refine k2 xx cls d H' _ _ fc t' sc ⟨xr.1, ?_⟩ g3
        have x2 := xr.2
        cases ea : xx.arg with
        | none => rw [ea] at x2; exact x2
        | some p =>
          obtain ⟨fn, dd⟩ := p
          rw [ea] at x2 g2
          obtain ⟨pp, v, e1, e2, rr⟩ := x2
          exact ⟨pp, v, e1, e2, Rep.cut _ _ _ rr g2⟩
    have q2 : wb (startD N ds) M { nx := fun _ M' => GcOk M M' ∧ Q' .non (M'.take M.length), rt := fun d M' => GcOk M M' ∧ d.under M.length = true ∧ Q' d (M'.take M.length), bk := fun _ _ => False, ct := fun _ _ => False } E2 := by
      rw [← hE]
      exact hct ds M Q' E' hl q
    refine ⟨_, hbody A outer s H E ⟨tb, W, H⟩ rfl hr E2 tk, startD N ds, W, M, _, ⟨ft, start_env r, .refl, t⟩, q2, ?_, ?_, ?_, ?_⟩
    · intro env' σ' W' H' M' R' s' q'
      obtain ⟨fc, sc⟩ := gc_fits ft R'.fit s' q'.1
      exact k1 _ _ _ _ _ fc R'.tabs sc .non q'.2
    · intro v H' W' d M' f' t' s' r' q'
      obtain ⟨fc, sc⟩ := gc_fits ft f' s' q'.1
      exact k1 _ _ _ _ _ fc t' sc (Rep.cut _ _ _ r' q'.2.1) q'.2.2
    · exact fun env' σ' W' H' M' R' s' q' => q'.elim
    · exact fun env' σ' W' H' M' R' s' q' => q'.elim
theorem dfnT_of {x : Str} {st : Stmt} {c : Addr} {N ps : List Str} {k n : Nat} {tb : List (Addr × Str)} {ct : CtD} {wb : WS} (L : LamAtD K mg x st ps c) (S : FnScope N ps (defScope st)) (hn : ps.length = n)
    (hbody : ∀ (f : Addr) (A : Around) (outer : List Env) (s : Shared) (H : Hp) (E : XK) (B : Bs), B.tb = tb → Room k (A.deeper (envOfC x (defScope st) s.heap.objs.size f (.ref c))) → DSs (cxOf (L2N.CX P w) P w K mg base N x (defScope st) f (.ref c) A outer s H E) B (defBody st) wb)
    (hct : ∀ ds M Q E, ds.length = n → ct ds M Q E → wb (startD N ds) M { nx := fun _ M' => Q .non M', rt := Q, bk := fun _ _ => False, ct := fun _ _ => False } E) : DFnT tb P w K mg base x n (k + 1) ct := by
  obtain ⟨f, oc, od, an, osl, kV, doc, pm, cv, hm, l, hc, hk, hb⟩ := L
  exact ⟨f, _, ps, hm, hk, hb, fnok_lamT l hc S hn (hbody f) hct⟩
theorem dfnT_gc {x : Str} {st : Stmt} {c : Addr} {N ps : List Str} {k n : Nat} {tb : List (Addr × Str)} {ct : CtD} {wb : WS} (L : LamAtD K mg x st ps c) (S : FnScope N ps (defScope st)) (hn : ps.length = n)
    (hbody : ∀ (f : Addr) (A : Around) (outer : List Env) (s : Shared) (H : Hp) (E : XK) (B : Bs), B.tb = tb → Room k (A.deeper (envOfC x (defScope st) s.heap.objs.size f (.ref c))) → DSs (cxOf (L2N.CX P w) P w K mg base N x (defScope st) f (.ref c) A outer s H E) B (defBody st) wb)
    (hct : ∀ ds M Q E, ds.length = n → ct ds M Q E → sGc wb (startD N ds) M { nx := fun _ M' => Q .non M', rt := Q, bk := fun _ _ => False, ct := fun _ _ => False } E) : DFnT tb P w K mg base x n (k + 1) ct := by
  obtain ⟨f, oc, od, an, osl, kV, doc, pm, cv, hm, l, hc, hk, hb⟩ := L
  exact ⟨f, _, ps, hm, hk, hb, fnok_lamG l hc S hn (hbody f) hct⟩
/-- a def that makes no lambda, and calls one that does -/
theorem dfnT_plain {x qual : Str} {st : Stmt} {f : Addr} {fd : FuncData} {N ps : List Str} {k n : Nat} {tb : List (Addr × Str)} {ct : CtD} {wb : WS} (F : Fun K x qual st f fd) (hm : mg x = some (.ref f)) (hb : Binds K fd ps []) (S : FnScope N ps (defScope st)) (hn : ps.length = n)
    (hbody : ∀ (cdv : Value) (A : Around) (outer : List Env) (s : Shared) (H : Hp) (E : XK) (B : Bs), B.tb = tb → Room k (A.deeper (envOfC qual (defScope st) s.heap.objs.size f cdv)) →
      DSs (cxOf (L2N.CX P w) P w K mg base N qual (defScope st) f cdv A outer s H E) B (defBody st) wb)
    (hct : ∀ ds M Q E, ds.length = n → ct ds M Q E → wb (startD N ds) M { nx := fun _ M' => Q .non M', rt := Q, bk := fun _ _ => False, ct := fun _ _ => False } E) : DFnT tb P w K mg base x n (k + 1) ct := by
  refine ⟨f, fd, ps, hm, F.kp, hb, ?_⟩
  refine okN F S (fun vs H Q E h => ?_) fun cdv A outer s H vs Q E hr h => ?_
  · obtain ⟨W, M, ds, Q', E', ft, t, r, hl, _⟩ := h
    rw [r.length, hl, hn]
  · obtain ⟨W, M, ds, Q', E', ft, t, r, hl, q, k1, k2⟩ := h
    have tk : TakesD (cxOf (L2N.CX P w) P w K mg base N qual (defScope st) f cdv A outer s H E) ⟨tb, W, H⟩ E' :=
      (L2N.takes_of (X := cxOf (L2N.CX P w) P w K mg base N qual (defScope st) f cdv A outer s H E) (E := E) rfl rfl rfl rfl).imp fun cls d σ H' h => by
        obtain ⟨W', M', xx, f', s', t', xr, q'⟩ := h
        exact k2 xx cls d H' W' M' f' t' s' xr q'
    refine ⟨_, hbody cdv A outer s H E ⟨tb, W, H⟩ rfl hr E' tk, startD N ds, W, M, _, ⟨ft, start_env r, .refl, t⟩, hct ds M Q' E' hl q, ?_, ?_, ?_, ?_⟩
    · exact fun env' σ' W' H' M' R' s' q' => k1 _ _ _ _ _ R'.fit R'.tabs s' .non q'
    · exact fun v H' W' d M' f' t' s' r' q' => k1 _ _ _ _ _ f' t' s' r' q'
    · exact fun env' σ' W' H' M' R' s' q' => q'.elim
    · exact fun env' σ' W' H' M' R' s' q' => q'.elim
end
/-- the law, that makes lambdas, as do defs that it calls; cs: code objects and tables -/
theorem lawAt_lamT {l : PySem.W.OpenLaw} {w : World} {K : PySem.W.Frag} {mg : Str → Option Value} {h : Heap} {fa f c : Addr} {st : Stmt} {N : List Str} {k n : Nat} {oc : Value} {od an : Option Addr} {osl : Array (Option Value)} {kV doc pm cv : Value} {ct : CtD} {wb : WS} (cs : List (Addr × Addr)) (tb : List (Addr × Str))
    (KX : K.In h) (G : h.Ns mainGlobals mg) (hmg : mg "law" = some (.ref fa)) (hP : ∀ p ∈ cs, h.get? p.2 = some (PySem.W.tabObj #[])) (htb : ∀ p ∈ tb, ∃ q ∈ cs, q.2 = p.1) (S : FnScope N ["_law_script"] (defScope st)) (a : PySem.W.nsIn K mainGlobals "law" = some (some (.ref f)))
    (lk : K.lookup f = some ⟨oc, od, .func (PySem.W.fnOf "law" "law" (defArgs st) (defBody st) (defScope st) .none kV doc pm an (.ref c) cv), osl⟩) (hc : PySem.W.codeIn K (.ref c) "law" = true) (nK : ∀ p ∈ cs, K.lookup p.2 = none) (cH : ∀ p ∈ cs, PySem.W.codeHdIn K p.1 p.2 = true)
    (b : ∀ (kV doc pm : Value) (an : Option Addr) (cdv ct : Value) (us : List Value), us.length = 1 → bindArgs (PySem.W.fnOf "law" "law" (defArgs st) (defBody st) (defScope st) .none kV doc pm an cdv ct) ⟨us, []⟩ = pure ((["_law_script"] : List Str).zip us))
    (hbody : ∀ (base : Heap), (∀ p ∈ cs, TabB base mg p.1 p.2) → ∀ (A : Around) (outer : List Env) (s : Shared) (H : Hp) (E : XK) (B : Bs), B.tb = tb → Room k (A.deeper (envOfC "law" (defScope st) s.heap.objs.size f (.ref c))) → DSs (cxOf (L2N.CX l.prog w) l.prog w K mg base N "law" (defScope st) f (.ref c) A outer s H E) B (defBody st) wb)
    (hct : ∀ ds M Q E, ds.length = 1 → ct ds M Q E → wb (startD N ds) M { nx := fun _ M' => Q .non M', rt := Q, bk := fun _ _ => False, ct := fun _ _ => False } E)
    (q : ∀ ns : List Int, ns.length ≤ n → (∀ z ∈ ns, Builtin.Int.intBits z ≤ 1048576) → ct [.scr ns] [] (fun d _ => d = .bl true) noE) : LawAtS l w K (L2N.CX l.prog w) (k + 1) n "_law_script" mg fa h := by
  have e := hmg.symm.trans (PySem.W.mg_of KX G a)
  cases e
  refine ⟨_, cs, spDT K mg tb 1 ct, fun p hp => hP p hp, fun p hp => nK p hp, fun p hp => PySem.W.codeHd_of_K KX (cH p hp), fun s u => ?_, fun H a ns hl hb hT hS => ?_, fun base hK hn hTB => fnok_lamT lk hc S rfl (hbody base hTB) hct⟩
  · exact .of_eq (b _ _ _ _ _ _ [u] rfl)
  · have := law_script (tb := tb) (mg := mg) (ct := ct) (fun p hp => by
      obtain ⟨q, hq, e⟩ := htb p hp
      rw [← e]
      exact hT q hq) hS (q ns hl hb)
    obtain ⟨W, M, ds, Q', E', f1, t1, r1, n1, c1, k1, k2⟩ := this
    exact ⟨W, M, ds, Q', E', f1, t1, r1, n1, c1, fun v H' W' d M' f _ s r q => k1 v H' W' d M' f s r q, fun x cls dx H' W' M' f _ s xr q => k2 x cls dx H' W' M' f s xr q⟩
end L3
set_option maxRecDepth 100000
set_option maxHeartbeats 1000000
/-! L4E: list(range(a, b)). -/
namespace L3
open PySem PySem.Spec PyProof.Rows L2
section
variable {X : Cx} {B : Bs} {a b : Expr} {wa wb : WE} {pos p1 p2 pos2 : Pos}
def fListR (wa wb : WE) : WF := fun env M Q E => wa env M (fun x M1 => wb env M1 (fun y M2 => match x, y with
  | .int i, .int j => RgOk i j ∧ Q (rangeD i (j - i).toNat) M2
  | _, _ => False) E) E
theorem reps_range {K : PySem.W.Frag} {W : Wd} {i j : Int} : Reps K W (rgV i j) (rangeD i (j - i).toNat) := by
  unfold rgV rangeD
  generalize List.range (j - i).toNat = l
  induction l with
  | nil => exact .nil
  | cons x l ih => exact .cons (.int _) ih
theorem df_listR (hc : X.calm = true) (hg : Gl X "list") (hm : X.mg "list" = none) (hg2 : Gl X "range") (hm2 : X.mg "range" = none) (ha : DE X B a wa) (hb : DE X B b wb)
    (n1 : starEach [.Call (.Name "range" p2) [a, b] [] pos2] X.env = (false, eval (.Call (.Name "range" p2) [a, b] [] pos2) X.env) :: starEach [] X.env := by rfl) (na : starEach [a, b] X.env = (false, eval a X.env) :: starEach [b] X.env := by rfl)
    (nb : starEach [b] X.env = (false, eval b X.env) :: starEach [] X.env := by rfl) (hp : (backTo pos2 (starEach [b] X.env)).any (·.1) = false := by rfl) :
    DF X B (.Call (.Name "list" p1) [.Call (.Name "range" p2) [a, b] [] pos2] [] pos) (fListR wa wb) := fun E tk =>
  (pe_listRg hc hg hm (prg_2 hg2 hm2 (ha E tk) (hb E tk) na nb hp) n1).imp fun σ H Q h => by
    obtain ⟨env, W, M, Q', R, q, k⟩ := h
    refine ⟨env, W, M, _, R, q, fun v H1 W1 d M1 R1 s1 r1 q1 => ⟨env, W1, M1, _, R1, q1, fun v2 H2 W2 d2 M2 R2 s2 r2 q2 => ?_⟩⟩
    split at q2
    · rename_i i j
      cases r1
      cases r2
      refine ⟨_, _, rfl, rfl, q2.1, fun l hl => ?_⟩
      obtain ⟨R', s', hz, hr⟩ := R2.bare (o := .lst (rgV i j)) hl rfl
      have s12 := s1.trans s2
      exact k l _ _ _ _ _ R' (s12.trans s') (s12.frees (fre_none hl)) upd_same hz hr reps_range q2.2
    · exact q2.elim
end
end L3
set_option maxRecDepth 100000
set_option maxHeartbeats 1000000
/-! L4F: a tuple, once or more. -/
namespace L2
open PySem PySem.Spec PyProof.Rows
theorem tuple_mul1 (l : Addr) (items : Array Value) (n : Nat) (dd : Option Addr) (sl : Array (Option Value)) (u : Tok) :
    Meets (Builtin.«tuple.__mul__» ⟨[.ref l, .int 1 u], []⟩) (fun _ R s => s.heap.get? l = some { cls := .type "tuple", dict := dd, data := .seq items n, slots := sl } ∧
      R (.ok (.ret (Value.ref l))) s) :=
  .of_wp fun prog w A R s h => by
    obtain ⟨hp, g, d, tk, os⟩ := s
    obtain ⟨hl, h⟩ := h
    have f1 := AutoSeq1.idx_int
    have c0 : (decide ((1 : Int) < -(2 ^ 63)) || decide ((1 : Int) ≥ 2 ^ 63)) = false := by decide
    have c1 : (items.isEmpty || (1 : Int) == 1) = true := by simp
    wp_walk using wpAny_loadPart' hl
    repeat (first
      | (refine wpAny_ite_false (decide_eq_false (by rw [c0]; exact Bool.false_ne_true)) ?_; wp_walk using wpAny_loadPart' hl)
      | (refine wpAny_ite_true (decide_eq_true c1) ?_; wp_walk using wpAny_loadPart' hl))
    exact ⟨_, rfl, h⟩
theorem op_rep1 {X : Cx} : OpR X (binaryOp .Mult) (fun x y H Q => ∃ l xs, x = .ref l ∧ y = .int 1 ∧ SqT X.K H l xs ∧ Q (.ref l) H) := by
  intro pins s σ H x y v u Q I rx ry h
  obtain ⟨l, xs, rfl, rfl, hT, q⟩ := h
  cases rx
  obtain ⟨t, rfl⟩ := ry
  obtain ⟨its, r, ⟨⟨cls, dd, data, sl⟩, ho, hc, n, hd⟩, hs⟩ := I.tuple hT
  simp only at hc hd
  subst hc hd
  refine wpAny_binaryOp_repeat_ref (T := "tuple") (U := "int") (by decide) ⟨_, ho, rfl⟩ (fun s' => typeIs_int s' 1 t) noFill_tuple_mul F.fills_int_mul F.slot_int_rmul repeat_tuple F.slot_int_index.lookup
    (call_meets F.slot_int_rmul (typeIs_int s 1 t) F.entry_int_rmul (F.args_int_rmul_2 _ _) (int_rmul_tuple 1 t l its.toArray n dd sl)
      ⟨ho, rfl, ⟨_, ho, rfl⟩, call_meets F.slot_tuple_mul ⟨_, ho, rfl⟩ F.entry_tuple_mul (F.args_tuple_mul_2 _ _) (tuple_mul1 l its.toArray n dd sl t) ⟨ho, ?_⟩⟩)
  exact ⟨.ref l, H, I, rfl, q⟩
def rRepU (K : PySem.W.Frag) : R2 := fun x y H Q => ∃ l k xs, x = .ref l ∧ y = .int k ∧ SqT K H l xs ∧ xs ≠ [] ∧ 2 ≤ k ∧ k ≤ 1000000 ∧ xs.length * k.toNat ≤ 1000000 ∧ ∀ p, H p = none → Q (.ref p) (upd H p (.tup (List.replicate k.toNat xs).flatten))
theorem op_repU {X : Cx} : OpR X (binaryOp .Mult) (rRepU X.K) := by
  intro pins s σ H x y v u Q I rx ry h
  obtain ⟨l, k, xs, rfl, rfl, hT, hne, h1, h2, hz, q⟩ := h
  cases rx
  obtain ⟨t, rfl⟩ := ry
  obtain ⟨its, r, ⟨⟨cls, dd, data, sl⟩, ho, hc, n, hd⟩, hs⟩ := I.tuple hT
  simp only at hc hd
  subst hc hd
  have hle : its.length = xs.length := r.length.symm
  have hn : its ≠ [] := fun e => hne (by
    rw [e] at hle
    exact List.eq_nil_of_length_eq_zero hle.symm)
  have hi : its.toArray.isEmpty = false := by
    cases its with
    | nil => exact absurd rfl hn
    | cons a b => rfl
  have hsz0 : its.toArray.size = xs.length := by rw [List.size_toArray, hle]
  have hm : ((its.toArray.size : Nat) : Int) * k ≤ 1000000 := by
    rw [hsz0]
    have e : ((xs.length : Nat) : Int) * k = ((xs.length * k.toNat : Nat) : Int) := by push_cast; rw [Int.toNat_of_nonneg (by omega)]
    omega
  have hz2 : k.toNat * xs.length ≤ 1000000 := by rw [Nat.mul_comm]; exact hz
  have flen : (List.replicate k.toNat its).flatten.length ≤ sizeLine := by
    rw [PyProof.Rows.lm_len_rep_flat, hle, sizeLine_eq]
    omega
  have c0 : (decide (k < -(2 ^ 63)) || decide (k ≥ 2 ^ 63)) = false := by
    rw [decide_eq_false (by omega), decide_eq_false (by omega)] <;> rfl
  have c1 : (its.toArray.isEmpty || k == 1) = false := by
    rw [hi, Bool.false_or]
    exact beq_eq_false_iff_ne.mpr (by omega)
  have c2 : (decide (k ≤ 0) || its.toArray.isEmpty) = false := by
    rw [hi, Bool.or_false]
    exact decide_eq_false (by omega)
  have c4 : Builtin.Tuple.tupleTooMany (((its.toArray.size : Nat) : Int) * k) = false := by
    unfold Builtin.Tuple.tupleTooMany
    rw [sizeLine_eq]
    exact decide_eq_false (by omega)
  refine wpAny_binaryOp_repeat_ref (T := "tuple") (U := "int") (by decide) ⟨_, ho, rfl⟩ (fun s' => typeIs_int s' k t) noFill_tuple_mul F.fills_int_mul F.slot_int_rmul repeat_tuple F.slot_int_index.lookup
    (call_meets F.slot_int_rmul (typeIs_int s k t) F.entry_int_rmul (F.args_int_rmul_2 _ _) (int_rmul_tuple k t l its.toArray n dd sl)
      ⟨ho, rfl, ⟨_, ho, rfl⟩, call_meets F.slot_tuple_mul ⟨_, ho, rfl⟩ F.entry_tuple_mul (F.args_tuple_mul_2 _ _) (tuple_mulW l its.toArray n dd sl k t c0 c1 c2 (by omega) c4 (by rw [size_rep, List.size_toArray]; exact flen)) ⟨ho, ?_⟩⟩)
  rw [size_rep]
  refine ⟨.ref s.heap.objs.size, _, I.laid (t' := s.toks) (o := .tup (List.replicate k.toNat xs).flatten) (fun b ob q => Heap.get?_push_of_some _ q) (Nat.le_refl _) ?_, rfl, q _ (I.hok.fresh (Nat.le_refl _))⟩
  exact ⟨by rw [PyProof.Rows.lm_len_rep_flat, sizeLine_eq]; omega, _, r.rep k.toNat, IsTup.new _ _⟩
end L2
namespace L3
open PySem PySem.Spec PyProof.Rows L2
section
variable {X : Cx} {B : Bs} {a b : Expr} {wa wb : WE} {pos : Pos}
/-- a tuple, once or more -/
def oMulU : OpD := fun x y _ Q => match x, y with
  | .tup ds, .int j => (j = 1 ∧ Q (.tup ds)) ∨ (ds ≠ [] ∧ 2 ≤ j ∧ j ≤ 1000000 ∧ ds.length * j.toNat ≤ 1000000 ∧ Q (.tup (List.replicate j.toNat ds).flatten))
  | _, _ => False
theorem de_mulU (ha : DE X B a wa) (hb : DE X B b wb) : DE X B (.BinOp a .Mult b pos) (wOp oMulU wa wb) := by
  refine de_op (OpR.or op_rep1 op_repU) ?_ ha hb
  intro env σ W H M x y dx dy Q Q' R rx ry q k
  dsimp only [oMulU] at q
  split at q
  · rename_i ds j
    cases ry
    obtain ⟨p, xs, rfl, e1, _, r1⟩ := tup_at R rx
    rcases q with ⟨rfl, q⟩ | ⟨h1, h2, h3, h4, q⟩
    · exact .inl ⟨p, xs, rfl, rfl, SqT.of e1, k _ _ _ _ R .refl rx q⟩
    · refine .inr ⟨p, _, xs, rfl, rfl, SqT.of e1, fun z => h1 ?_, h2, h3, by rw [r1.length]; exact h4, fun n hn => ?_⟩
      · have := r1.length
        rw [z] at this
        exact List.eq_nil_of_length_eq_zero this.symm
      obtain ⟨R', s'⟩ := R.laid (o := .tup (List.replicate _ xs).flatten) hn
      exact k _ _ _ _ R' s' (.tup upd_same (Reps.mono s'.le _ _ (r1.rep _))) q
  · exact q.elim
end
end L3
set_option maxRecDepth 100000
set_option maxHeartbeats 1000000
/-! L4G: len of a set of ints or of tuples of ints; sorted(set of tuples of ints). -/
namespace L2
open PySem PySem.Spec PyProof.Rows
theorem dedup_spec : ∀ (ns acc : List Int), acc.Nodup → (ns.foldl step_dedup acc).Nodup ∧ ∀ x, x ∈ ns.foldl step_dedup acc ↔ x ∈ acc ∨ x ∈ ns
  | [], acc, h => ⟨h, fun x => by simp⟩
  | n :: ns, acc, h => by
    rw [List.foldl_cons]
    unfold step_dedup
    by_cases e : acc.any (· == n) = true
    · rw [if_pos e]
      have hm : n ∈ acc := by
        obtain ⟨y, hy, e⟩ := List.any_eq_true.mp e
        rw [← beq_iff_eq.mp e]; exact hy
      obtain ⟨a, b⟩ := dedup_spec ns acc h
      refine ⟨a, fun x => (b x).trans ⟨fun z => z.imp id (List.mem_cons_of_mem _), fun z => ?_⟩⟩
      rcases z with z | z
      · exact .inl z
      · rcases List.mem_cons.mp z with rfl | z
        · exact .inl hm
        · exact .inr z
    · rw [if_neg e]
      have hm : n ∉ acc := fun z => e (List.any_eq_true.mpr ⟨n, z, beq_iff_eq.mpr rfl⟩)
      obtain ⟨a, b⟩ := dedup_spec ns (acc ++ [n]) (List.nodup_append.mpr ⟨h, by simp, fun x hx y hy => by rw [List.mem_singleton.mp hy]; exact fun z => hm (z ▸ hx)⟩)
      refine ⟨a, fun x => (b x).trans ?_⟩
      rw [List.mem_append, List.mem_singleton, List.mem_cons, or_assoc]
theorem met_eq (ns : List Int) : firstMet (fun i => ns.getD i 0) ns.length = ns.foldl step_dedup [] := by
  unfold firstMet
  congr 1
  refine List.ext_getElem? fun i => ?_
  rw [List.getElem?_map]
  by_cases h : i < ns.length
  · rw [List.getElem?_range h, List.getElem?_eq_getElem h]
    simp [List.getD_eq_getElem?_getD, List.getElem?_eq_getElem h]
  · rw [List.getElem?_eq_none (by simpa using h), List.getElem?_eq_none (by simpa using h)]
    rfl
section
variable {X : Cx}
def tLenSetG (K : PySem.W.Frag) (ta : TE) : TE := fun σ H Q => ta σ H fun x H1 => ∃ (l : Addr) (ns : List Int), x = V.ref l ∧ SqL K H1 l (ns.map V.int) ∧ ns.length < 64 ∧ ∀ res : List Int, res.Nodup → (∀ x, x ∈ res ↔ x ∈ ns) → Q (.int res.length) H1
theorem pe_lenSetG {a : Expr} {ta : TE} {p p2 q pos : Pos} (hc : X.calm = true) (hg : Gl X "len") (hm : X.mg "len" = none) (hg2 : Gl X "set") (hm2 : X.mg "set" = none) (ha : PE X a ta)
    (na : starEach [a] X.env = (false, eval a X.env) :: starEach [] X.env := by rfl) : PE X (.Call (.Name "len" p) [.Call (.Name "set" p2) [a] [] q] [] pos) (tLenSetG X.K ta) := by
  refine ⟨fun pins s σ H Q I h => ?_⟩
  refine Call_ (ld_blt I hg hm PySem.boot_len ?_)
  refine PyProof.Rows.callWith_builtin1 (PyProof.Rows.args_cons ?_ rfl) rfl rfl
  refine Call_ (ld_blt I hg2 hm2 PyProof.Rows.boot_set ?_)
  refine PyProof.Rows.callWith_type1 (PyProof.Rows.args_cons (thn (ha.run pins s σ H _ I h) fun v s1 ⟨x, H1, I1, r1, q1⟩ => PyProof.Rows.args_nil ?_) na) na rfl
  obtain ⟨l, ns, rfl, hq, h1, q1⟩ := q1
  cases r1
  obtain ⟨its, r, pl, hz⟩ := I1.list hq
  have hl : its.toArray.size = ns.length := by rw [List.size_toArray, ← r.length, List.length_map]
  refine call_set_list (I1.ok.hd hc) pl.isList (ns := ns) (by simpa using r.ints) (by unfold scanBound; omega) fun h' tk hS hk => ?_
  rw [hl, met_eq] at hS
  obtain ⟨d1, d2⟩ := dedup_spec ns [] List.nodup_nil
  have d3 : (ns.foldl step_dedup []).length ≤ ns.length := by rw [← met_eq]; exact firstMet_length_le _ _
  have q2 := q1 (ns.foldl step_dedup []) d1 (fun x => (d2 x).trans (by simp))
  generalize ns.foldl step_dedup [] = res at hS d3 q2
  refine PyProof.Rows.args_nil ?_
  obtain ⟨o, es, ep, t, ho, hex, hd, _, _, _, hf, hn⟩ := hS
  have I2 : Inv X pins σ H1 { s1 with heap := h', toks := tk } := I1.kept fun b o e => hk b o (Heap.lt_size e) e
  refine call_len_set ho hex hd hf (by rw [hn] <;> omega) ⟨.int res.length, H1, I2.tok _, ⟨_, by rw [hn]⟩, q2⟩
theorem call_lenT : CallR X (.builtin "len") (fun xs H Q => ∃ (a : Addr) (L : List (Addr × List Int)), xs = [V.ref a] ∧ H a = some (SetTO X.prog X.w a L) ∧ (∀ p ∈ L, SqT X.K H p.1 (p.2.map V.int)) ∧ ((L.map (·.2)).Nodup → Q (.int L.length) H)) := by
  intro pins s σ H vs us Q I r h
  obtain ⟨a, L, rfl, ha, hk, q⟩ := h
  have R0 : SetT0 X.prog X.w s.heap a L := (I.hok a _ ha).1
  obtain ⟨es, ep, t, R⟩ := R0.full fun p hp => I.isT (hk p hp)
  rw [Vals.ref1 r]
  obtain ⟨o, ho, hex, hd⟩ := R.ob
  have hs := R.size
  refine call_len_set ho hex hd R.fits (by have := R.few; omega) ?_
  exact ⟨.int L.length, H, I.tok _, ⟨_, by rw [hs]⟩, q R.nd⟩
end
end L2
namespace L3
open PySem PySem.Spec PyProof.Rows L2
def tupI (ns : List Int) : D := .tup (ns.map .int)
theorem reps_tupI {K : PySem.W.Frag} {W : Wd} : ∀ {nss : List (List Int)} {vs : List V}, Reps K W vs (nss.map tupI) → ∃ ks : List (Addr × List Int), vs = ks.map (fun p => V.ref p.1) ∧ ks.map (·.2) = nss ∧ ∀ p ∈ ks, W.fz p.1 = some (.tup (p.2.map V.int))
  | [], _, h => by cases h; exact ⟨[], rfl, rfl, fun p hp => by cases hp⟩
  | ns :: nss, _, h => by
    cases h with
    | cons h r =>
      obtain ⟨ks, rfl, rfl, hk⟩ := reps_tupI r
      cases h with
      | tup hz rr =>
        rename_i a xs
        have e := Reps.ints_of rr
        subst e
        refine ⟨(a, ns) :: ks, rfl, rfl, fun p hp => ?_⟩
        rcases List.mem_cons.mp hp with rfl | hp
        · exact hz
        · exact hk p hp
section
variable {X : Cx} {B : Bs} {a : Expr} {wa : WE} {pos p p2 p3 q q2 : Pos}
theorem Rl.junk {K : PySem.W.Frag} {env : Envd} {σ : L2.St} {W : Wd} {H : Hp} {M : Mem} {s : Addr} {o : HO} (R : Rl B K env σ W H M) (h : H s = none) : Rl B K env σ W (upd H s o) M ∧ Since B.tb W H W (upd H s o) := by
  have s0 : Since B.tb W H W (upd H s o) := Since.refl.over (fre_none h)
  exact ⟨⟨R.fit.ext (.of fun b o h' => by rw [upd_ne (ne_of_none h' h)]; exact h'), R.env, R.sin.trans s0, tabs_upd R.tabs (.inl h)⟩, s0⟩
def wLenSetI (wa : WE) : WE := fun env M Q E => wa env M (fun x M1 => ∃ ns : List Int, x = .lst (ns.map .int) ∧ ns.length < 64 ∧ ∀ res : List Int, res.Nodup → (∀ y, y ∈ res ↔ y ∈ ns) → Q (.int res.length) M1) E
theorem de_lenSetI (hc : X.calm = true) (hg : Gl X "len") (hm : X.mg "len" = none) (hg2 : Gl X "set") (hm2 : X.mg "set" = none) (ha : DE X B a wa)
    (na : starEach [a] X.env = (false, eval a X.env) :: starEach [] X.env := by rfl) : DE X B (.Call (.Name "len" p) [.Call (.Name "set" p2) [a] [] q] [] pos) (wLenSetI wa) := fun E tk =>
  (pe_lenSetG hc hg hm hg2 hm2 (ha E tk) na).imp fun σ H Q h => by
    obtain ⟨env, W, M, Q', R, qq, k⟩ := h
    refine ⟨env, W, M, _, R, qq, fun v H1 W1 d M1 R1 s1 r1 q1 => ?_⟩
    obtain ⟨ns, rfl, hl, q2⟩ := q1
    cases r1 with
    | lst hz r =>
      have e := Reps.ints_of r
      subst e
      exact ⟨_, ns, rfl, .inl (.inl (R1.fit.fz _ _ hz)), hl, fun res h1 h2 => k _ _ _ _ _ R1 s1 (.int _) (q2 res h1 h2)⟩
def wLenSetT (wa : WE) : WE := fun env M Q E => wa env M (fun x M1 => ∃ nss : List (List Int), x = .lst (nss.map tupI) ∧ nss.length < 64 ∧ ∀ res : List (List Int), res.Nodup → (∀ y, y ∈ res ↔ y ∈ nss) → Q (.int res.length) M1) E
theorem de_lenSetT (hc : X.calm = true) (hu : X.A.units + 64 < cLine) (hg : Gl X "len") (hm : X.mg "len" = none) (hg2 : Gl X "set") (hm2 : X.mg "set" = none) (ha : DE X B a wa)
    (na : starEach [a] X.env = (false, eval a X.env) :: starEach [] X.env := by rfl) : DE X B (.Call (.Name "len" p) [.Call (.Name "set" p2) [a] [] q] [] pos) (wLenSetT wa) := fun E tk =>
  (pe_callB call_lenT hg hm (by decide +kernel) (pa_cons (pe_callTy (cr_setOfT hc hu) hg2 hm2 (by decide +kernel) (pa_cons (ha E tk) pa_nil na) (he := na) (hpl := rfl)) pa_nil) (he := rfl) (hpl := rfl)).imp fun σ H Q h => by
    obtain ⟨env, W, M, Q', R, qq, k⟩ := h
    refine ⟨env, W, M, _, R, qq, fun v H1 W1 d M1 R1 s1 r1 q1 => ?_⟩
    obtain ⟨nss, rfl, hl, q2⟩ := q1
    cases r1 with
    | lst hz r =>
      obtain ⟨ks, rfl, rfl, hk⟩ := reps_tupI r
      refine ⟨_, ks, rfl, .inl (.inl (R1.fit.fz _ _ hz)), fun p hp => SqT.of (R1.fit.fz _ _ (hk p hp)), by simpa using hl, fun s L hs h1 h2 => ?_⟩
      obtain ⟨R2, s2⟩ := R1.junk (o := SetTO X.prog X.w s L) hs
      refine ⟨s, L, rfl, upd_same, fun p hp => SqT.of (R2.fit.fz _ _ (hk p (h1 p hp))), fun nd => ?_⟩
      have := q2 (L.map (·.2)) nd fun y => ⟨fun hy => by
        obtain ⟨p, hp, rfl⟩ := List.mem_map.mp hy
        exact List.mem_map.mpr ⟨p, h1 p hp, rfl⟩, fun hy => by
        obtain ⟨p, hp, rfl⟩ := List.mem_map.mp hy
        exact h2 p hp⟩
      rw [List.length_map] at this
      exact k _ _ _ _ _ R2 (s1.trans s2) (.int _) this
def fSortSetT (wa : WE) : WF := fun env M Q E => wa env M (fun x M1 => ∃ (nss : List (List Int)) (d : Nat) (b : Int), x = .lst (nss.map tupI) ∧ nss.length < 64 ∧ 1 ≤ d ∧ (∀ ns ∈ nss, ns.length = d ∧ TS.Bd b ns) ∧ ∀ res : List (List Int), res.Nodup → (∀ y, y ∈ res ↔ y ∈ nss) → Q (res.map tupI) M1) E
theorem reps_of_ks {K : PySem.W.Frag} {W : Wd} : ∀ {L : List (Addr × List Int)}, (∀ p ∈ L, W.fz p.1 = some (.tup (p.2.map V.int))) → Reps K W (L.map fun p => V.ref p.1) ((L.map (·.2)).map tupI)
  | [], _ => .nil
  | p :: L, h => .cons (.tup (h p List.mem_cons_self) Reps.ints) (reps_of_ks fun q hq => h q (List.mem_cons_of_mem _ hq))
theorem df_sortSetT (hc : X.calm = true) (hu : X.A.units + 64 < cLine) (hg : Gl X "sorted") (hm : X.mg "sorted" = none) (hg2 : Gl X "set") (hm2 : X.mg "set" = none) (ha : DE X B a wa)
    (na : starEach [a] X.env = (false, eval a X.env) :: starEach [] X.env := by rfl) : DF X B (.Call (.Name "sorted" p) [.Call (.Name "set" p2) [a] [] q] [] pos) (fSortSetT wa) := fun E tk =>
  (pe_callB (cr_sortedT hc) hg hm (by decide +kernel) (pa_cons (pe_callTy (cr_setOfT hc hu) hg2 hm2 (by decide +kernel) (pa_cons (ha E tk) pa_nil na) (he := na) (hpl := rfl)) pa_nil) (he := rfl) (hpl := rfl)).imp fun σ H Q h => by
    obtain ⟨env, W, M, Q', R, qq, k⟩ := h
    refine ⟨env, W, M, _, R, qq, fun v H1 W1 d M1 R1 s1 r1 q1 => ?_⟩
    obtain ⟨nss, dd, b, rfl, hl, hd, hb, q2⟩ := q1
    cases r1 with
    | lst hz r =>
      obtain ⟨ks, rfl, rfl, hk⟩ := reps_tupI r
      refine ⟨_, ks, rfl, .inl (.inl (R1.fit.fz _ _ hz)), fun p hp => SqT.of (R1.fit.fz _ _ (hk p hp)), by simpa using hl, fun s L hs h1 h2 => ?_⟩
      obtain ⟨R2, s2⟩ := R1.junk (o := SetTO X.prog X.w s L) hs
      refine ⟨s, L, dd, b, rfl, upd_same, fun p hp => SqT.of (R2.fit.fz _ _ (hk p (h1 p hp))), hd, fun p hp => hb _ (List.mem_map.mpr ⟨p, h1 p hp, rfl⟩), fun L' p pm nd _ _ hp => ?_⟩
      obtain ⟨R3, s3, hz3, hr3⟩ := R2.bare (o := .lst (L'.map fun q => V.ref q.1)) hp rfl
      have := q2 (L'.map (·.2)) nd fun y => ⟨fun hy => by
        obtain ⟨p, hp, rfl⟩ := List.mem_map.mp hy
        exact List.mem_map.mpr ⟨p, h1 p (pm.mem_iff.mp hp), rfl⟩, fun hy => by
        obtain ⟨p, hp, rfl⟩ := List.mem_map.mp hy
        obtain ⟨p', hp', e⟩ := List.mem_map.mp (h2 p hp)
        exact List.mem_map.mpr ⟨p', pm.mem_iff.mpr hp', e⟩⟩
      exact k p _ _ _ _ _ R3 ((s1.trans s2).trans s3) ((s1.trans s2).frees (fre_none hp)) upd_same hz3 hr3 (reps_of_ks fun q hq => hk q (h1 q (pm.mem_iff.mp hq))) this
end
end L3
set_option maxRecDepth 100000
set_option maxHeartbeats 1000000
/-! L4H: a pair of ints, greater than another. -/
namespace L2
open PySem PySem.Spec PyProof.Rows
def rGtP (K : PySem.W.Frag) : R2 := fun x y H Q => ∃ (a b : Addr) (i j k l : Int), x = .ref a ∧ y = .ref b ∧ SqT K H a ([i, j].map V.int) ∧ SqT K H b ([k, l].map V.int) ∧
  Q (.bl (if i = k then decide (l < j) else decide (k < i))) H
theorem op_gtP {X : Cx} (hu : X.A.units < cLine) : OpR X (compareOp .Gt) (rGtP X.K) := by
  intro pins s σ H x y v u Q I rx ry h
  obtain ⟨a, b, i, j, k, l, rfl, rfl, ha, hb, q⟩ := h
  cases rx
  cases ry
  obtain ⟨its, r1, p1, _⟩ := I.tuple ha
  obtain ⟨its2, r2, p2, _⟩ := I.tuple hb
  have i1 : IntsAre its [i, j] := Vals.ints r1
  have i2 : IntsAre its2 [k, l] := Vals.ints r2
  have e1 : its.toArray.size = 2 := by rw [List.size_toArray]; exact i1.length
  have e2 : its2.toArray.size = 2 := by rw [List.size_toArray]; exact i2.length
  have at1 : ∀ n (h1 : n < its.toArray.size), ∃ t, its.toArray[n] = .int ([i, j].getD n 0) t := fun n h1 => PyProof.Rows.IntsAre.int_at i1 _ _ (by simp at h1; simp [h1])
  have at2 : ∀ n (h1 : n < its2.toArray.size), ∃ t, its2.toArray[n] = .int ([k, l].getD n 0) t := fun n h1 => PyProof.Rows.IntsAre.int_at i2 _ _ (by simp at h1; simp [h1])
  have R := Ob.RcOp.tuples_gt (A := X.A) (s := s) (e := fun n => decide ([i, j].getD n 0 = [k, l].getD n 0)) (r := fun n => decide ([i, j].getD n 0 > [k, l].getD n 0)) p1 p2 hu (fun n h1 h2 => by
    obtain ⟨t, et⟩ := at1 n h1
    obtain ⟨t', et'⟩ := at2 n h2
    rw [et, et']
    have z : ([i, j].getD n 0 == [k, l].getD n 0) = decide ([i, j].getD n 0 = [k, l].getD n 0) := by
      by_cases q : [i, j].getD n 0 = [k, l].getD n 0
      · rw [decide_eq_true q]; exact beq_iff_eq.mpr q
      · rw [decide_eq_false q]; exact beq_eq_false_iff_ne.mpr q
    rw [← z]
    exact SeqAt.EqAt.int_int _ _ _ _) (fun n h1 h2 _ => by
    obtain ⟨t, et⟩ := at1 n h1
    obtain ⟨t', et'⟩ := at2 n h2
    rw [et, et']
    exact Ob.RcOp.gt_int _ _ _ _)
  rw [e1, e2] at R
  have er : Ob.lexAt (fun n => decide ([i, j].getD n 0 = [k, l].getD n 0)) (fun n => decide ([i, j].getD n 0 > [k, l].getD n 0)) (decide (2 > 2)) 0 (min 2 2) = (if i = k then decide (l < j) else decide (k < i)) := by
    simp only [show min 2 2 = 2 from rfl, Ob.lexAt]
    by_cases h1 : i = k
    · by_cases h2 : j = l
      · simp [h1, h2, Ob.lexAt]
      · simp [h1, h2, Ob.lexAt]
    · simp [h1, Ob.lexAt]
  rw [er] at R
  have z : wpAny (model X.prog X.w) X.A (compareOp .Gt (.ref a) (.ref b)) (EP X pins σ Q) X.xe s := R X.prog X.w X.xe (EP X pins σ Q) ⟨.bl _, H, I, rfl, q⟩
  exact z
end L2
namespace L3
open PySem PySem.Spec PyProof.Rows L2
section
variable {X : Cx} {B : Bs} {a b : Expr} {wa wb : WE} {pos : Pos}
def oGtP : OpD := fun x y _ Q => match x, y with
  | .tup [.int i, .int j], .tup [.int k, .int l] => Q (.bl (if i = k then decide (l < j) else decide (k < i)))
  | _, _ => False
theorem lift_gtP {K : PySem.W.Frag} : Lift2 B K (rGtP K) oGtP := by
  intro env σ W H M x y dx dy Q Q' R rx ry q k
  dsimp only [oGtP] at q
  split at q
  · rename_i i j k' l
    obtain ⟨p, xs, rfl, e1, _, r1⟩ := tup_at R rx
    obtain ⟨p2, ys, rfl, e2, _, r2⟩ := tup_at R ry
    have z1 := Reps.ints_of (ns := [i, j]) r1
    have z2 := Reps.ints_of (ns := [k', l]) r2
    subst z1 z2
    exact ⟨p, p2, i, j, k', l, rfl, rfl, SqT.of e1, SqT.of e2, k _ _ _ _ R .refl (.bl _) q⟩
  · exact q.elim
theorem dt_gtP (hu : X.A.units < cLine) (ha : DE X B a wa) (hb : DE X B b wb) : DT X B (.Compare a [.Gt] [b] pos) (tstOp oGtP wa wb) := dt_cmp (op_gtP hu) lift_gtP ha hb
end
end L3
set_option maxRecDepth 100000
set_option maxHeartbeats 1000000
/-! L4I: bools in sums, not of a number, str of a bool, a tuple backwards, a def that calls itself. -/
namespace HT
open PySem PySem.Spec PyProof.Rows
section
variable {prog : Program} {w : World} {A : Around} {E : Value → Shared → Prop} {s : Shared}
theorem sliceApplied_rev {sl : Addr} {vl vu vs : Value} {n : Nat} {Q : Int × Int × Nat → Shared → Prop} (hs : s.heap.IsSliceOf sl vl vu vs) (pl : IsPart vl none) (pu : IsPart vu none) (ps : IsPart vs (some (-1)))
    (h : Q ((n : Int) - 1, -1, n) s) : wpAny (model prog w) A (Builtin.Slice.sliceApplied (.ref sl) (pure (n : Int))) Q E s := by
  obtain ⟨os, hos, hcs, hds⟩ := id hs
  unfold Builtin.Slice.sliceApplied Builtin.Slice.sliceFields
  refine wpAny_bind (wpAny_bind (wpAny_field hos hds (x := vl) rfl (wpAny_bind (wpAny_field hos hds (x := vu) rfl (wpAny_bind (wpAny_field hos hds (x := vs) rfl (wpAny_pure ?_)))))))
  refine wpAny_bind (slicePart_ ps ?_)
  show wpAny _ _ (if ((-1 : Int) == 0) = true then _ else _) _ _ s
  rw [if_neg (by decide)]
  refine wpAny_bind (slicePart_ pl (wpAny_bind (slicePart_ pu (wpAny_bind (wpAny_pure ?_)))))
  show wpAny _ _ (pure (((n : Int) - 1), (-1 : Int), Builtin.Slice.slicePlaces ((n : Int) - 1) (-1) (-1))) _ _ s
  have e : Builtin.Slice.slicePlaces ((n : Int) - 1) (-1) (-1) = n := by
    unfold Builtin.Slice.slicePlaces
    rw [if_neg (by decide)]
    split
    · have : ((n : Int) - 1 - -1 - 1) / (- -1) = (n : Int) - 1 := by rw [show (- -1 : Int) = 1 by decide, Int.ediv_one]; omega
      rw [this]; omega
    · omega
  rw [e]
  exact wpAny_pure h
theorem pick_rev (xs : Array Value) : ((List.range xs.size).filterMap fun (m : Nat) => xs[(((xs.size : Nat) : Int) - 1 + (m : Int) * (-1)).toNat]?).toArray = (xs.toList.reverse).toArray := by
  congr 1
  have e : ∀ m ∈ List.range xs.size, xs[(((xs.size : Nat) : Int) - 1 + (m : Int) * (-1)).toNat]? = xs.toList.reverse[m]? := fun m hm => by
    have hm := List.mem_range.mp hm
    rw [List.getElem?_reverse (by rw [Array.length_toList]; exact hm), Array.length_toList, Array.getElem?_toList]
    congr 1
    omega
  have cg : ∀ (l : List Nat) (f g : Nat → Option Value), (∀ m ∈ l, f m = g m) → l.filterMap f = l.filterMap g := fun l f g h => by
    induction l with
    | nil => rfl
    | cons a l ih => rw [List.filterMap_cons, List.filterMap_cons, h a List.mem_cons_self, ih fun m hm => h m (List.mem_cons_of_mem _ hm)]
  rw [cg _ _ _ e]
  have : ∀ (l : List Value), (List.range l.length).filterMap (fun m => l[m]?) = l := fun l => by
    induction l with
    | nil => rfl
    | cons a l ih =>
      rw [List.length_cons, List.range_succ_eq_map, List.filterMap_cons]
      simp only [List.getElem?_cons_zero]
      rw [List.filterMap_map]
      exact congrArg (a :: ·) ih
  have t := this xs.toList.reverse
  rw [List.length_reverse, Array.length_toList] at t
  exact t
theorem getItem_tuple_rev {t sl : Addr} {items : Array Value} {vl vu vs : Value} {Q : Value → Shared → Prop} (ht : IsTup s.heap t items) (hs : s.heap.IsSliceOf sl vl vu vs) (pl : IsPart vl none) (pu : IsPart vu none) (ps : IsPart vs (some (-1)))
    (h : Q (.ref s.heap.objs.size) { s with heap := s.heap.push { cls := .type "tuple", data := .seq (items.toList.reverse).toArray } })
    (hsz : items.size ≤ sizeLine) : wpAny (model prog w) A (getItem (.ref t) (.ref sl)) Q E s := by
  have htake : sizeOk (.seq (items.toList.reverse).toArray) := by
    show (items.toList.reverse).toArray.size ≤ sizeLine
    rw [List.size_toArray, List.length_reverse, Array.length_toList]
    exact hsz
  obtain ⟨os, hos, hcs, hds⟩ := id hs
  have hTs : s.TypeIs (.ref sl) "slice" := ⟨os, hos, hcs⟩
  unfold getItem
  try with_reducible refine wpAny_holding ?_
  first | refine wpAny_bind (wpAny_pure ?_) | skip
  refine wpAny_bind (wpAny_sequenceKey ht.typeIs (by decide) ?_)
  refine wpAny_bind (wpAny_callSpecial?_slot (name := Str.ofString "__getitem__") ht.typeIs PyProof.Rows.slot_tuple_getitem
    (wpAny_call_entry PyProof.Rows.slot_tuple_getitem ht.typeIs entry_tuple_getitem ?_ (args_tuple_getitem _ _)))
  show wpAny _ _ (Builtin.Tuple.tupleItemsOf (.ref t) >>= _) _ _ s
  refine wpAny_bind (tupleItemsOf_ ht ?_)
  refine wpAny_bind (wpAny_typeOf hTs ?_)
  rw [if_pos (by decide)]
  refine wpAny_bind (sliceApplied_rev hs pl pu ps ?_)
  have hno : ¬ ((((((items.size : Nat) : Int) - 1) == 0 && (-1 : Int) == 1 && items.size == items.size) = true)) := by
    intro q
    rw [Bool.and_eq_true, Bool.and_eq_true] at q
    exact absurd q.1.2 (by decide)
  show wpAny _ _ (if ((((items.size : Nat) : Int) - 1) == 0 && (-1 : Int) == 1 && items.size == items.size) = true then _ else _) _ _ s
  rw [if_neg hno, pick_rev]
  first
    | exact wpAny_bind (m := Builtin.Tuple.tupleExact _) (wpAny_newObj_type (wpAny_pure ⟨_, rfl, wpAny_pure h⟩) htake)
    | exact wpAny_bind (m := Builtin.Tuple.tupleExact _) (wpAny_newObj_type (wpAny_bind (wpAny_pure (wpAny_pure ⟨_, rfl, wpAny_pure h⟩))) htake)
    | exact wpAny_bind (wpAny_bind (m := Builtin.Tuple.tupleExact _) (wpAny_newObj_type (wpAny_pure (wpAny_pure ⟨_, rfl, wpAny_pure h⟩)) htake))
    | exact wpAny_bind (wpAny_bind (m := Builtin.Tuple.tupleExact _) (wpAny_newObj_type (wpAny_pure ⟨_, rfl, wpAny_pure h⟩) htake))
end
end HT
namespace L2
open PySem PySem.Spec PyProof.Rows
section
variable {X : Cx}
theorem op_add_bi : OpR X (binaryOp .Add) (fun x y H Q => ∃ (k : Bool) (i : Int), x = .bl k ∧ y = .int i ∧ Q (.int ((if k = true then (1 : Int) else 0) + i)) H) := by
  intro pins s σ H x y v u Q I rx ry h
  obtain ⟨k, i, rfl, rfl, q⟩ := h
  obtain ⟨t, rfl⟩ := ry
  cases rx
  exact PySem.IntBool.add_bool_int ⟨.int _, H, I.tok _, ⟨_, rfl⟩, q⟩
theorem op_sub_bi : OpR X (binaryOp .Sub) (fun x y H Q => ∃ (k : Bool) (i : Int), x = .bl k ∧ y = .int i ∧ Q (.int ((if k = true then (1 : Int) else 0) - i)) H) := by
  intro pins s σ H x y v u Q I rx ry h
  obtain ⟨k, i, rfl, rfl, q⟩ := h
  obtain ⟨t, rfl⟩ := ry
  cases rx
  exact PySem.IntBool.sub_bool_int ⟨.int _, H, I.tok _, ⟨_, rfl⟩, q⟩
theorem call_str_bl : CallR X (.type "str") (fun xs H Q => ∃ b : Bool, xs = [.bl b] ∧ Q (.str (if b then "True" else "False")) H) := by
  intro pins s σ H xs us Q I r h
  obtain ⟨b, rfl, q⟩ := h
  obtain ⟨u, rfl, r1⟩ := vals1 r
  cases r1
  exact PySem.P.str_of_bool ⟨.str _, H, I.tok _, ⟨_, rfl⟩, q⟩
def tRevT (K : PySem.W.Frag) (te : TE) : TE := fun σ H Q => te σ H fun x H1 => ∃ a xs, x = .ref a ∧ SqT K H1 a xs ∧ ∀ p, H1 p = none → Q (.ref p) (upd H1 p (.tup xs.reverse))
theorem pe_revT {e : Expr} {te : TE} {k : Nat} {p1 p2 p3 pos : Pos} (he : PE X e te) : PE X (.Subscript e (.Slice none none (some (.UnaryOp .USub (.Constant (.int 1) k p1) p2)) p3) pos) (tRevT X.K te) := by
  refine ⟨fun pins s σ H Q I h => ?_⟩
  refine Subscript_ (thn (he.run pins s σ H _ I h) fun v s1 ⟨x, H1, I1, r1, q1⟩ => ?_)
  obtain ⟨a, xs, ex, hx, q⟩ := q1
  subst ex
  cases r1
  have hst : PO X (some (.UnaryOp .USub (.Constant (.int 1) k p1) p2)) (tPart (tUn (rU fun i => .int (-i)) (tC (.int 1)))) := po_some (pe_un un_neg pe_int)
  refine wpAny_Slice (thn (po_none.run pins s1 σ H1 (fun o H2 => o = none ∧ H2 = H1) I1 ⟨rfl, rfl⟩) fun vl s2 ⟨l, H2, I2, pl, el, e2⟩ => ?_)
  subst el e2
  refine thn (po_none.run pins s2 σ H2 (fun o H3 => o = none ∧ H3 = H2) I2 ⟨rfl, rfl⟩) fun vu s3 ⟨u, H3, I3, pu, eu, e3⟩ => ?_
  subst eu e3
  refine thn (hst.run pins s3 σ H3 (fun o H4 => o = some (-1) ∧ H4 = H3) I3 ⟨1, rfl, -1, rfl, rfl, rfl⟩) fun vs s4 ⟨o, H4, I4, ps, eo, e4⟩ => ?_
  subst eo e4
  have I5 : Inv X pins σ H4 { s4 with heap := s4.heap.push { cls := .type "slice", data := .fields #[vl, vu, vs] } } := I4.kept (t' := s4.toks) fun b ob q => Heap.get?_push_of_some _ q
  obtain ⟨its, r, ht, hz⟩ := I5.tuple hx
  have hlen := r.length
  show wpAny (model X.prog X.w) X.A (subscriptTail e (.Slice none none (some (.UnaryOp .USub (.Constant (.int 1) k p1) p2)) p3) (.ref a) (.ref s4.heap.objs.size)) (EP X pins σ Q) X.xe { s4 with heap := s4.heap.push { cls := .type "slice", data := .fields #[vl, vu, vs] } }
  refine tail_any (ops := [.ref a, .ref s4.heap.objs.size]) ht.typeIs (PyProof.Rows.slot_tuple_getitem.lookup) ?_ (by with_unfolding_all rfl)
  refine HT.getItem_tuple_rev ht (Heap.IsSliceOf.new _ vl vu vs) pl pu ps ?_ (by rw [List.size_toArray]; omega)
  refine ⟨.ref _, _, I5.laid (t' := s4.toks) (o := .tup xs.reverse) (fun b ob q => Heap.get?_push_of_some _ q) (Nat.le_refl _) ?_, rfl, q _ (I5.hok.fresh (Nat.le_refl _))⟩
  exact ⟨by rw [List.length_reverse]; exact hz, _, r.reverse, IsTup.new _ _⟩
end
end L2
namespace L3
open PySem PySem.Spec PyProof.Rows L2
section
variable {X : Cx} {B : Bs} {e a b : Expr} {w wa wb : WE} {z : WA} {pos : Pos}
def oAddB : OpD := fun x y _ Q => match x, y with
  | .int i, .int j => Q (.int (i + j))
  | .bl k, .int j => Q (.int ((if k = true then (1 : Int) else 0) + j))
  | _, _ => False
theorem de_addB (ha : DE X B a wa) (hb : DE X B b wb) : DE X B (.BinOp a .Add b pos) (wOp oAddB wa wb) := by
  refine de_op (OpR.or op_add op_add_bi) ?_ ha hb
  intro env σ W H M x y dx dy Q Q' R rx ry q k
  dsimp only [oAddB] at q
  split at q
  · cases rx; cases ry
    exact .inl ⟨_, _, rfl, rfl, k _ _ _ _ R .refl (.int _) q⟩
  · cases rx; cases ry
    exact .inr ⟨_, _, rfl, rfl, k _ _ _ _ R .refl (.int _) q⟩
  · exact q.elim
def oSubB : OpD := fun x y _ Q => match x, y with
  | .int i, .int j => Q (.int (i - j))
  | .bl k, .int j => Q (.int ((if k = true then (1 : Int) else 0) - j))
  | _, _ => False
theorem de_subB (ha : DE X B a wa) (hb : DE X B b wb) : DE X B (.BinOp a .Sub b pos) (wOp oSubB wa wb) := by
  refine de_op (OpR.or op_sub op_sub_bi) ?_ ha hb
  intro env σ W H M x y dx dy Q Q' R rx ry q k
  dsimp only [oSubB] at q
  split at q
  · cases rx; cases ry
    exact .inl ⟨_, _, rfl, rfl, k _ _ _ _ R .refl (.int _) q⟩
  · cases rx; cases ry
    exact .inr ⟨_, _, rfl, rfl, k _ _ _ _ R .refl (.int _) q⟩
  · exact q.elim
/-- not of a number -/
def wNotB (wa : WE) : WE := fun env M Q E => wa env M (fun d M1 => match d with
  | .bl c => Q (.bl (!c)) M1
  | .int i => Q (.bl (!(i != 0))) M1
  | _ => False) E
theorem de_notB (ha : DE X B a wa) : DE X B (.UnaryOp .Not a pos) (wNotB wa) := fun E tk => (pe_notT (ha E tk)).imp fun σ H Q h => by
  obtain ⟨env, W, M, Q', R, q, k⟩ := h
  refine ⟨env, W, M, _, R, q, fun v H1 W1 d M1 R1 s1 r1 q1 => ?_⟩
  cases d <;> first | exact q1.elim | skip
  · cases r1
    exact ⟨_, rfl, k _ _ _ _ _ R1 s1 (.bl _) q1⟩
  · cases r1
    exact ⟨_, rfl, k _ _ _ _ _ R1 s1 (.bl _) q1⟩
/-- str of a number -/
def oStrB : OcD := fun ds _ Q => match ds with
  | [.int i] => i.natAbs.log2 < 1920 ∧ Q (.str (toString i))
  | [.bl b] => Q (.str (if b then "True" else "False"))
  | _ => False
theorem de_strB {p : Pos} (hg : Gl X "str") (hm : X.mg "str" = none) (ha : DA X B [a] z) (he : starEach [a] X.env = (false, eval a X.env) :: starEach [] X.env := by rfl) : DE X B (.Call (.Name "str" p) [a] [] pos) (wB oStrB z) :=
  de_bty (CallR.or call_str_int call_str_bl) (fun env σ W H M vs ds Q Q' R rs q k => by
    dsimp only [oStrB] at q
    split at q
    · cases rs with
      | cons r rr =>
        cases rr
        cases r
        exact .inl ⟨_, rfl, q.1, k _ _ _ _ R .refl (.str _) q.2⟩
    · cases rs with
      | cons r rr =>
        cases rr
        cases r
        exact .inr ⟨_, rfl, k _ _ _ _ R .refl (.str _) q⟩
    · exact q.elim) hg hm (by decide +kernel) ha (he := he) (hpl := rfl)
/-- a tuple backwards -/
def wRevT (w : WE) : WE := fun env M Q E => w env M (fun d M1 => match d with
  | .tup ds => Q (.tup ds.reverse) M1
  | _ => False) E
theorem de_revT {k : Nat} {p1 p2 p3 : Pos} (h : DE X B e w) : DE X B (.Subscript e (.Slice none none (some (.UnaryOp .USub (.Constant (.int 1) k p1) p2)) p3) pos) (wRevT w) := fun E tk => (pe_revT (h E tk)).imp fun σ H Q h => by
  obtain ⟨env, W, M, Q', R, q, k⟩ := h
  refine ⟨env, W, M, _, R, q, fun v H1 W1 d M1 R1 s1 r1 q1 => ?_⟩
  cases d <;> first | exact q1.elim | skip
  rename_i ds
  obtain ⟨p, xs, rfl, e1, _, rr⟩ := tup_at R1 r1
  refine ⟨p, xs, rfl, SqT.of e1, fun n hn => ?_⟩
  obtain ⟨R', s'⟩ := R1.laid (o := .tup xs.reverse) hn
  exact k _ _ _ _ _ R' (s1.trans s') (.tup upd_same (Reps.mono s'.le _ _ rr.reverse)) q1
end
/-- a def of which nothing is asked -/
theorem dfn_false {P : Program} {w : World} {K : PySem.W.Frag} {mg : Str → Option Value} {base : Heap} {x : Str} {st : Stmt} {ps : List Str} {k n : Nat} (T : DefAt K mg x st ps) : DFn P w K mg base x n k (fun _ _ _ _ => False) := by
  obtain ⟨f, fd, hm, F, hb⟩ := T
  refine ⟨f, fd, ps, hm, F.kp, hb, ⟨fun vs H Q E q => ?_, fun A outer s H args us vs Q E hr he hb hv q => ?_⟩⟩
  · obtain ⟨_, _, _, _, _, _, _, _, _, z, _⟩ := q
    exact z.elim
  · obtain ⟨_, _, _, _, _, _, _, _, _, z, _⟩ := q
    exact z.elim
end L3
set_option maxRecDepth 100000
set_option maxHeartbeats 1000000
/-! GA: shifts and mirrors of a line with rows, in plain Lean. -/
namespace L3.Gl
abbrev Pl := Int × Int
/-- least, side, pure -/
structure Tri where
  least : Int
  side : Int
  pur : Bool
  deriving DecidableEq
/-- the while of with_shift -/
def wsLoop : Nat → Int → Int → Int → Int → Int × Int × Int × Int
  | 0, l, s, t, o => (l, s, t, o)
  | k + 1, l, s, t, o => if t ≠ 0 ∧ l ≠ 0 then
      if t - t / l * l ≠ 0 then wsLoop k (t - t / l * l) ((o + t / l * s) % 2) l s else wsLoop k l s (t - t / l * l) ((o + t / l * s) % 2)
    else (l, s, t, o)
def wsEnd (p : Bool) (r : Int × Int × Int × Int) : Tri := if r.2.2.1 ≠ 0 then ⟨(r.2.2.1.natAbs : Nat), r.2.2.2, p⟩ else ⟨r.1, r.2.1, p || r.2.2.2 == 1⟩
def withShift (T : Tri) (late over : Int) : Tri := wsEnd T.pur (wsLoop (T.least.toNat + 1) T.least T.side late over)
def toldOf (ss : List Pl) : Tri := ss.foldl (fun T s => withShift T s.1 s.2) ⟨0, 0, false⟩

/-- a set of shifts that is a group -/
structure SubG (P : Int → Int → Prop) : Prop where
  z : P 0 0
  add : ∀ {a o b q}, P a o → P b q → P (a + b) (o + q)
  neg : ∀ {a o}, P a o → P (-a) (-o)
  two : ∀ {a o q}, P a o → (o - q) % 2 = 0 → P a q
theorem SubG.nat {P : Int → Int → Prop} (g : SubG P) {a o : Int} (h : P a o) : ∀ k : Nat, P (k * a) (k * o)
  | 0 => by simpa using g.z
  | k + 1 => by
    have e := g.add (g.nat h k) h
    have e1 : ((k + 1 : Nat) : Int) * a = k * a + a := by push_cast; rw [Int.add_mul, Int.one_mul]
    have e2 : ((k + 1 : Nat) : Int) * o = k * o + o := by push_cast; rw [Int.add_mul, Int.one_mul]
    rw [e1, e2]; exact e
theorem SubG.int {P : Int → Int → Prop} (g : SubG P) {a o : Int} (h : P a o) (k : Int) : P (k * a) (k * o) := by
  rcases Int.eq_nat_or_neg k with ⟨n, e | e⟩
  · rw [e]; exact g.nat h n
  · rw [e, Int.neg_mul, Int.neg_mul]; exact g.neg (g.nat h n)
theorem SubG.step {P : Int → Int → Prop} (g : SubG P) {l s t o q : Int} (hl : P l s) : P t o ↔ P (t - q * l) ((o + q * s) % 2) := by
  have h1 := g.int hl q
  constructor
  · intro h
    have h2 := g.add h (g.neg h1)
    refine g.two (o := o + -(q * s)) (by rw [Int.sub_eq_add_neg]; exact h2) ?_
    omega
  · intro h
    have h2 := g.add h h1
    rw [show t - q * l + q * l = t by omega] at h2
    exact g.two h2 (by omega)
theorem wsLoop_sub {P : Int → Int → Prop} (g : SubG P) : ∀ (k : Nat) (l s t o : Int), (P l s ∧ P t o) ↔ (P (wsLoop k l s t o).1 (wsLoop k l s t o).2.1 ∧ P (wsLoop k l s t o).2.2.1 (wsLoop k l s t o).2.2.2)
  | 0, _, _, _, _ => Iff.rfl
  | k + 1, l, s, t, o => by
    unfold wsLoop
    split
    · have e : (P l s ∧ P t o) ↔ (P l s ∧ P (t - t / l * l) ((o + t / l * s) % 2)) :=
        ⟨fun h => ⟨h.1, (g.step h.1).mp h.2⟩, fun h => ⟨h.1, (g.step h.1).mpr h.2⟩⟩
      split
      · rw [e, ← wsLoop_sub g k, and_comm]
      · rw [e, ← wsLoop_sub g k]
    · exact Iff.rfl
/-- how the while ends -/
theorem wsLoop_end : ∀ (k : Nat) (l s t o : Int), 0 ≤ l → (t ≠ 0 → l < k) → (s = 0 ∨ s = 1) → (o = 0 ∨ o = 1) → (l = 0 → s = 0) →
    ((wsLoop k l s t o).2.2.1 = 0 ∨ ((wsLoop k l s t o).1 = 0 ∧ l = 0)) ∧ 0 ≤ (wsLoop k l s t o).1 ∧ ((wsLoop k l s t o).2.1 = 0 ∨ (wsLoop k l s t o).2.1 = 1) ∧ ((wsLoop k l s t o).2.2.2 = 0 ∨ (wsLoop k l s t o).2.2.2 = 1) ∧ ((wsLoop k l s t o).1 = 0 → (wsLoop k l s t o).2.1 = 0)
  | 0, l, s, t, o, h0, h1, h2, h3, h4 => by
    unfold wsLoop
    refine ⟨?_, h0, h2, h3, h4⟩
    by_cases ht : t = 0
    · exact .inl ht
    · have := h1 ht; omega
  | k + 1, l, s, t, o, h0, h1, h2, h3, h4 => by
    unfold wsLoop
    split
    · rename_i hc
      have hl : 0 < l := by omega
      have e0 : t - t / l * l = t % l := by have := Int.mul_ediv_add_emod t l; rw [Int.mul_comm] at this; omega
      have e1 := Int.emod_nonneg t (show l ≠ 0 by omega)
      have e2 := Int.emod_lt_of_pos t hl
      have hk := h1 hc.1
      split
      · rename_i hn
        have ih := wsLoop_end k (t - t / l * l) ((o + t / l * s) % 2) l s (by omega) (by omega) (by omega) h2 (by omega)
        refine ⟨?_, ih.2⟩
        rcases ih.1 with h | h
        · exact .inl h
        · exact absurd h.2 hn
      · rename_i hn
        have hz : t - t / l * l = 0 := by omega
        have ih := wsLoop_end k l s (t - t / l * l) ((o + t / l * s) % 2) h0 (fun z => absurd hz z) h2 (by omega) h4
        refine ⟨?_, ih.2⟩
        rcases ih.1 with h | h
        · exact .inl h
        · omega
    · rename_i hc
      refine ⟨?_, h0, h2, h3, h4⟩
      by_cases ht : t = 0
      · exact .inl ht
      · have : l = 0 := by
          by_cases hl : l = 0
          · exact hl
          · exact absurd ⟨ht, hl⟩ hc
        exact .inr ⟨this, this⟩
structure Tri.Ok (T : Tri) : Prop where
  nn : 0 ≤ T.least
  bit : T.side = 0 ∨ T.side = 1
  zz : T.least = 0 → T.side = 0
/-- all the shifts of L lie in a group just if those of T do -/
def Tells (T : Tri) (L : Int → Int → Prop) : Prop := ∀ P : Int → Int → Prop, SubG P → ((∀ a o, L a o → P a o) ↔ (P T.least T.side ∧ (T.pur = true → P 0 1)))
theorem withShift_sub {T : Tri} (h : T.Ok) {late over : Int} (ho : over = 0 ∨ over = 1) : (withShift T late over).Ok ∧ ∀ P : Int → Int → Prop, SubG P →
    (((P T.least T.side ∧ (T.pur = true → P 0 1)) ∧ P late over) ↔ (P (withShift T late over).least (withShift T late over).side ∧ ((withShift T late over).pur = true → P 0 1))) := by
  have e := wsLoop_end (T.least.toNat + 1) T.least T.side late over h.nn (fun _ => by have := h.nn; omega) h.bit ho h.zz
  have sub := fun (P : Int → Int → Prop) (g : SubG P) => wsLoop_sub g (T.least.toNat + 1) T.least T.side late over
  unfold withShift wsEnd
  generalize wsLoop (T.least.toNat + 1) T.least T.side late over = r at e sub
  obtain ⟨l, s, t, o⟩ := r
  obtain ⟨e1, e2, e3, e4, e5⟩ := e
  dsimp only at e1 e2 e3 e4 e5 sub ⊢
  by_cases ht : t ≠ 0
  · rw [if_pos ht]
    have hl : l = 0 := by
      rcases e1 with h | h
      · exact absurd h ht
      · exact h.1
    have hs := e5 hl
    refine ⟨⟨by dsimp only; omega, e4, fun z => by dsimp only at z; omega⟩, fun P g => ?_⟩
    dsimp only
    have q := sub P g
    rw [hl, hs] at q
    have na : P t o ↔ P ((t.natAbs : Nat) : Int) o := by
      rcases Int.natAbs_eq t with w | w
      · rw [← w]
      · constructor
        · intro z
          have z' := g.neg z
          rw [show -t = ((t.natAbs : Nat) : Int) by omega] at z'
          exact g.two z' (by omega)
        · intro z
          have z' := g.neg z
          rw [show -((t.natAbs : Nat) : Int) = t by omega] at z'
          exact g.two z' (by omega)
    constructor
    · rintro ⟨⟨p1, p2⟩, p3⟩
      exact ⟨na.mp (q.mp ⟨p1, p3⟩).2, p2⟩
    · rintro ⟨p1, p2⟩
      obtain ⟨q1, q2⟩ := q.mpr ⟨g.z, na.mpr p1⟩
      exact ⟨⟨q1, p2⟩, q2⟩
  · rw [if_neg ht]
    have ht' : t = 0 := by omega
    refine ⟨⟨e2, e3, e5⟩, fun P g => ?_⟩
    dsimp only
    have q := sub P g
    rw [ht'] at q
    constructor
    · rintro ⟨⟨p1, p2⟩, p3⟩
      obtain ⟨q1, q2⟩ := q.mp ⟨p1, p3⟩
      refine ⟨q1, fun z => ?_⟩
      cases hp : T.pur with
      | true => exact p2 hp
      | false =>
        rw [hp, Bool.false_or, beq_iff_eq] at z
        rw [z] at q2
        exact q2
    · rintro ⟨p1, p2⟩
      have po : P 0 o := by
        rcases e4 with z | z
        · rw [z]; exact g.z
        · rw [z]; exact p2 (by rw [z]; simp)
      obtain ⟨q1, q2⟩ := q.mpr ⟨p1, po⟩
      exact ⟨⟨q1, fun z => p2 (by rw [z]; rfl)⟩, q2⟩
def Bits (ss : List Pl) : Prop := ∀ s ∈ ss, s.2 = 0 ∨ s.2 = 1
theorem foldl_sub : ∀ (ss : List Pl) (T : Tri), T.Ok → Bits ss → (ss.foldl (fun T s => withShift T s.1 s.2) T).Ok ∧ ∀ P : Int → Int → Prop, SubG P →
    (((P T.least T.side ∧ (T.pur = true → P 0 1)) ∧ ∀ s ∈ ss, P s.1 s.2) ↔ (P (ss.foldl (fun T s => withShift T s.1 s.2) T).least (ss.foldl (fun T s => withShift T s.1 s.2) T).side ∧ ((ss.foldl (fun T s => withShift T s.1 s.2) T).pur = true → P 0 1)))
  | [], T, h, _ => ⟨h, fun P g => by simp⟩
  | s :: ss, T, h, b => by
    obtain ⟨h1, h2⟩ := withShift_sub h (late := s.1) (b s List.mem_cons_self)
    obtain ⟨i1, i2⟩ := foldl_sub ss (withShift T s.1 s.2) h1 fun x hx => b x (List.mem_cons_of_mem _ hx)
    refine ⟨i1, fun P g => ?_⟩
    rw [List.foldl_cons, ← i2 P g, ← h2 P g, List.forall_mem_cons]
    constructor
    · rintro ⟨a, b, c⟩
      exact ⟨⟨a, b⟩, c⟩
    · rintro ⟨⟨a, b⟩, c⟩
      exact ⟨a, b, c⟩
theorem toldOf_ok {ss : List Pl} (b : Bits ss) : (toldOf ss).Ok := (foldl_sub ss ⟨0, 0, false⟩ ⟨by decide, .inl rfl, fun _ => rfl⟩ b).1
theorem toldOf_sub {ss : List Pl} (b : Bits ss) (P : Int → Int → Prop) (g : SubG P) : (∀ s ∈ ss, P s.1 s.2) ↔ (P (toldOf ss).least (toldOf ss).side ∧ ((toldOf ss).pur = true → P 0 1)) := by
  have := (foldl_sub ss ⟨0, 0, false⟩ ⟨by decide, .inl rfl, fun _ => rfl⟩ b).2 P g
  rw [← toldOf] at this
  rw [← this]
  constructor
  · exact fun h => ⟨⟨g.z, fun z => by cases z⟩, h⟩
  · exact fun h => h.2
/-- the shifts that a triple tells of -/
def told (T : Tri) (a o : Int) : Prop := ∃ k : Int, a = k * T.least ∧ (T.pur = true ∨ (o - k * T.side) % 2 = 0)
theorem told_sub (T : Tri) : SubG (told T) where
  z := ⟨0, by simp, .inr (by simp)⟩
  add := by
    rintro a o b q ⟨k, rfl, h⟩ ⟨m, rfl, h'⟩
    refine ⟨k + m, by rw [Int.add_mul], ?_⟩
    rcases h with h | h
    · exact .inl h
    · rcases h' with h' | h'
      · exact .inl h'
      · right; rw [Int.add_mul]; omega
  neg := by
    rintro a o ⟨k, rfl, h⟩
    refine ⟨-k, by rw [Int.neg_mul], ?_⟩
    rcases h with h | h
    · exact .inl h
    · right; rw [Int.neg_mul]; omega
  two := by
    rintro a o q ⟨k, rfl, h⟩ hq
    refine ⟨k, rfl, ?_⟩
    rcases h with h | h
    · exact .inl h
    · right; omega
theorem told_self (T : Tri) : told T T.least T.side := ⟨1, by simp, .inr (by simp)⟩
theorem told_pur {T : Tri} (h : T.pur = true) : told T 0 1 := ⟨0, by simp, .inl h⟩
theorem told_of_mem {ss : List Pl} (b : Bits ss) : ∀ s ∈ ss, told (toldOf ss) s.1 s.2 := (toldOf_sub b _ (told_sub _)).mpr ⟨told_self _, told_pur⟩
theorem told_le {T : Tri} {P : Int → Int → Prop} (g : SubG P) (h1 : P T.least T.side) (h2 : T.pur = true → P 0 1) {a o : Int} (h : told T a o) : P a o := by
  obtain ⟨k, rfl, h⟩ := h
  have hk := g.int h1 k
  by_cases e : (o - k * T.side) % 2 = 0
  · exact g.two hk (by omega)
  · have hp := h2 (h.resolve_right e)
    have := g.add hk hp
    rw [Int.add_zero] at this
    exact g.two this (by omega)
theorem told_of_sub {ss : List Pl} (b : Bits ss) {P : Int → Int → Prop} (g : SubG P) (h : ∀ s ∈ ss, P s.1 s.2) {a o : Int} (t : told (toldOf ss) a o) : P a o := by
  obtain ⟨h1, h2⟩ := (toldOf_sub b P g).mp h
  exact told_le g h1 h2 t

/-! ### places -/
def flip (R : Int) (o y : Int) : Int := if o % 2 = 1 then R - 1 - y else y
def sh (R a o : Int) (p : Pl) : Pl := (p.1 + a, flip R o p.2)
def mi (R m o : Int) (p : Pl) : Pl := (m - p.1, flip R o p.2)
theorem flip_flip (R o q y : Int) : flip R o (flip R q y) = flip R (o + q) y := by
  unfold flip
  split <;> split <;> split <;> omega
theorem flip_eq {R o q y : Int} (h : (o - q) % 2 = 0) : flip R o y = flip R q y := by
  unfold flip
  split <;> split <;> omega
theorem flip_zero {R y : Int} : flip R 0 y = y := by unfold flip; rw [if_neg (by decide)]
theorem sh_sh {R a o b q : Int} {p : Pl} : sh R a o (sh R b q p) = sh R (a + b) (o + q) p := by
  unfold sh
  dsimp only
  rw [flip_flip]
  congr 1
  omega
theorem sh_zero {R : Int} {p : Pl} : sh R 0 0 p = p := by unfold sh; rw [flip_zero, Int.add_zero]
theorem sh_eq {R a o q : Int} {p : Pl} (h : (o - q) % 2 = 0) : sh R a o p = sh R a q p := by unfold sh; rw [flip_eq h]
theorem mi_sh {R m o a q : Int} {p : Pl} : mi R m o (sh R a q p) = sh R (-a) q (mi R m o p) := by
  unfold sh mi
  dsimp only
  rw [flip_flip, flip_flip, Int.add_comm o q]
  congr 1
  omega
theorem mi_mi {R m o n q : Int} {p : Pl} : mi R m o (mi R n q p) = sh R (m - n) (o + q) p := by
  unfold sh mi
  dsimp only
  rw [flip_flip]
  congr 1
  omega
theorem sh_mi {R m o a q : Int} {p : Pl} : sh R a q (mi R m o p) = mi R (m + a) (o + q) p := by
  unfold sh mi
  dsimp only
  rw [flip_flip, Int.add_comm q o]
  congr 1
  omega
def min2 (a b : Int) : Int := if b < a then b else a
/-- least_by_shifts -/
def LS (R : Int) (T : Tri) (p : Pl) : Pl := (p.1 - p.1 / T.least * T.least, if T.pur = true then min2 (flip R (p.1 / T.least * T.side) p.2) (R - 1 - flip R (p.1 / T.least * T.side) p.2) else flip R (p.1 / T.least * T.side) p.2)
def plt (p q : Pl) : Bool := if p.1 = q.1 then decide (p.2 < q.2) else decide (p.1 < q.1)
def minP (p q : Pl) : Pl := if plt q p = true then q else p
structure Way where
  tri : Tri
  mir : Option Pl
/-- least_place -/
def L (R : Int) (W : Way) (p : Pl) : Pl := match W.mir with
  | none => LS R W.tri p
  | some m => minP (LS R W.tri p) (LS R W.tri (m.1 - p.1, if m.2 = 1 then R - 1 - p.2 else p.2))
theorem min2_flip (R y : Int) : min2 (R - 1 - y) (R - 1 - (R - 1 - y)) = min2 y (R - 1 - y) := by unfold min2; split <;> split <;> omega
theorem min2_flips (R o y : Int) : min2 (flip R o y) (R - 1 - flip R o y) = min2 y (R - 1 - y) := by
  unfold flip
  split
  · exact min2_flip R y
  · rfl
theorem LS_inv {R : Int} {T : Tri} (h : 0 < T.least) {a o : Int} {p : Pl} (t : told T a o) : LS R T (sh R a o p) = LS R T p := by
  obtain ⟨k, rfl, h2⟩ := t
  unfold LS sh
  dsimp only
  have e1 : (p.1 + k * T.least) / T.least = p.1 / T.least + k := Int.add_mul_ediv_right _ _ (by omega)
  rw [e1, Int.add_mul, Int.add_mul]
  congr 1
  · omega
  · rcases h2 with h2 | h2
    · rw [if_pos h2, if_pos h2, min2_flips, min2_flips, min2_flips]
    · rw [flip_flip]
      rw [flip_eq (o := p.1 / T.least * T.side + k * T.side + o) (q := p.1 / T.least * T.side) (by omega)]
theorem LS_rel (R : Int) (T : Tri) (p : Pl) : ∃ a o, told T a o ∧ LS R T p = sh R a o p := by
  by_cases hp : T.pur = true
  · by_cases hm : R - 1 - flip R (p.1 / T.least * T.side) p.2 < flip R (p.1 / T.least * T.side) p.2
    · refine ⟨-(p.1 / T.least) * T.least, 1 + p.1 / T.least * T.side, ⟨_, rfl, .inl hp⟩, ?_⟩
      unfold LS sh
      rw [if_pos hp, min2, if_pos hm, ← flip_flip, Int.neg_mul]
      rfl
    · refine ⟨-(p.1 / T.least) * T.least, p.1 / T.least * T.side, ⟨_, rfl, .inl hp⟩, ?_⟩
      unfold LS sh
      rw [if_pos hp, min2, if_neg hm, Int.neg_mul]
      rfl
  · refine ⟨-(p.1 / T.least) * T.least, p.1 / T.least * T.side, ⟨_, rfl, .inr (by rw [Int.neg_mul]; omega)⟩, ?_⟩
    unfold LS sh
    rw [if_neg hp, Int.neg_mul]
    rfl
theorem LS_fst {R : Int} {T : Tri} (p : Pl) : (LS R T p).1 = p.1 % T.least := by
  show p.1 - p.1 / T.least * T.least = _
  have := Int.mul_ediv_add_emod p.1 T.least
  rw [Int.mul_comm] at this
  omega
theorem LS_range {R : Int} {T : Tri} (h : 0 < T.least) (p : Pl) : 0 ≤ (LS R T p).1 ∧ (LS R T p).1 < T.least := by
  rw [LS_fst]
  exact ⟨Int.emod_nonneg _ (by omega), Int.emod_lt_of_pos _ h⟩
theorem LS_idem {R : Int} {T : Tri} (h : 0 < T.least) (p : Pl) : LS R T (LS R T p) = LS R T p := by
  obtain ⟨a, o, t, e⟩ := LS_rel R T p
  rw [show LS R T (LS R T p) = LS R T (sh R a o p) by rw [← e], LS_inv h t]
def ple (p q : Pl) : Prop := p.1 < q.1 ∨ (p.1 = q.1 ∧ p.2 ≤ q.2)
theorem ple_refl (p : Pl) : ple p p := .inr ⟨rfl, Int.le_refl _⟩
theorem ple_trans {p q r : Pl} (h : ple p q) (h' : ple q r) : ple p r := by unfold ple at *; omega
theorem ple_antisymm {p q : Pl} (h : ple p q) (h' : ple q p) : p = q := by
  obtain ⟨a, b⟩ := p
  obtain ⟨c, d⟩ := q
  unfold ple at h h'
  dsimp only at h h'
  have e1 : a = c := by omega
  have e2 : b = d := by omega
  rw [e1, e2]
theorem plt_iff {p q : Pl} : plt p q = true ↔ ple p q ∧ p ≠ q := by
  obtain ⟨a, b⟩ := p
  obtain ⟨c, d⟩ := q
  unfold plt ple
  dsimp only
  have ne : ((a, b) ≠ (c, d)) ↔ ¬ (a = c ∧ b = d) := by rw [Ne, Prod.mk.injEq]
  rw [ne]
  split <;> rw [decide_eq_true_eq] <;> omega
theorem ple_total (p q : Pl) : ple p q ∨ ple q p := by unfold ple; omega
theorem plt_false {p q : Pl} (h : ¬ plt p q = true) : ple q p := by
  rcases ple_total q p with z | z
  · exact z
  · by_cases e : p = q
    · rw [e]; exact ple_refl _
    · exact absurd (plt_iff.mpr ⟨z, e⟩) h
theorem minP_le1 (p q : Pl) : ple (minP p q) p := by
  unfold minP
  split
  · rename_i h; exact (plt_iff.mp h).1
  · exact ple_refl _
theorem minP_le2 (p q : Pl) : ple (minP p q) q := by
  unfold minP
  split
  · exact ple_refl _
  · rename_i h; exact plt_false h
theorem minP_or (p q : Pl) : minP p q = p ∨ minP p q = q := by
  unfold minP
  split
  · exact .inr rfl
  · exact .inl rfl
theorem minP_comm (p q : Pl) : minP p q = minP q p := by
  refine ple_antisymm ?_ ?_
  · rcases minP_or q p with h | h <;> rw [h]
    · exact minP_le2 _ _
    · exact minP_le1 _ _
  · rcases minP_or p q with h | h <;> rw [h]
    · exact minP_le2 _ _
    · exact minP_le1 _ _
theorem min2_le1 (a b : Int) : min2 a b ≤ a := by unfold min2; split <;> omega
theorem LS_le {R : Int} {T : Tri} (h : 0 < T.least) {p : Pl} (h0 : 0 ≤ p.1) : ple (LS R T p) p := by
  have hr := LS_range (R := R) h p
  by_cases hl : T.least ≤ p.1
  · left; omega
  · right
    have e0 : p.1 / T.least = 0 := Int.ediv_eq_zero_of_lt h0 (by omega)
    unfold LS
    rw [e0, Int.zero_mul, Int.zero_mul, Int.sub_zero, flip_zero]
    refine ⟨rfl, ?_⟩
    dsimp only
    split
    · exact min2_le1 _ _
    · exact Int.le_refl _
theorem flip_range {R o y : Int} (h : 0 ≤ y ∧ y < R) : 0 ≤ flip R o y ∧ flip R o y < R := by unfold flip; split <;> omega
theorem LS_row {R : Int} {T : Tri} {p : Pl} (h : 0 ≤ p.2 ∧ p.2 < R) : 0 ≤ (LS R T p).2 ∧ (LS R T p).2 < R := by
  obtain ⟨a, o, t, e⟩ := LS_rel R T p
  rw [e]
  exact flip_range h

/-! ### wishes -/
structure Wish where
  late : Int
  back : Bool
  over : Bool
  deriving DecidableEq
def bit (b : Bool) : Int := if b = true then 1 else 0
theorem bit_or (b : Bool) : bit b = 0 ∨ bit b = 1 := by cases b <;> simp [bit]
/-- wished -/
def wished (R : Int) (w : Wish) (p : Pl) : Pl := (if w.back = true then w.late - p.1 else w.late + p.1, if w.over = true then R - 1 - p.2 else p.2)
theorem flip_bit (R y : Int) (b : Bool) : flip R (bit b) y = if b = true then R - 1 - y else y := by cases b <;> simp [flip, bit]
theorem wished_sh {R : Int} {w : Wish} (h : w.back = false) (p : Pl) : wished R w p = sh R w.late (bit w.over) p := by
  unfold wished sh
  rw [flip_bit, h, Int.add_comm]
  rfl
theorem wished_mi {R : Int} {w : Wish} (h : w.back = true) (p : Pl) : wished R w p = mi R w.late (bit w.over) p := by
  unfold wished mi
  rw [flip_bit, h]
  rfl
def onOf (ws : List Wish) : List Pl := (ws.filter fun w => !w.back).map fun w => (w.late, bit w.over)
def backOf (ws : List Wish) : List Pl := (ws.filter fun w => w.back).map fun w => (w.late, bit w.over)
/-- shifts_of -/
def shiftsOf (ws : List Wish) : List Pl := onOf ws ++ match backOf ws with
  | [] => []
  | m :: ms => ms.map fun x => (x.1 - m.1, (x.2 + m.2) % 2)
def mirOf (ws : List Wish) : Option Pl := match backOf ws with
  | [] => none
  | m :: _ => some m
/-- ways_of -/
def waysOf (w : Int) (t : Bool) (ws : List Wish) : Way := ⟨toldOf ((w, bit t) :: shiftsOf ws), mirOf ws⟩
theorem onOf_bits (ws : List Wish) : Bits (onOf ws) := fun s hs => by
  obtain ⟨w, _, rfl⟩ := List.mem_map.mp hs
  exact bit_or _
theorem backOf_bits (ws : List Wish) : Bits (backOf ws) := fun s hs => by
  obtain ⟨w, _, rfl⟩ := List.mem_map.mp hs
  exact bit_or _
theorem shiftsOf_bits (ws : List Wish) : Bits (shiftsOf ws) := fun s hs => by
  rcases List.mem_append.mp hs with h | h
  · exact onOf_bits ws s h
  · cases e : backOf ws with
    | nil => rw [e] at h; cases h
    | cons m ms =>
      rw [e] at h
      obtain ⟨x, _, rfl⟩ := List.mem_map.mp h
      dsimp only
      omega
theorem ways_bits (w : Int) (t : Bool) (ws : List Wish) : Bits ((w, bit t) :: shiftsOf ws) := fun s hs => by
  rcases List.mem_cons.mp hs with h | h
  · rw [h]; exact bit_or _
  · exact shiftsOf_bits ws s h
section
variable {R w : Int} {t : Bool} {ws : List Wish}
theorem ways_least (hw : 0 < w) : 0 < (waysOf w t ws).tri.least ∧ ∃ k : Int, w = k * (waysOf w t ws).tri.least := by
  have b := ways_bits w t ws
  obtain ⟨k, e, _⟩ := told_of_mem b (w, bit t) List.mem_cons_self
  have ok := toldOf_ok b
  refine ⟨?_, k, e⟩
  have h1 := ok.nn
  have h2 : (toldOf ((w, bit t) :: shiftsOf ws)).least ≠ 0 := fun z => by
    dsimp only at e
    rw [z, Int.mul_zero] at e
    omega
  show 0 < (toldOf ((w, bit t) :: shiftsOf ws)).least
  omega
theorem ways_le (hw : 0 < w) : (waysOf w t ws).tri.least ≤ w := by
  obtain ⟨h, k, e⟩ := ways_least (t := t) (ws := ws) hw
  have hk : 1 ≤ k := by
    by_cases hk : k ≤ 0
    · have := Int.mul_nonpos_of_nonpos_of_nonneg hk (Int.le_of_lt h)
      omega
    · omega
  have := Int.mul_le_mul_of_nonneg_right hk (Int.le_of_lt h)
  rw [Int.one_mul] at this
  omega
/-- what is told of the wishes alike is told by a function that all these keep -/
structure Inv {α : Type} (R w : Int) (t : Bool) (ws : List Wish) (F : Pl → α) : Prop where
  glue : ∀ p, F (sh R w (bit t) p) = F p
  wish : ∀ x ∈ ws, ∀ p, F (wished R x p) = F p
theorem inv_sub {α : Type} (R : Int) (F : Pl → α) : SubG fun a o => ∀ p, F (sh R a o p) = F p where
  z := fun p => by rw [sh_zero]
  add := fun {a o b q} h h' p => by rw [← sh_sh, h, h']
  neg := fun {a o} h p => by
    have := h (sh R (-a) (-o) p)
    rw [sh_sh, Int.add_right_neg, Int.add_right_neg, sh_zero] at this
    exact this.symm
  two := fun {a o q} h e p => by rw [← sh_eq e]; exact h p
theorem mem_on {x : Wish} (h : x ∈ ws) (hb : x.back = false) : (x.late, bit x.over) ∈ shiftsOf ws :=
  List.mem_append_left _ (List.mem_map.mpr ⟨x, List.mem_filter.mpr ⟨h, by rw [hb]; rfl⟩, rfl⟩)
theorem mem_back {x : Wish} (h : x ∈ ws) (hb : x.back = true) : (x.late, bit x.over) ∈ backOf ws :=
  List.mem_map.mpr ⟨x, List.mem_filter.mpr ⟨h, hb⟩, rfl⟩
theorem Inv.back {α : Type} {F : Pl → α} (I : Inv R w t ws F) {m : Pl} (h : m ∈ backOf ws) (p : Pl) : F (mi R m.1 m.2 p) = F p := by
  obtain ⟨x, hx, rfl⟩ := List.mem_map.mp h
  obtain ⟨h1, h2⟩ := List.mem_filter.mp hx
  rw [← wished_mi h2]
  exact I.wish x h1 p
theorem Inv.told {α : Type} {F : Pl → α} (I : Inv R w t ws F) {a o : Int} (h : told (waysOf w t ws).tri a o) (p : Pl) : F (sh R a o p) = F p := by
  refine told_of_sub (ways_bits w t ws) (inv_sub R F) (fun s hs => ?_) h p
  rcases List.mem_cons.mp hs with h | h
  · rw [h]; exact I.glue
  · rcases List.mem_append.mp h with h | h
    · obtain ⟨x, hx, rfl⟩ := List.mem_map.mp h
      obtain ⟨h1, h2⟩ := List.mem_filter.mp hx
      intro p
      rw [← wished_sh (by simpa using h2)]
      exact I.wish x h1 p
    · cases e : backOf ws with
      | nil => rw [e] at h; cases h
      | cons m ms =>
        rw [e] at h
        obtain ⟨x, hx, rfl⟩ := List.mem_map.mp h
        intro p
        have e1 := I.back (m := x) (by rw [e]; exact List.mem_cons_of_mem _ hx) (mi R m.1 m.2 p)
        have e2 := I.back (m := m) (by rw [e]; exact List.mem_cons_self) p
        rw [mi_mi] at e1
        dsimp only
        rw [sh_eq (q := x.2 + m.2) (by omega), e1, e2]
theorem mir_mem {m : Pl} (h : mirOf ws = some m) : m ∈ backOf ws := by
  unfold mirOf at h
  split at h
  · cases h
  · rename_i x xs e
    cases h
    rw [e]
    exact List.mem_cons_self
theorem mir_bit {m : Pl} (h : mirOf ws = some m) : m.2 = 0 ∨ m.2 = 1 := backOf_bits ws m (mir_mem h)
theorem L_mir {W : Way} {m : Pl} (h : W.mir = some m) (hb : m.2 = 0 ∨ m.2 = 1) (p : Pl) : L R W p = minP (LS R W.tri p) (LS R W.tri (mi R m.1 m.2 p)) := by
  unfold L
  rw [h]
  show minP _ (LS R W.tri (m.1 - p.1, if m.2 = 1 then R - 1 - p.2 else p.2)) = _
  congr 2
  unfold mi flip
  rcases hb with e | e <;> rw [e] <;> rfl
theorem L_no {W : Way} (h : W.mir = none) (p : Pl) : L R W p = LS R W.tri p := by unfold L; rw [h]
theorem L_told (hw : 0 < w) {a o : Int} (h : Gl.told (waysOf w t ws).tri a o) (p : Pl) : L R (waysOf w t ws) (sh R a o p) = L R (waysOf w t ws) p := by
  have h0 := (ways_least (t := t) (ws := ws) hw).1
  cases e : (waysOf w t ws).mir with
  | none => rw [L_no e, L_no e, LS_inv h0 h]
  | some m =>
    have hb := mir_bit e
    rw [L_mir e hb, L_mir e hb, LS_inv h0 h, mi_sh, LS_inv h0 ?_]
    have n := (told_sub _).neg h
    exact (told_sub _).two n (by omega)
theorem L_glue (hw : 0 < w) (p : Pl) : L R (waysOf w t ws) (sh R w (bit t) p) = L R (waysOf w t ws) p :=
  L_told hw (told_of_mem (ways_bits w t ws) (w, bit t) List.mem_cons_self) p
theorem L_mi (hw : 0 < w) {m : Pl} (e : (waysOf w t ws).mir = some m) (p : Pl) : L R (waysOf w t ws) (mi R m.1 m.2 p) = L R (waysOf w t ws) p := by
  have hb := mir_bit e
  have h0 := (ways_least (t := t) (ws := ws) hw).1
  rw [L_mir e hb, L_mir e hb, mi_mi, Int.sub_self, sh_eq (q := 0) (by omega), sh_zero, minP_comm]
theorem L_wish (hw : 0 < w) {x : Wish} (hx : x ∈ ws) (p : Pl) : L R (waysOf w t ws) (wished R x p) = L R (waysOf w t ws) p := by
  cases hb : x.back with
  | false =>
    rw [wished_sh hb]
    exact L_told hw (told_of_mem (ways_bits w t ws) (x.late, bit x.over) (List.mem_cons_of_mem _ (mem_on hx hb))) p
  | true =>
    rw [wished_mi hb]
    have hm := mem_back hx hb
    cases e : backOf ws with
    | nil => rw [e] at hm; cases hm
    | cons m ms =>
      have em : (waysOf w t ws).mir = some m := by show mirOf ws = _; unfold mirOf; rw [e]
      have bb := backOf_bits ws
      rw [e] at hm bb
      have e1 : mi R x.late (bit x.over) p = sh R (x.late - m.1) (bit x.over + m.2) (mi R m.1 m.2 p) := by
        rw [sh_mi]
        have : m.1 + (x.late - m.1) = x.late := by omega
        rw [this]
        unfold mi
        rw [flip_eq (o := m.2 + (bit x.over + m.2)) (q := bit x.over) (by omega)]
      rw [e1, L_told hw ?_, L_mi hw em]
      rcases List.mem_cons.mp hm with h | h
      · rw [← h]
        show Gl.told _ (x.late - x.late) (bit x.over + bit x.over)
        rw [Int.sub_self]
        exact (told_sub _).two (told_sub _).z (by omega)
      · have q := told_of_mem (ways_bits w t ws) (x.late - m.1, (bit x.over + m.2) % 2) (List.mem_cons_of_mem _ (List.mem_append_right _ (by rw [e]; exact List.mem_map.mpr ⟨_, h, rfl⟩)))
        exact (told_sub _).two q (by dsimp only; omega)
/-- the least place is told by the place's lot alone -/
theorem L_inv (hw : 0 < w) : Inv R w t ws (L R (waysOf w t ws)) := ⟨L_glue hw, fun _ hx p => L_wish hw hx p⟩
/-- the least place lies in the lot -/
theorem L_sound {α : Type} {F : Pl → α} (I : Inv R w t ws F) (p : Pl) : F (L R (waysOf w t ws) p) = F p := by
  have s : ∀ q : Pl, F (LS R (waysOf w t ws).tri q) = F q := fun q => by
    obtain ⟨a, o, h, e⟩ := LS_rel R (waysOf w t ws).tri q
    rw [e]
    exact I.told h q
  cases e : (waysOf w t ws).mir with
  | none => rw [L_no e, s]
  | some m =>
    rw [L_mir e (mir_bit e)]
    rcases minP_or (LS R (waysOf w t ws).tri p) (LS R (waysOf w t ws).tri (mi R m.1 m.2 p)) with h | h
    · rw [h, s]
    · rw [h, s]
      exact I.back (mir_mem e) p
theorem L_idem (hw : 0 < w) (p : Pl) : L R (waysOf w t ws) (L R (waysOf w t ws) p) = L R (waysOf w t ws) p := L_sound (L_inv hw) p
theorem L_le (hw : 0 < w) {p : Pl} (h : 0 ≤ p.1) : ple (L R (waysOf w t ws) p) p := by
  have h0 := (ways_least (t := t) (ws := ws) hw).1
  cases e : (waysOf w t ws).mir with
  | none => rw [L_no e]; exact LS_le h0 h
  | some m => rw [L_mir e (mir_bit e)]; exact ple_trans (minP_le1 _ _) (LS_le h0 h)
theorem L_range (hw : 0 < w) (p : Pl) : 0 ≤ (L R (waysOf w t ws) p).1 ∧ (L R (waysOf w t ws) p).1 < (waysOf w t ws).tri.least := by
  have h0 := (ways_least (t := t) (ws := ws) hw).1
  cases e : (waysOf w t ws).mir with
  | none => rw [L_no e]; exact LS_range h0 p
  | some m =>
    rw [L_mir e (mir_bit e)]
    rcases minP_or (LS R (waysOf w t ws).tri p) (LS R (waysOf w t ws).tri (mi R m.1 m.2 p)) with h | h <;> rw [h] <;> exact LS_range h0 _
theorem mi_row {m o : Int} {p : Pl} (h : 0 ≤ p.2 ∧ p.2 < R) : 0 ≤ (mi R m o p).2 ∧ (mi R m o p).2 < R := flip_range h
theorem L_row {p : Pl} (h : 0 ≤ p.2 ∧ p.2 < R) : 0 ≤ (L R (waysOf w t ws) p).2 ∧ (L R (waysOf w t ws) p).2 < R := by
  cases e : (waysOf w t ws).mir with
  | none => rw [L_no e]; exact LS_row h
  | some m =>
    rw [L_mir e (mir_bit e)]
    rcases minP_or (LS R (waysOf w t ws).tri p) (LS R (waysOf w t ws).tri (mi R m.1 m.2 p)) with h' | h' <;> rw [h']
    · exact LS_row h
    · exact LS_row (mi_row h)
/-- a cell -/
def Cell (R w : Int) (p : Pl) : Prop := (0 ≤ p.1 ∧ p.1 < w) ∧ 0 ≤ p.2 ∧ p.2 < R
theorem L_cell (hw : 0 < w) {p : Pl} (h : 0 ≤ p.2 ∧ p.2 < R) : Cell R w (L R (waysOf w t ws) p) := by
  have h1 := L_range (R := R) (t := t) (ws := ws) hw p
  have h2 := ways_le (t := t) (ws := ws) hw
  exact ⟨⟨h1.1, by omega⟩, L_row h⟩
/-- what is played -/
def play (R w : Int) (t : Bool) (p : Pl) : Pl := (p.1 % w, if t = true ∧ p.1 / w % 2 = 1 then R - 1 - p.2 else p.2)
theorem play_sh (p : Pl) : play R w t p = sh R (-(p.1 / w) * w) (-(p.1 / w) * bit t) p := by
  unfold play sh
  congr 1
  · have := Int.mul_ediv_add_emod p.1 w
    rw [Int.neg_mul, Int.mul_comm (p.1 / w)]
    omega
  · unfold flip
    cases t with
    | false => simp [bit]
    | true =>
      simp only [bit, if_true, true_and, Int.mul_one]
      split <;> split <;> omega
theorem play_cell (hw : 0 < w) {p : Pl} (h : 0 ≤ p.2 ∧ p.2 < R) : Cell R w (play R w t p) := by
  refine ⟨⟨Int.emod_nonneg _ (by omega), Int.emod_lt_of_pos _ hw⟩, ?_⟩
  unfold play
  dsimp only
  split <;> omega
theorem play_self {p : Pl} (h : Cell R w p) : play R w t p = p := by
  obtain ⟨⟨h1, h2⟩, _⟩ := h
  unfold play
  rw [Int.emod_eq_of_lt h1 h2, Int.ediv_eq_zero_of_lt h1 h2, if_neg (by omega)]
theorem play_glue (hw : 0 < w) (p : Pl) : play R w t (sh R w (bit t) p) = play R w t p := by
  unfold play sh
  dsimp only
  rw [Int.add_emod_right, show (p.1 + w) / w = p.1 / w + 1 by have := Int.add_mul_ediv_right p.1 1 (show w ≠ 0 by omega); rwa [Int.one_mul] at this]
  congr 1
  unfold flip
  cases t with
  | false => simp [bit]
  | true =>
    simp only [bit, if_true, true_and]
    split <;> split <;> first | omega | skip
    all_goals (split <;> omega)
theorem Inv.play {α : Type} {F : Pl → α} (I : Inv R w t ws F) (p : Pl) : F (Gl.play R w t p) = F p := by
  rw [play_sh]
  exact (inv_sub R F).int I.glue _ p
end
end L3.Gl
set_option maxRecDepth 100000
set_option maxHeartbeats 1000000
/-! GB: how many lots there are. -/
namespace L3.Gl
/-- all cells, ascending -/
def cells (R w : Nat) : List Pl := (List.range w).flatMap fun (x : Nat) => (List.range R).map fun (y : Nat) => ((x : Int), (y : Int))
theorem mem_cells {R w : Nat} {p : Pl} : p ∈ cells R w ↔ Cell R w p := by
  unfold cells Cell
  rw [List.mem_flatMap]
  constructor
  · rintro ⟨x, hx, h⟩
    obtain ⟨y, hy, rfl⟩ := List.mem_map.mp h
    rw [List.mem_range] at hx hy
    dsimp only
    omega
  · rintro ⟨⟨h1, h2⟩, h3, h4⟩
    refine ⟨p.1.toNat, List.mem_range.mpr (by omega), List.mem_map.mpr ⟨p.2.toNat, List.mem_range.mpr (by omega), ?_⟩⟩
    have e1 : ((p.1.toNat : Nat) : Int) = p.1 := Int.toNat_of_nonneg h1
    have e2 : ((p.2.toNat : Nat) : Int) = p.2 := Int.toNat_of_nonneg h3
    rw [e1, e2]
theorem cells_nodup (R w : Nat) : (cells R w).Nodup := by
  unfold cells
  rw [List.nodup_iff_pairwise_ne, List.pairwise_flatMap]
  constructor
  · intro x _
    rw [List.pairwise_map]
    refine List.Pairwise.imp ?_ (List.nodup_iff_pairwise_ne.mp List.nodup_range)
    intro a b h e
    apply h
    have := (Prod.mk.inj e).2
    omega
  · refine List.Pairwise.imp ?_ (List.nodup_iff_pairwise_ne.mp List.nodup_range)
    intro a b h x hx y hy e
    obtain ⟨c, _, rfl⟩ := List.mem_map.mp hx
    obtain ⟨d, _, rfl⟩ := List.mem_map.mp hy
    apply h
    have := (Prod.mk.inj e).1
    omega
theorem perm_of_mem {α : Type} [DecidableEq α] {l m : List α} (h : l.Nodup) (h' : m.Nodup) (e : ∀ a, a ∈ l ↔ a ∈ m) : l.Perm m := (List.perm_ext_iff_of_nodup h h').mpr e
/-- an involution has as many going up as down -/
theorem invol_count {l : List Pl} {μ : Pl → Pl} (hn : l.Nodup) (hm : ∀ p ∈ l, μ p ∈ l) (hi : ∀ p ∈ l, μ (μ p) = p) : l.countP (fun p => plt p (μ p)) = l.countP (fun p => plt (μ p) p) := by
  have hp : (l.map μ).Perm l := by
    refine perm_of_mem ?_ hn fun a => ?_
    · rw [List.nodup_iff_pairwise_ne, List.pairwise_map]
      refine List.Pairwise.imp_of_mem ?_ (List.nodup_iff_pairwise_ne.mp hn)
      intro a b ha hb h e
      exact h (by rw [← hi a ha, ← hi b hb, e])
    · constructor
      · intro h
        obtain ⟨b, hb, rfl⟩ := List.mem_map.mp h
        exact hm b hb
      · intro h
        exact List.mem_map.mpr ⟨μ a, hm a h, hi a h⟩
  rw [← hp.countP_eq (fun p => plt p (μ p)), List.countP_map]
  refine List.countP_congr fun p h => ?_
  dsimp only [Function.comp]
  rw [hi p h]
theorem count3 (μ : Pl → Pl) : ∀ l : List Pl, l.length = l.countP (fun p => plt p (μ p)) + l.countP (fun p => decide (μ p = p)) + l.countP (fun p => plt (μ p) p)
  | [] => rfl
  | p :: l => by
    have ih := count3 μ l
    rw [List.length_cons, List.countP_cons, List.countP_cons, List.countP_cons]
    by_cases e : μ p = p
    · have h1 : ¬ plt p (μ p) = true := fun z => (plt_iff.mp z).2 e.symm
      have h2 : ¬ plt (μ p) p = true := fun z => (plt_iff.mp z).2 e
      rw [if_neg h1, if_pos (decide_eq_true e), if_neg h2]
      omega
    · rcases ple_total p (μ p) with h | h
      · have h1 : plt p (μ p) = true := plt_iff.mpr ⟨h, fun z => e z.symm⟩
        have h2 : ¬ plt (μ p) p = true := fun z => e (ple_antisymm (plt_iff.mp z).1 h)
        rw [if_pos h1, if_neg (by simp [e]), if_neg h2]
        omega
      · have h1 : plt (μ p) p = true := plt_iff.mpr ⟨h, e⟩
        have h2 : ¬ plt p (μ p) = true := fun z => e (ple_antisymm h (plt_iff.mp z).1)
        rw [if_neg h2, if_neg (by simp [e]), if_pos h1]
        omega
theorem count_le (μ : Pl → Pl) : ∀ l : List Pl, l.countP (fun p => decide (minP p (μ p) = p)) = l.countP (fun p => plt p (μ p)) + l.countP (fun p => decide (μ p = p))
  | [] => rfl
  | p :: l => by
    have ih := count_le μ l
    rw [List.countP_cons, List.countP_cons, List.countP_cons, ih]
    have e1 : minP p (μ p) = p ↔ plt p (μ p) = true ∨ μ p = p := by
      constructor
      · intro h
        by_cases e : μ p = p
        · exact .inr e
        · refine .inl (plt_iff.mpr ⟨?_, fun z => e z.symm⟩)
          have := minP_le2 p (μ p)
          rw [h] at this
          exact this
      · rintro (h | h)
        · unfold minP
          rw [if_neg fun z => (plt_iff.mp z).2 (ple_antisymm (plt_iff.mp z).1 (plt_iff.mp h).1)]
        · rw [h]; unfold minP; split <;> rfl
    by_cases e : μ p = p
    · have h1 : ¬ plt p (μ p) = true := fun z => (plt_iff.mp z).2 e.symm
      rw [if_pos (decide_eq_true (e1.mpr (.inr e))), if_neg h1, if_pos (decide_eq_true e)]
      omega
    · by_cases h : plt p (μ p) = true
      · rw [if_pos (decide_eq_true (e1.mpr (.inl h))), if_pos h, if_neg (by simp [e])]
        omega
      · rw [if_neg (by rw [decide_eq_true_eq, e1]; rintro (z | z); exact h z; exact e z), if_neg h, if_neg (by simp [e])]
        omega
theorem invol_half {l : List Pl} {μ : Pl → Pl} (hn : l.Nodup) (hm : ∀ p ∈ l, μ p ∈ l) (hi : ∀ p ∈ l, μ (μ p) = p) : 2 * l.countP (fun p => decide (minP p (μ p) = p)) = l.length + l.countP (fun p => decide (μ p = p)) := by
  have h1 := invol_count hn hm hi
  have h2 := count3 μ l
  have h3 := count_le μ l
  omega
end L3.Gl
set_option maxRecDepth 100000
set_option maxHeartbeats 1000000
/-! GC: free_of. -/
namespace L3.Gl
theorem mul_zero_of_small {d j l : Int} (h1 : -l < d) (h2 : d < l) (e : d = j * l) : j = 0 := by
  rcases Int.lt_trichotomy j 0 with h | h | h
  · exfalso
    have := Int.mul_le_mul_of_nonneg_right (show j ≤ -1 by omega) (show 0 ≤ l by omega)
    rw [Int.neg_mul, Int.one_mul] at this
    omega
  · exact h
  · exfalso
    have := Int.mul_le_mul_of_nonneg_right (show 1 ≤ j by omega) (show 0 ≤ l by omega)
    rw [Int.one_mul] at this
    omega
/-- middles -/
def middles (l m : Int) : List Int := if l % 2 = 1 then [m * ((l + 1) / 2) % l] else if m % 2 = 0 then [m / 2 % l, (m / 2 + l / 2) % l] else []
theorem emod_spec (a : Int) {l : Int} (hl : 0 < l) : 0 ≤ a % l ∧ a % l < l ∧ ∃ q, a = q * l + a % l :=
  ⟨Int.emod_nonneg _ (by omega), Int.emod_lt_of_pos _ hl, a / l, by have := Int.mul_ediv_add_emod a l; rw [Int.mul_comm] at this; omega⟩
theorem mid_iff {l m x : Int} (hl : 0 < l) : x ∈ middles l m ↔ 0 ≤ x ∧ x < l ∧ ∃ k : Int, m - 2 * x = k * l := by
  unfold middles
  split
  · rename_i ho
    obtain ⟨h, hh⟩ : ∃ h : Int, l = 2 * h + 1 := ⟨l / 2, by omega⟩
    rw [show (l + 1) / 2 = h + 1 by omega, List.mem_singleton]
    obtain ⟨e1, e2, q, e3⟩ := emod_spec (m * (h + 1)) hl
    generalize m * (h + 1) % l = x0 at e1 e2 e3
    have key : m - 2 * x0 = (2 * q - m) * l := by
      rw [hh] at e3 ⊢
      rw [Int.mul_add, Int.mul_one] at e3
      have a1 : (2 * q - m) * (2 * h + 1) = 2 * (q * (2 * h + 1)) - 2 * (m * h) - m := by
        rw [Int.sub_mul, Int.mul_add m, Int.mul_one, Int.mul_assoc 2 q, ← Int.mul_assoc m 2 h, Int.mul_comm m 2, Int.mul_assoc 2 m h]
        omega
      rw [a1]
      omega
    constructor
    · intro e
      rw [e]
      exact ⟨e1, e2, _, key⟩
    · rintro ⟨f1, f2, k, f3⟩
      have d1 : 2 * (x - x0) = (2 * q - m - k) * l := by rw [Int.sub_mul (2 * q - m) k l, ← key, ← f3]; omega
      generalize 2 * q - m - k = c at d1
      have d2 : c = 2 * (x - x0 - h * c) := by
        rw [hh, Int.mul_add, Int.mul_one, ← Int.mul_assoc, Int.mul_comm c 2, Int.mul_assoc, Int.mul_comm c h] at d1
        omega
      have d3 : x - x0 = (x - x0 - h * c) * l := by
        have : 2 * (x - x0) = 2 * ((x - x0 - h * c) * l) := by rw [← Int.mul_assoc, ← d2, d1]
        omega
      have := mul_zero_of_small (by omega) (by omega) d3
      rw [this, Int.zero_mul] at d3
      omega
  · rename_i ho
    obtain ⟨h, hh⟩ : ∃ h : Int, l = 2 * h := ⟨l / 2, by omega⟩
    split
    · rename_i he
      obtain ⟨n, hn⟩ : ∃ n : Int, m = 2 * n := ⟨m / 2, by omega⟩
      rw [show m / 2 = n by omega, show l / 2 = h by omega]
      obtain ⟨a1, a2, q, a3⟩ := emod_spec n hl
      obtain ⟨b1, b2, r, b3⟩ := emod_spec (n + h) hl
      generalize n % l = x0 at a1 a2 a3
      generalize (n + h) % l = x1 at b1 b2 b3
      simp only [List.mem_cons, List.not_mem_nil, or_false]
      constructor
      · rintro (e | e) <;> rw [e]
        · refine ⟨a1, a2, 2 * q, ?_⟩
          rw [Int.mul_assoc]; omega
        · refine ⟨b1, b2, 2 * r - 1, ?_⟩
          rw [Int.sub_mul, Int.mul_assoc, Int.one_mul]; omega
      · rintro ⟨f1, f2, k, f3⟩
        have g1 : n - x = k * h := by
          rw [hh, ← Int.mul_assoc, Int.mul_comm k 2, Int.mul_assoc] at f3
          omega
        rcases Int.emod_two_eq k with p | p
        · obtain ⟨j, hj⟩ : ∃ j : Int, k = 2 * j := ⟨k / 2, by omega⟩
          left
          have g2 : x - x0 = (q - j) * l := by
            rw [Int.sub_mul]
            have : j * l = k * h := by rw [hh, hj, ← Int.mul_assoc, Int.mul_comm j 2]
            omega
          have := mul_zero_of_small (by omega) (by omega) g2
          rw [this, Int.zero_mul] at g2
          omega
        · obtain ⟨j, hj⟩ : ∃ j : Int, k = 2 * j - 1 := ⟨(k + 1) / 2, by omega⟩
          right
          have g2 : x - x1 = (r - j) * l := by
            rw [Int.sub_mul]
            have : j * l = k * h + h := by rw [hh, hj, Int.sub_mul, Int.one_mul, ← Int.mul_assoc, Int.mul_comm j 2]; omega
            omega
          have := mul_zero_of_small (by omega) (by omega) g2
          rw [this, Int.zero_mul] at g2
          omega
    · rename_i he
      constructor
      · intro z; cases z
      · rintro ⟨f1, f2, k, f3⟩
        rw [hh, ← Int.mul_assoc, Int.mul_comm k 2, Int.mul_assoc] at f3
        omega
theorem mid_nodup {l m : Int} (hl : 0 < l) : (middles l m).Nodup := by
  unfold middles
  split
  · simp
  · split
    · obtain ⟨h, hh⟩ : ∃ h : Int, l = 2 * h := ⟨l / 2, by omega⟩
      rw [show l / 2 = h by omega]
      obtain ⟨a1, a2, q, a3⟩ := emod_spec (m / 2) hl
      obtain ⟨b1, b2, r, b3⟩ := emod_spec (m / 2 + h) hl
      rw [List.nodup_cons]
      refine ⟨?_, by simp⟩
      rw [List.mem_singleton]
      intro e
      rw [← e] at b3
      have g : h = (r - q) * l := by rw [Int.sub_mul]; omega
      have := mul_zero_of_small (by omega) (by omega) g
      rw [this, Int.zero_mul] at g
      omega
    · simp
def linesOf (R : Nat) (T : Tri) : List Nat := (List.range R).filter fun y => decide ((LS R T (0, (y : Int))).2 = (y : Int))
def stillOf (R : Nat) (T : Tri) (m : Pl) : Nat := ((middles T.least m.1).flatMap fun x => (linesOf R T).map fun (y : Nat) => ((x, (y : Int)) : Pl)).countP fun p => decide (LS R T (m.1 - p.1, if m.2 = 1 then (R : Int) - 1 - p.2 else p.2) = p)
/-- free_of -/
def freeOf (R : Nat) (W : Way) : Int := match W.mir with
  | none => W.tri.least * (linesOf R W.tri).length
  | some m => (W.tri.least * (linesOf R W.tri).length + stillOf R W.tri m) / 2
/-- how many lots there are -/
def lotsN (R w : Nat) (t : Bool) (ws : List Wish) : Nat := (cells R w).countP fun p => decide (L R (waysOf w t ws) p = p)
theorem nodup_filter {α : Type} {l : List α} (p : α → Bool) (h : l.Nodup) : (l.filter p).Nodup := List.Pairwise.sublist List.filter_sublist h
theorem count_ext {l m : List Pl} {f g : Pl → Bool} (h : l.Nodup) (h' : m.Nodup) (e : ∀ a, (a ∈ l ∧ f a = true) ↔ (a ∈ m ∧ g a = true)) : l.countP f = m.countP g := by
  rw [List.countP_eq_length_filter, List.countP_eq_length_filter]
  refine (perm_of_mem (nodup_filter _ h) (nodup_filter _ h') fun a => ?_).length_eq
  rw [List.mem_filter, List.mem_filter]
  exact e a
theorem prod_nodup {xs : List Int} {ys : List Nat} (h : xs.Nodup) (h' : ys.Nodup) : (xs.flatMap fun x => ys.map fun (y : Nat) => ((x, (y : Int)) : Pl)).Nodup := by
  rw [List.nodup_iff_pairwise_ne, List.pairwise_flatMap]
  constructor
  · intro x _
    rw [List.pairwise_map]
    refine List.Pairwise.imp ?_ (List.nodup_iff_pairwise_ne.mp h')
    intro a b h e
    apply h
    have := (Prod.mk.inj e).2
    omega
  · refine List.Pairwise.imp ?_ (List.nodup_iff_pairwise_ne.mp h)
    intro a b h x hx y hy e
    obtain ⟨c, _, rfl⟩ := List.mem_map.mp hx
    obtain ⟨d, _, rfl⟩ := List.mem_map.mp hy
    exact h (Prod.mk.inj e).1
theorem mem_prod {xs : List Int} {ys : List Nat} {p : Pl} : p ∈ (xs.flatMap fun x => ys.map fun (y : Nat) => ((x, (y : Int)) : Pl)) ↔ p.1 ∈ xs ∧ 0 ≤ p.2 ∧ p.2.toNat ∈ ys := by
  rw [List.mem_flatMap]
  constructor
  · rintro ⟨x, hx, h⟩
    obtain ⟨y, hy, rfl⟩ := List.mem_map.mp h
    refine ⟨hx, by dsimp only; omega, ?_⟩
    show (y : Int).toNat ∈ ys
    rw [Int.toNat_natCast]; exact hy
  · rintro ⟨h1, h2, h3⟩
    refine ⟨p.1, h1, List.mem_map.mpr ⟨_, h3, ?_⟩⟩
    have e2 : ((p.2.toNat : Nat) : Int) = p.2 := Int.toNat_of_nonneg h2
    rw [e2]
theorem len_prod : ∀ (xs : List Int) (ys : List Nat), (xs.flatMap fun x => ys.map fun (y : Nat) => ((x, (y : Int)) : Pl)).length = xs.length * ys.length
  | [], ys => by simp
  | x :: xs, ys => by
    rw [List.flatMap_cons, List.length_append, len_prod xs ys, List.length_map, List.length_cons, Nat.add_mul]
    omega
theorem linesOf_nodup (R : Nat) (T : Tri) : (linesOf R T).Nodup := nodup_filter _ List.nodup_range
theorem mem_lines {R : Nat} {T : Tri} (hl : 0 < T.least) {x y : Int} (hx : 0 ≤ x ∧ x < T.least) : (0 ≤ y ∧ y.toNat ∈ linesOf R T) ↔ ((0 ≤ y ∧ y < R) ∧ LS R T (x, y) = (x, y)) := by
  have e : ∀ z : Int, 0 ≤ z → z < T.least → z / T.least = 0 := fun z h1 h2 => Int.ediv_eq_zero_of_lt h1 h2
  unfold linesOf
  rw [List.mem_filter, List.mem_range, decide_eq_true_eq]
  unfold LS
  dsimp only
  rw [e 0 (by omega) hl, e x hx.1 hx.2, Int.zero_mul, Int.zero_mul, Int.sub_zero, flip_zero, flip_zero]
  constructor
  · rintro ⟨h1, h2, h3⟩
    rw [Int.toNat_of_nonneg h1] at h3
    exact ⟨⟨h1, by omega⟩, by rw [h3]⟩
  · rintro ⟨⟨h1, h2⟩, h3⟩
    refine ⟨h1, by omega, ?_⟩
    rw [Int.toNat_of_nonneg h1]
    exact (Prod.mk.inj h3).2
section
variable {R w : Nat} {t : Bool} {ws : List Wish}
theorem L_fix_LS (hw : 0 < w) {p : Pl} (h : L R (waysOf w t ws) p = p) : LS R (waysOf w t ws).tri p = p := by
  have h0 := (ways_least (w := w) (t := t) (ws := ws) (by omega)).1
  have : ∃ q, p = LS R (waysOf w t ws).tri q := by
    cases e : (waysOf w t ws).mir with
    | none => rw [L_no e] at h; exact ⟨_, h.symm⟩
    | some m =>
      rw [L_mir e (mir_bit e)] at h
      rcases minP_or (LS R (waysOf w t ws).tri p) (LS R (waysOf w t ws).tri (mi R m.1 m.2 p)) with h' | h' <;> rw [h'] at h <;> exact ⟨_, h.symm⟩
  obtain ⟨q, e⟩ := this
  rw [e, LS_idem h0]
/-- the number that free_of tells is that of all lots -/
theorem free_eq (hw : 0 < w) : freeOf R (waysOf w t ws) = lotsN R w t ws := by
  have hw' : 0 < (w : Int) := by omega
  have h0 := (ways_least (w := w) (t := t) (ws := ws) hw').1
  have hle := ways_le (t := t) (ws := ws) hw'
  unfold lotsN freeOf
  generalize hT : (waysOf w t ws).tri = T at h0 hle
  have dom : ∀ p : Pl, (Cell R w p ∧ LS R T p = p) ↔ p ∈ ((List.range T.least.toNat).map fun (x : Nat) => (x : Int)).flatMap fun x => (linesOf R T).map fun (y : Nat) => ((x, (y : Int)) : Pl) := by
    intro p
    rw [mem_prod, List.mem_map]
    constructor
    · rintro ⟨⟨⟨c1, c2⟩, c3⟩, c4⟩
      have hr := LS_range (R := R) h0 p
      rw [c4] at hr
      refine ⟨⟨p.1.toNat, List.mem_range.mpr (by omega), by omega⟩, (mem_lines h0 ⟨c1, hr.2⟩).mpr ⟨c3, c4⟩⟩
    · rintro ⟨⟨x, hx, ex⟩, c2⟩
      rw [List.mem_range] at hx
      have hx' : 0 ≤ p.1 ∧ p.1 < T.least := by omega
      obtain ⟨d1, d2⟩ := (mem_lines h0 (x := p.1) hx').mp c2
      exact ⟨⟨⟨by omega, by omega⟩, d1⟩, d2⟩
  have nd : (((List.range T.least.toNat).map fun (x : Nat) => (x : Int)).flatMap fun x => (linesOf R T).map fun (y : Nat) => ((x, (y : Int)) : Pl)).Nodup := by
    refine prod_nodup ?_ (linesOf_nodup R T)
    rw [List.nodup_iff_pairwise_ne, List.pairwise_map]
    refine List.Pairwise.imp ?_ (List.nodup_iff_pairwise_ne.mp List.nodup_range)
    intro a b h e
    exact h (by omega)
  have len : (((List.range T.least.toNat).map fun (x : Nat) => (x : Int)).flatMap fun x => (linesOf R T).map fun (y : Nat) => ((x, (y : Int)) : Pl)).length = T.least.toNat * (linesOf R T).length := by
    rw [len_prod, List.length_map, List.length_range]
  generalize ((List.range T.least.toNat).map fun (x : Nat) => (x : Int)).flatMap (fun x => (linesOf R T).map fun (y : Nat) => ((x, (y : Int)) : Pl)) = D at dom nd len
  have len' : T.least * ((linesOf R T).length : Int) = (D.length : Int) := by
    rw [len]; push_cast; rw [Int.toNat_of_nonneg (by omega)]
  rw [len']
  cases e : (waysOf w t ws).mir with
  | none =>
    dsimp only
    have : (cells R w).countP (fun p => decide (L R (waysOf w t ws) p = p)) = D.countP fun _ => true := by
      refine count_ext (cells_nodup R w) nd fun a => ?_
      rw [mem_cells, ← dom, L_no e, hT, decide_eq_true_eq]
      simp
    rw [this]
    simp
  | some m =>
    dsimp only
    have hb := mir_bit e
    have eL : ∀ p, L R (waysOf w t ws) p = minP (LS R T p) (LS R T (mi R m.1 m.2 p)) := fun p => by rw [L_mir e hb, hT]
    have mm : ∀ p : Pl, LS R T (mi R m.1 m.2 (LS R T (mi R m.1 m.2 p))) = LS R T p := fun p => by
      obtain ⟨a, o, g, ea⟩ := LS_rel R T (mi R m.1 m.2 p)
      rw [ea, mi_sh, mi_mi, Int.sub_self, sh_eq (a := 0) (q := 0) (by omega), sh_zero, LS_inv h0]
      exact (told_sub T).two ((told_sub T).neg g) (by omega)
    have mem : ∀ p ∈ D, LS R T (mi R m.1 m.2 p) ∈ D := fun p hp => by
      obtain ⟨c1, c2⟩ := (dom p).mpr hp
      refine (dom _).mp ⟨⟨?_, LS_row (mi_row c1.2)⟩, LS_idem h0 _⟩
      have := LS_range (R := R) h0 (mi R m.1 m.2 p)
      omega
    have half := invol_half (l := D) (μ := fun p => LS R T (mi R m.1 m.2 p)) nd mem fun p hp => by
      rw [mm, ((dom p).mpr hp).2]
    have c1 : (cells R w).countP (fun p => decide (L R (waysOf w t ws) p = p)) = D.countP fun p => decide (minP p (LS R T (mi R m.1 m.2 p)) = p) := by
      refine count_ext (cells_nodup R w) nd fun a => ?_
      rw [mem_cells, ← dom, decide_eq_true_eq, decide_eq_true_eq]
      constructor
      · rintro ⟨k1, k2⟩
        have k3 := L_fix_LS (R := R) (t := t) (ws := ws) hw k2
        rw [hT] at k3
        rw [eL, k3] at k2
        exact ⟨⟨k1, k3⟩, k2⟩
      · rintro ⟨⟨k1, k2⟩, k3⟩
        rw [eL, k2]
        exact ⟨k1, k3⟩
    have c2 : stillOf R T m = D.countP fun p => decide (LS R T (mi R m.1 m.2 p) = p) := by
      unfold stillOf
      refine count_ext (prod_nodup (mid_nodup h0) (linesOf_nodup R T)) nd fun a => ?_
      have em : ((m.1 - a.1, if m.2 = 1 then (R : Int) - 1 - a.2 else a.2) : Pl) = mi R m.1 m.2 a := by
        unfold mi flip
        rcases hb with z | z <;> rw [z] <;> rfl
      rw [em, mem_prod, ← dom, decide_eq_true_eq, mid_iff h0]
      constructor
      · rintro ⟨⟨⟨k1, k2, k3⟩, k4⟩, k5⟩
        obtain ⟨d1, d2⟩ := (mem_lines h0 (x := a.1) ⟨k1, k2⟩).mp k4
        exact ⟨⟨⟨⟨k1, by omega⟩, d1⟩, d2⟩, k5⟩
      · rintro ⟨⟨⟨⟨k1, k2⟩, k3⟩, k4⟩, k5⟩
        have hr := LS_range (R := R) h0 a
        rw [k4] at hr
        refine ⟨⟨⟨k1, hr.2, ?_⟩, (mem_lines h0 (x := a.1) hr).mpr ⟨k3, k4⟩⟩, k5⟩
        have q := congrArg Prod.fst k5
        rw [LS_fst] at q
        obtain ⟨_, _, c, hc⟩ := emod_spec (mi R m.1 m.2 a).1 h0
        rw [q] at hc
        refine ⟨c, ?_⟩
        have : (mi R m.1 m.2 a).1 = m.1 - a.1 := rfl
        omega
    rw [c1, c2]
    omega
end
end L3.Gl
set_option maxRecDepth 100000
set_option maxHeartbeats 1000000
/-! GD: wishes that follow, ticks that tell. -/
namespace L3.Gl
section
variable {R w : Nat} {t : Bool} {ws ws' : List Wish}
theorem Inv.sub {α : Type} {F : Pl → α} {R w : Int} (I : Inv R w t ws' F) (h : ∀ x ∈ ws, x ∈ ws') : Inv R w t ws F := ⟨I.glue, fun x hx => I.wish x (h x hx)⟩
theorem lots_mono (hw : 0 < w) (h : ∀ x ∈ ws, x ∈ ws') : lotsN R w t ws' ≤ lotsN R w t ws := by
  have hw' : 0 < (w : Int) := by omega
  unfold lotsN
  refine List.countP_mono_left fun p hp e => ?_
  rw [decide_eq_true_eq] at e ⊢
  have c := mem_cells.mp hp
  have a := L_le (R := R) (t := t) (ws := ws) hw' c.1.1
  refine ple_antisymm a ?_
  have s : L R (waysOf w t ws') (L R (waysOf w t ws) p) = L R (waysOf w t ws') p := L_sound ((L_inv (R := R) (t := t) (ws := ws') hw').sub h) p
  have b := L_le (R := R) (t := t) (ws := ws') hw' (p := L R (waysOf w t ws) p) (L_range hw' p).1
  rw [s, e] at b
  exact b
end
theorem LS_eq_iff {R : Int} {T : Tri} (h : 0 < T.least) {p q : Pl} : LS R T q = LS R T p ↔ ∃ a o, told T a o ∧ q = sh R a o p := by
  constructor
  · intro e
    obtain ⟨a, o, g1, e1⟩ := LS_rel R T q
    obtain ⟨b, c, g2, e2⟩ := LS_rel R T p
    refine ⟨-a + b, -o + c, (told_sub T).add ((told_sub T).neg g1) g2, ?_⟩
    rw [← sh_sh, ← e2, ← e, e1, sh_sh, Int.add_left_neg, Int.add_left_neg, sh_zero]
  · rintro ⟨a, o, g, rfl⟩
    exact LS_inv h g
section
variable {R w : Int} {t : Bool} {ws : List Wish}
theorem L_lt_least (hw : 0 < w) (p : Pl) (h : 0 ≤ p.2 ∧ p.2 < R) : ∃ a o, told (waysOf w t ws).tri a o ∧ (0 ≤ (sh R a o p).1 ∧ (sh R a o p).1 < (waysOf w t ws).tri.least) ∧ 0 ≤ (sh R a o p).2 ∧ (sh R a o p).2 < R := by
  obtain ⟨a, o, g, e⟩ := LS_rel R (waysOf w t ws).tri p
  have r := LS_range (R := R) (ways_least (t := t) (ws := ws) hw).1 p
  rw [e] at r
  exact ⟨a, o, g, r, flip_range h⟩
/-- whether a place and its wished one are alike does not change by shifts -/
theorem kept_shift (hw : 0 < w) {x : Wish} {a o : Int} (g : Gl.told (waysOf w t ws).tri a o) (p : Pl) : L R (waysOf w t ws) (wished R x (sh R a o p)) = L R (waysOf w t ws) (sh R a o p) ↔ L R (waysOf w t ws) (wished R x p) = L R (waysOf w t ws) p := by
  rw [L_told hw g]
  have : L R (waysOf w t ws) (wished R x (sh R a o p)) = L R (waysOf w t ws) (wished R x p) := by
    cases hb : x.back with
    | false =>
      rw [wished_sh hb, wished_sh hb, sh_sh, Int.add_comm x.late, Int.add_comm (bit x.over), ← sh_sh, L_told hw g]
    | true =>
      rw [wished_mi hb, wished_mi hb, mi_sh, L_told hw]
      exact (told_sub _).two ((told_sub _).neg g) (by omega)
  rw [this]
theorem not_two {l : Int} (h : 2 < l) {x a : Int} {k k' : Int} (e : x = k * l) (e' : x - 2 = k' * l ∨ x + 2 = k' * l) : False := by
  rcases e' with e' | e'
  · have d : 2 = (k - k') * l := by rw [Int.sub_mul]; omega
    have := mul_zero_of_small (by omega) (by omega) d
    rw [this, Int.zero_mul] at d; omega
  · have d : 2 = (k' - k) * l := by rw [Int.sub_mul]; omega
    have := mul_zero_of_small (by omega) (by omega) d
    rw [this, Int.zero_mul] at d; omega
theorem LS_mi {T : Tri} (h : 0 < T.least) {m o : Int} {p q : Pl} (e : LS R T q = LS R T p) : LS R T (mi R m o q) = LS R T (mi R m o p) := by
  obtain ⟨a, b, g, rfl⟩ := (LS_eq_iff h).mp e
  rw [mi_sh, LS_inv h]
  exact (told_sub T).two ((told_sub T).neg g) (by omega)
theorem LS_mm {T : Tri} (h : 0 < T.least) {m o : Int} {p : Pl} : LS R T (mi R m o (mi R m o p)) = LS R T p := by
  rw [mi_mi, Int.sub_self, sh_eq (a := 0) (q := 0) (by omega), sh_zero]
/-- places alike: by a shift, or by the mirror and a shift -/
theorem L_eq_iff (hw : 0 < w) {p q : Pl} : L R (waysOf w t ws) q = L R (waysOf w t ws) p ↔ LS R (waysOf w t ws).tri q = LS R (waysOf w t ws).tri p ∨ ∃ m, (waysOf w t ws).mir = some m ∧ LS R (waysOf w t ws).tri q = LS R (waysOf w t ws).tri (mi R m.1 m.2 p) := by
  have h0 := (ways_least (t := t) (ws := ws) hw).1
  constructor
  · intro e
    cases em : (waysOf w t ws).mir with
    | none => rw [L_no em, L_no em] at e; exact .inl e
    | some m =>
      rw [L_mir em (mir_bit em), L_mir em (mir_bit em)] at e
      rcases minP_or (LS R (waysOf w t ws).tri q) (LS R (waysOf w t ws).tri (mi R m.1 m.2 q)) with h | h <;> rcases minP_or (LS R (waysOf w t ws).tri p) (LS R (waysOf w t ws).tri (mi R m.1 m.2 p)) with h' | h' <;> rw [h, h'] at e
      · exact .inl e
      · exact .inr ⟨m, rfl, e⟩
      · refine .inr ⟨m, rfl, ?_⟩
        rw [← LS_mi h0 e, LS_mm h0]
      · left
        rw [← LS_mm (m := m.1) (o := m.2) h0 (p := q), LS_mi h0 e, LS_mm h0]
  · rintro (e | ⟨m, em, e⟩)
    · obtain ⟨a, o, g, rfl⟩ := (LS_eq_iff h0).mp e
      exact L_told hw g p
    · obtain ⟨a, o, g, rfl⟩ := (LS_eq_iff h0).mp e
      rw [L_told hw g, L_mi hw em]
theorem LS_fst_eq {T : Tri} {p q : Pl} (h : 0 < T.least) (e : LS R T q = LS R T p) : ∃ k : Int, q.1 - p.1 = k * T.least := by
  obtain ⟨a, o, ⟨k, e1, _⟩, rfl⟩ := (LS_eq_iff h).mp e
  exact ⟨k, by show p.1 + a - p.1 = _; omega⟩
/-- alike at the first two ticks is alike everywhere, where shifts are great -/
theorem kept_two (hw : 0 < w) {x : Wish} (hl : 2 < (waysOf w t ws).tri.least) {y : Int} (h0 : L R (waysOf w t ws) (wished R x (0, y)) = L R (waysOf w t ws) (0, y)) (h1 : L R (waysOf w t ws) (wished R x (1, y)) = L R (waysOf w t ws) (1, y)) (c : Int) : L R (waysOf w t ws) (wished R x (c, y)) = L R (waysOf w t ws) (c, y) := by
  have hp : 0 < (waysOf w t ws).tri.least := by omega
  have shc : ∀ a : Int, sh R (c - a) 0 (a, y) = (c, y) := fun a => by
    unfold sh
    rw [flip_zero]
    dsimp only
    congr 1
    omega
  rw [L_eq_iff hw] at h0 h1 ⊢
  cases hb : x.back with
  | false =>
    rw [wished_sh hb] at h0 h1 ⊢
    have go : ∀ a : Int, LS R (waysOf w t ws).tri (sh R x.late (bit x.over) (a, y)) = LS R (waysOf w t ws).tri (a, y) → LS R (waysOf w t ws).tri (sh R x.late (bit x.over) (c, y)) = LS R (waysOf w t ws).tri (c, y) := fun a e => by
      obtain ⟨b, o, g, e⟩ := (LS_eq_iff hp).mp e
      rw [← shc a]
      refine (LS_eq_iff hp).mpr ⟨b, o, g, ?_⟩
      rw [sh_sh, Int.add_comm x.late, Int.add_comm (bit x.over), ← sh_sh, e, sh_sh, sh_sh, Int.add_comm b, Int.add_comm o]
    rcases h0 with h0 | ⟨m, em, h0⟩
    · exact .inl (go 0 h0)
    · rcases h1 with h1 | ⟨m', em', h1⟩
      · exact .inl (go 1 h1)
      · rw [em] at em'; cases em'
        obtain ⟨k, e⟩ := LS_fst_eq hp h0
        obtain ⟨k', e'⟩ := LS_fst_eq hp h1
        exfalso
        refine not_two (a := 0) (k' := k') hl e (.inr ?_)
        rw [← e']
        show (0 : Int) + x.late - (m.1 - 0) + 2 = 1 + x.late - (m.1 - 1)
        omega
  | true =>
    rw [wished_mi hb] at h0 h1 ⊢
    have go : ∀ (a : Int) (m : Pl), (waysOf w t ws).mir = some m → LS R (waysOf w t ws).tri (mi R x.late (bit x.over) (a, y)) = LS R (waysOf w t ws).tri (mi R m.1 m.2 (a, y)) → LS R (waysOf w t ws).tri (mi R x.late (bit x.over) (c, y)) = LS R (waysOf w t ws).tri (mi R m.1 m.2 (c, y)) := fun a m _ e => by
      obtain ⟨b, o, g, e⟩ := (LS_eq_iff hp).mp e
      rw [← shc a]
      refine (LS_eq_iff hp).mpr ⟨b, o, g, ?_⟩
      rw [mi_sh, mi_sh, e, sh_sh, sh_sh, Int.add_comm b, Int.add_comm o]
    rcases h0 with h0 | ⟨m, em, h0⟩
    · rcases h1 with h1 | ⟨m', em', h1⟩
      · obtain ⟨k, e⟩ := LS_fst_eq hp h0
        obtain ⟨k', e'⟩ := LS_fst_eq hp h1
        exfalso
        refine not_two (a := 0) (k' := k') hl e (.inl ?_)
        rw [← e']
        show x.late - 0 - 0 - 2 = x.late - 1 - 1
        omega
      · exact .inr ⟨m', em', go 1 m' em' h1⟩
    · exact .inr ⟨m, em, go 0 m em h0⟩
end
section
variable {R w : Nat} {t : Bool} {ws : List Wish}
/-- is_kept -/
def isKept (R : Nat) (W : Way) (x : Wish) : Bool := (List.range (if W.tri.least ≤ 64 then W.tri.least.toNat else 10)).all fun a => (List.range R).all fun y => decide (L R W (wished R x ((a : Int), (y : Int))) = L R W ((a : Int), (y : Int)))
theorem kept_iff (hw : 0 < w) {x : Wish} : isKept R (waysOf w t ws) x = true ↔ ∀ p : Pl, 0 ≤ p.2 → p.2 < R → L R (waysOf w t ws) (wished R x p) = L R (waysOf w t ws) p := by
  have hw' : 0 < (w : Int) := by omega
  have h0 := (ways_least (t := t) (ws := ws) hw').1
  unfold isKept
  rw [List.all_eq_true]
  constructor
  · intro h p p1 p2
    have at_ : ∀ (a y : Nat), a < (if (waysOf w t ws).tri.least ≤ 64 then (waysOf w t ws).tri.least.toNat else 10) → y < R → L R (waysOf w t ws) (wished R x ((a : Int), (y : Int))) = L R (waysOf w t ws) ((a : Int), (y : Int)) := fun a y ha hy => by
      have := List.all_eq_true.mp (h a (List.mem_range.mpr ha)) y (List.mem_range.mpr hy)
      exact of_decide_eq_true this
    by_cases hl : (waysOf w t ws).tri.least ≤ 64
    · rw [if_pos hl] at at_
      obtain ⟨a, o, g, r1, r2⟩ := L_lt_least (R := R) (t := t) (ws := ws) hw' p ⟨p1, p2⟩
      rw [← kept_shift hw' g]
      have := at_ (sh R a o p).1.toNat (sh R a o p).2.toNat (by omega) (by omega)
      rw [Int.toNat_of_nonneg r1.1, Int.toNat_of_nonneg r2.1] at this
      exact this
    · rw [if_neg hl] at at_
      have e0 := at_ 0 p.2.toNat (by decide) (by omega)
      have e1 := at_ 1 p.2.toNat (by decide) (by omega)
      rw [Int.toNat_of_nonneg p1] at e0 e1
      exact kept_two hw' (by omega) e0 e1 p.1
  · intro h a _
    rw [List.all_eq_true]
    intro y hy
    exact decide_eq_true (h _ (by dsimp only; omega) (by have := List.mem_range.mp hy; dsimp only; omega))
end
/-- ticks_to_tell -/
def tellsOf (W : Way) : Int := match W.mir with
  | none => W.tri.least
  | some m => (if m.1 % W.tri.least = W.tri.least - 1 then m.1 % W.tri.least else W.tri.least + m.1 % W.tri.least) / 2 + 1
theorem minP_fst (p q : Pl) : (minP p q).1 = p.1 ∧ p.1 ≤ q.1 ∨ (minP p q).1 = q.1 ∧ q.1 ≤ p.1 := by
  unfold minP
  split
  · rename_i h
    have := (plt_iff.mp h).1
    unfold ple at this
    omega
  · rename_i h
    have := plt_false h
    unfold ple at this
    omega
theorem emod_sub {m x l : Int} (hl : 0 < l) (h1 : 0 ≤ x) (h2 : x < l) : (m - x) % l = if x ≤ m % l then m % l - x else m % l - x + l := by
  obtain ⟨a1, a2, q, a3⟩ := emod_spec m hl
  generalize m % l = r at *
  split
  · rw [a3, show q * l + r - x = r - x + q * l by omega, Int.add_mul_emod_self_right]
    exact Int.emod_eq_of_lt (by omega) (by omega)
  · rw [a3, show q * l + r - x = r - x + l + (q - 1) * l by rw [Int.sub_mul]; omega, Int.add_mul_emod_self_right]
    exact Int.emod_eq_of_lt (by omega) (by omega)
section
variable {R w : Int} {t : Bool} {ws : List Wish}
theorem L_fst (hw : 0 < w) {p : Pl} {m : Pl} (e : (waysOf w t ws).mir = some m) : (L R (waysOf w t ws) p).1 = min2 (p.1 % (waysOf w t ws).tri.least) ((m.1 - p.1) % (waysOf w t ws).tri.least) := by
  rw [L_mir e (mir_bit e)]
  have a1 := LS_fst (R := R) (T := (waysOf w t ws).tri) p
  have a2 := LS_fst (R := R) (T := (waysOf w t ws).tri) (mi R m.1 m.2 p)
  have a3 : (mi R m.1 m.2 p).1 = m.1 - p.1 := rfl
  rw [a3] at a2
  unfold min2
  rcases minP_fst (LS R (waysOf w t ws).tri p) (LS R (waysOf w t ws).tri (mi R m.1 m.2 p)) with h | h <;> split <;> omega
theorem tells_pos (hw : 0 < w) : 1 ≤ tellsOf (waysOf w t ws) ∧ tellsOf (waysOf w t ws) ≤ (waysOf w t ws).tri.least := by
  have h0 := (ways_least (t := t) (ws := ws) hw).1
  unfold tellsOf
  split
  · omega
  · rename_i m e
    obtain ⟨a1, a2, _⟩ := emod_spec m.1 h0
    split <;> omega
theorem tells_lt (hw : 0 < w) (p : Pl) : (L R (waysOf w t ws) p).1 < tellsOf (waysOf w t ws) := by
  have h0 := (ways_least (t := t) (ws := ws) hw).1
  cases e : (waysOf w t ws).mir with
  | none =>
    unfold tellsOf
    rw [e]
    exact (L_range hw p).2
  | some m =>
    rw [L_fst hw e]
    unfold tellsOf
    rw [e]
    dsimp only
    obtain ⟨b1, b2, q, b3⟩ := emod_spec p.1 h0
    have e1 : (m.1 - p.1) % (waysOf w t ws).tri.least = (m.1 - p.1 % (waysOf w t ws).tri.least) % (waysOf w t ws).tri.least := by
      have : m.1 - p.1 = m.1 - p.1 % (waysOf w t ws).tri.least + (-q) * (waysOf w t ws).tri.least := by rw [Int.neg_mul]; omega
      rw [this, Int.add_mul_emod_self_right]
    rw [e1, emod_sub h0 b1 b2]
    obtain ⟨a1, a2, _⟩ := emod_spec m.1 h0
    unfold min2
    split <;> split <;> split <;> omega
theorem tells_last (hw : 0 < w) (y : Int) : (L R (waysOf w t ws) (tellsOf (waysOf w t ws) - 1, y)).1 = tellsOf (waysOf w t ws) - 1 := by
  have h0 := (ways_least (t := t) (ws := ws) hw).1
  have hp := tells_pos (t := t) (ws := ws) hw
  cases e : (waysOf w t ws).mir with
  | none =>
    rw [L_no e, LS_fst]
    exact Int.emod_eq_of_lt (show 0 ≤ tellsOf (waysOf w t ws) - 1 by omega) (by omega)
  | some m =>
    rw [L_fst hw e]
    have e1 : (tellsOf (waysOf w t ws) - 1) % (waysOf w t ws).tri.least = tellsOf (waysOf w t ws) - 1 := Int.emod_eq_of_lt (by omega) (by omega)
    have e2 := emod_sub (m := m.1) (x := tellsOf (waysOf w t ws) - 1) h0 (by omega) (by omega)
    show min2 ((tellsOf (waysOf w t ws) - 1) % (waysOf w t ws).tri.least) ((m.1 - (tellsOf (waysOf w t ws) - 1)) % (waysOf w t ws).tri.least) = _
    rw [e1, e2]
    clear e1 e2
    unfold tellsOf at hp ⊢
    rw [e] at hp ⊢
    dsimp only at hp ⊢
    obtain ⟨a1, a2, _⟩ := emod_spec m.1 h0
    unfold min2
    split at hp <;> split <;> split <;> first | omega | (split <;> omega)
end
end L3.Gl
set_option maxRecDepth 100000
set_option maxHeartbeats 1000000
/-! GE: pairs that a wish asks of; tunes. -/
namespace L3.Gl
/-- all pairs of cells of which a wish asks that they are alike -/
def askedOf (R w : Nat) (t : Bool) (x : Wish) : List (Pl × Pl) := (List.range (2 * w)).flatMap fun (a : Nat) => (List.range R).map fun (y : Nat) => (play R w t ((a : Int), (y : Int)), play R w t (wished R x ((a : Int), (y : Int))))
section
variable {R w : Nat} {t : Bool} {x : Wish} {ws : List Wish}
theorem play_two (hw : 0 < w) (p : Pl) (k : Int) : play (R : Int) w t (sh R (k * (2 * w)) 0 p) = play R w t p := by
  have hw' : (w : Int) ≠ 0 := by omega
  unfold play sh
  dsimp only
  rw [flip_zero, show p.1 + k * (2 * (w : Int)) = p.1 + (w : Int) * (2 * k) by rw [Int.mul_comm k, Int.mul_assoc, Int.mul_left_comm], Int.add_mul_emod_self_left, Int.add_mul_ediv_left _ _ hw']
  rw [show (p.1 / (w : Int) + 2 * k) % 2 = p.1 / (w : Int) % 2 by omega]
theorem wished_two (p : Pl) (k : Int) : ∃ j : Int, wished (R : Int) x (sh R (k * (2 * w)) 0 p) = sh R (j * (2 * w)) 0 (wished R x p) := by
  cases hb : x.back with
  | false => exact ⟨k, by rw [wished_sh hb, wished_sh hb, sh_sh, sh_sh, Int.add_comm x.late, Int.add_comm (bit x.over)]⟩
  | true => exact ⟨-k, by rw [wished_mi hb, wished_mi hb, mi_sh, Int.neg_mul]⟩
theorem mem_asked {pq : Pl × Pl} : pq ∈ askedOf R w t x ↔ ∃ p : Pl, (0 ≤ p.1 ∧ p.1 < 2 * w) ∧ (0 ≤ p.2 ∧ p.2 < R) ∧ pq = (play R w t p, play R w t (wished R x p)) := by
  unfold askedOf
  rw [List.mem_flatMap]
  constructor
  · rintro ⟨a, ha, h⟩
    obtain ⟨y, hy, rfl⟩ := List.mem_map.mp h
    rw [List.mem_range] at ha hy
    exact ⟨((a : Int), (y : Int)), by dsimp only; omega, by dsimp only; omega, rfl⟩
  · rintro ⟨p, h1, h2, rfl⟩
    refine ⟨p.1.toNat, List.mem_range.mpr (by omega), List.mem_map.mpr ⟨p.2.toNat, List.mem_range.mpr (by omega), ?_⟩⟩
    rw [Int.toNat_of_nonneg h1.1, Int.toNat_of_nonneg h2.1]
theorem asked_iff {α : Type} (hw : 0 < w) (S : Pl → α) : (∀ pq ∈ askedOf R w t x, S pq.1 = S pq.2) ↔ ∀ p : Pl, 0 ≤ p.2 → p.2 < R → S (play R w t p) = S (play R w t (wished R x p)) := by
  constructor
  · intro h p p1 p2
    obtain ⟨a1, a2, q, a3⟩ := emod_spec p.1 (l := 2 * (w : Int)) (by omega)
    have e : p = sh R (q * (2 * w)) 0 (p.1 % (2 * w), p.2) := by
      unfold sh
      rw [flip_zero]
      dsimp only
      rw [show p.1 % (2 * (w : Int)) + q * (2 * (w : Int)) = p.1 by omega]
    obtain ⟨j, ej⟩ := wished_two (R := R) (w := w) (x := x) (p.1 % (2 * w), p.2) q
    have := h (play R w t (p.1 % (2 * w), p.2), play R w t (wished R x (p.1 % (2 * w), p.2))) (mem_asked.mpr ⟨(p.1 % (2 * w), p.2), ⟨a1, by dsimp only; omega⟩, ⟨p1, p2⟩, rfl⟩)
    rw [e, play_two hw, ej, play_two hw]
    exact this
  · rintro h pq hpq
    obtain ⟨p, _, h2, rfl⟩ := mem_asked.mp hpq
    exact h p h2.1 h2.2
theorem wished_row {p : Pl} : (0 ≤ (wished (R : Int) x p).2 ∧ (wished (R : Int) x p).2 < R) ↔ (0 ≤ p.2 ∧ p.2 < R) := by
  unfold wished
  dsimp only
  split <;> omega
theorem flip_row {R o y : Int} : (0 ≤ flip R o y ∧ flip R o y < R) ↔ (0 ≤ y ∧ y < R) := by unfold flip; split <;> omega
theorem play_row {p : Pl} : (0 ≤ (play (R : Int) w t p).2 ∧ (play (R : Int) w t p).2 < R) ↔ (0 ≤ p.2 ∧ p.2 < R) := by
  rw [play_sh]
  exact flip_row
/-- a function of cells that wishes keep is one of lots -/
theorem keeps_iff (hw : 0 < w) (S : Pl → Bool) : (∀ x ∈ ws, ∀ pq ∈ askedOf R w t x, S pq.1 = S pq.2) ↔ ∀ p, Cell R w p → S (L R (waysOf w t ws) p) = S p := by
  have hw' : 0 < (w : Int) := by omega
  constructor
  · intro h p hp
    have I : Inv R w t ws (fun p : Pl => decide (0 ≤ p.2 ∧ p.2 < R) && S (play R w t p)) := by
      refine ⟨fun q => ?_, fun x hx q => ?_⟩
      · rw [play_glue hw', show decide (0 ≤ (sh (R : Int) w (bit t) q).2 ∧ (sh (R : Int) w (bit t) q).2 < R) = decide (0 ≤ q.2 ∧ q.2 < R) from decide_eq_decide.mpr flip_row]
      · rw [show decide (0 ≤ (wished (R : Int) x q).2 ∧ (wished (R : Int) x q).2 < R) = decide (0 ≤ q.2 ∧ q.2 < R) from decide_eq_decide.mpr wished_row]
        by_cases hq : 0 ≤ q.2 ∧ q.2 < R
        · rw [decide_eq_true hq, (asked_iff hw S).mp (h x hx) q hq.1 hq.2]
        · rw [decide_eq_false hq]; rfl
    have e := L_sound I p
    have hc := L_cell (t := t) (ws := ws) hw' (p := p) hp.2
    rw [play_self hc, play_self hp, decide_eq_true hc.2, decide_eq_true hp.2, Bool.true_and, Bool.true_and] at e
    exact e
  · intro h x hx
    rw [asked_iff hw S]
    intro p p1 p2
    have i := L_inv (R := R) (w := w) (t := t) (ws := ws) hw'
    rw [← h _ (play_cell hw' ⟨p1, p2⟩), ← h _ (play_cell hw' (wished_row.mpr ⟨p1, p2⟩)), i.play, i.play, i.wish x hx]
/-- a wish follows just if all tunes keep it that keep the wishes -/
theorem follow_iff (hw : 0 < w) : isKept R (waysOf w t ws) x = true ↔ ∀ S : Pl → Bool, (∀ p, Cell R w p → S (L R (waysOf w t ws) p) = S p) → ∀ pq ∈ askedOf R w t x, S pq.1 = S pq.2 := by
  have hw' : 0 < (w : Int) := by omega
  have i := L_inv (R := R) (w := w) (t := t) (ws := ws) hw'
  rw [kept_iff hw]
  constructor
  · intro h S hS
    rw [asked_iff hw S]
    intro p p1 p2
    rw [← hS _ (play_cell hw' ⟨p1, p2⟩), ← hS _ (play_cell hw' (wished_row.mpr ⟨p1, p2⟩)), i.play, i.play, h p p1 p2]
  · intro h p p1 p2
    have := (asked_iff (x := x) (t := t) hw (fun q => decide (L R (waysOf w t ws) q = L R (waysOf w t ws) p))).mp (h (fun q => decide (L R (waysOf w t ws) q = L R (waysOf w t ws) p)) fun q _ => by rw [L_idem hw']) p p1 p2
    rw [i.play, i.play, decide_eq_true rfl] at this
    exact of_decide_eq_true this.symm
/-! ### all sets of cells -/
def subsOf (cs : List Pl) : List (List Pl) := cs.foldl (fun F c => F ++ F.map fun s => s ++ [c]) [[]]
theorem subsOf_snoc (cs : List Pl) (c : Pl) : subsOf (cs ++ [c]) = subsOf cs ++ (subsOf cs).map fun s => s ++ [c] := by
  unfold subsOf
  rw [List.foldl_append]
  rfl
theorem snoc_ind {α : Type} {P : List α → Prop} (h0 : P []) (h1 : ∀ l a, P l → P (l ++ [a])) : ∀ l, P l := fun l => by
  have : ∀ r : List α, P r.reverse := fun r => by
    induction r with
    | nil => exact h0
    | cons a r ih => rw [List.reverse_cons]; exact h1 _ _ ih
  have e := this l.reverse
  rwa [List.reverse_reverse] at e
theorem subs_sub : ∀ (cs : List Pl) (s : List Pl), s ∈ subsOf cs → ∀ p ∈ s, p ∈ cs := by
  intro cs
  refine snoc_ind (P := fun cs => ∀ s : List Pl, s ∈ subsOf cs → ∀ p ∈ s, p ∈ cs) ?_ ?_ cs
  · intro s hs p hp
    have : s = [] := by simpa [subsOf] using hs
    rw [this] at hp; cases hp
  · intro cs c ih s hs p hp
    rw [subsOf_snoc] at hs
    rcases List.mem_append.mp hs with h | h
    · exact List.mem_append_left _ (ih s h p hp)
    · obtain ⟨r, hr, rfl⟩ := List.mem_map.mp h
      rcases List.mem_append.mp hp with h' | h'
      · exact List.mem_append_left _ (ih r hr p h')
      · exact List.mem_append_right _ h'
/-- cells ascend -/
theorem cells_asc (R w : Nat) : (cells R w).Pairwise fun a b => plt a b = true := by
  unfold cells
  rw [List.pairwise_flatMap]
  constructor
  · intro x _
    rw [List.pairwise_map]
    refine List.Pairwise.imp ?_ List.pairwise_lt_range
    intro a b h
    unfold plt
    dsimp only
    rw [if_pos rfl]
    exact decide_eq_true (by omega)
  · refine List.Pairwise.imp ?_ List.pairwise_lt_range
    intro a b h x hx y hy
    obtain ⟨c, _, rfl⟩ := List.mem_map.mp hx
    obtain ⟨d, _, rfl⟩ := List.mem_map.mp hy
    unfold plt
    dsimp only
    rw [if_neg (by omega)]
    exact decide_eq_true (by omega)
theorem plt_asymm {p q : Pl} (h : plt p q = true) (h' : ple q p) : False := (plt_iff.mp h).2 (ple_antisymm (plt_iff.mp h).1 h')
/-- the least cell of a lot stands ahead -/
theorem L_ahead (hw : 0 < w) {pre post : List Pl} {c : Pl} (e : cells R w = pre ++ c :: post) : L R (waysOf w t ws) c = c ∨ L R (waysOf w t ws) c ∈ pre := by
  have hw' : 0 < (w : Int) := by omega
  have hc : Cell R w c := mem_cells.mp (by rw [e]; exact List.mem_append_right _ List.mem_cons_self)
  have hl : L R (waysOf w t ws) c ∈ cells R w := mem_cells.mpr (L_cell hw' hc.2)
  rw [e] at hl
  rcases List.mem_append.mp hl with h | h
  · exact .inr h
  · rcases List.mem_cons.mp h with h | h
    · exact .inl h
    · exfalso
      have a := cells_asc R w
      rw [e, List.pairwise_append] at a
      have b := (List.pairwise_cons.mp a.2.1).1 _ h
      exact plt_asymm b (L_le hw' hc.1.1)
/-- a set of cells that is one of lots, so far -/
def lotwise (f : Pl → Pl) (cs s : List Pl) : Bool := cs.all fun p => decide (f p ∈ s) == decide (p ∈ s)
theorem lotwise_iff {f : Pl → Pl} {cs s : List Pl} : lotwise f cs s = true ↔ ∀ p ∈ cs, (f p ∈ s ↔ p ∈ s) := by
  unfold lotwise
  rw [List.all_eq_true]
  refine forall_congr' fun p => imp_congr_right fun _ => ?_
  rw [beq_iff_eq, decide_eq_decide]
theorem count_split {α : Type} (p q : α → Bool) : ∀ l : List α, l.countP (fun a => p a && q a) + l.countP (fun a => p a && !q a) = l.countP p
  | [] => rfl
  | a :: l => by
    have := count_split p q l
    rw [List.countP_cons, List.countP_cons, List.countP_cons]
    cases p a <;> cases q a <;> simp <;> omega
theorem subs_count {f : Pl → Pl} : ∀ cs : List Pl, cs.Nodup → (∀ pre c post, cs = pre ++ c :: post → f c = c ∨ f c ∈ pre) → (subsOf cs).countP (lotwise f cs) = 2 ^ cs.countP (fun p => decide (f p = p)) := by
  refine snoc_ind ?_ ?_
  · intro _ _
    simp [subsOf, lotwise]
  · intro cs c ih hn hf
    have hn' : cs.Nodup ∧ c ∉ cs := by
      rw [List.nodup_append] at hn
      exact ⟨hn.1, fun h => hn.2.2 c h c (by simp) rfl⟩
    have hf' : ∀ p ∈ cs, f p ∈ cs := by
      intro p hp
      obtain ⟨a, b, e⟩ := List.append_of_mem hp
      rcases hf a p (b ++ [c]) (by rw [e]; simp) with h | h
      · rw [h]; exact hp
      · rw [e]; exact List.mem_append_left _ h
    have ih := ih hn'.1 fun pre d post e => hf pre d (post ++ [c]) (by rw [e]; simp)
    have hc := hf cs c [] rfl
    rw [subsOf_snoc, List.countP_append, List.countP_map, List.countP_append]
    have cnt1 : [c].countP (fun p => decide (f p = p)) = if f c = c then 1 else 0 := by
      rw [List.countP_cons, List.countP_nil]; simp
    rw [cnt1]
    have noc : ∀ s ∈ subsOf cs, c ∉ s := fun s hs h => hn'.2 (subs_sub cs s hs c h)
    have e1 : (subsOf cs).countP (lotwise f (cs ++ [c])) = (subsOf cs).countP fun s => lotwise f cs s && !decide (f c ∈ s) := by
      refine List.countP_congr fun s hs => ?_
      rw [Bool.and_eq_true, lotwise_iff, lotwise_iff, Bool.not_eq_true', decide_eq_false_iff_not]
      constructor
      · intro h
        exact ⟨fun p hp => h p (List.mem_append_left _ hp), fun z => noc s hs ((h c (by simp)).mp z)⟩
      · rintro ⟨h1, h2⟩ p hp
        rcases List.mem_append.mp hp with h | h
        · exact h1 p h
        · have : p = c := by simpa using h
          rw [this]
          exact ⟨fun z => absurd z h2, fun z => absurd z (noc s hs)⟩
    have e2 : (subsOf cs).countP (lotwise f (cs ++ [c]) ∘ fun s => s ++ [c]) = (subsOf cs).countP fun s => lotwise f cs s && (decide (f c ∈ s) || decide (f c = c)) := by
      refine List.countP_congr fun s hs => ?_
      dsimp only [Function.comp]
      rw [Bool.and_eq_true, lotwise_iff, lotwise_iff, Bool.or_eq_true, decide_eq_true_eq, decide_eq_true_eq]
      have inn : ∀ p ∈ cs, (p ∈ s ++ [c] ↔ p ∈ s) := fun p hp => by
        rw [List.mem_append]
        refine ⟨fun z => z.resolve_right fun z => ?_, .inl⟩
        have : p = c := by simpa using z
        exact hn'.2 (this ▸ hp)
      constructor
      · intro h
        refine ⟨fun p hp => ?_, ?_⟩
        · have := h p (List.mem_append_left _ hp)
          rwa [inn p hp, inn _ (hf' p hp)] at this
        · have := (h c (by simp)).mpr (by simp)
          rcases List.mem_append.mp this with z | z
          · exact .inl z
          · exact .inr (by simpa using z)
      · rintro ⟨h1, h2⟩ p hp
        rcases List.mem_append.mp hp with h | h
        · rw [inn p h, inn _ (hf' p h)]; exact h1 p h
        · have e : p = c := by simpa using h
          rw [e]
          refine ⟨fun _ => by simp, fun _ => ?_⟩
          rcases h2 with z | z
          · exact List.mem_append_left _ z
          · rw [z]; simp
    rw [e1, e2, Nat.pow_add, ← ih]
    by_cases h : f c = c
    · rw [if_pos h]
      have a1 : (subsOf cs).countP (fun s => lotwise f cs s && !decide (f c ∈ s)) = (subsOf cs).countP (lotwise f cs) := by
        refine List.countP_congr fun s hs => ?_
        rw [h, decide_eq_false (noc s hs)]; simp
      have a2 : (subsOf cs).countP (fun s => lotwise f cs s && (decide (f c ∈ s) || decide (f c = c))) = (subsOf cs).countP (lotwise f cs) := by
        refine List.countP_congr fun s hs => ?_
        rw [decide_eq_true h]; simp
      rw [a1, a2]
      omega
    · rw [if_neg h]
      have a2 : (subsOf cs).countP (fun s => lotwise f cs s && (decide (f c ∈ s) || decide (f c = c))) = (subsOf cs).countP (fun s => lotwise f cs s && decide (f c ∈ s)) := by
        refine List.countP_congr fun s hs => ?_
        rw [decide_eq_false h]; simp
      rw [a2, Nat.pow_zero, Nat.mul_one]
      have := count_split (lotwise f cs) (fun s => decide (f c ∈ s)) (subsOf cs)
      omega
/-- so many tunes keep the wishes -/
theorem tunes_count (hw : 0 < w) : (subsOf (cells R w)).countP (lotwise (L R (waysOf w t ws)) (cells R w)) = 2 ^ lotsN R w t ws :=
  subs_count (cells R w) (cells_nodup R w) fun _ _ _ e => L_ahead hw e
end
end L3.Gl
set_option maxRecDepth 100000
set_option maxHeartbeats 4000000
namespace L3.K01
open PySem PySem.Spec PyProof.Rows L2 L2H LamX L3
def bis_int_s1 : WS := (sRet (wAnd (wIsi "int" (wVar 0)) (wAnd (wNot (wIsi "bool" (wVar 0))) (wLeLe (wVar 1) (wVar 0) (wVar 2)))))
def bis_int : WS := bis_int_s1
theorem X_is_int : ∃ c : CtD, c = fun ds M Q E => bis_int (startD ["value", "low", "high"] ds) M { nx := fun _ M' => Q .non M', rt := Q, bk := fun _ _ => False, ct := fun _ _ => False } E := ⟨_, rfl⟩
noncomputable def C_is_int : CtD := (X_is_int).choose
theorem Cq_is_int : C_is_int = fun ds M Q E => bis_int (startD ["value", "low", "high"] ds) M { nx := fun _ M' => Q .non M', rt := Q, bk := fun _ _ => False, ct := fun _ _ => False } E := (X_is_int).choose_spec
def bis_loop_s1 : WS := (sRet (wC (.bl false)))
def bis_loop_s2 : WS := (sRet (wC (.bl false)))
def bis_loop_s3 : WS := (sIf (uOr (uNot (wTst (wIsi "tuple" (wVar 0)))) (tstOp (oEq true) (wB oLen (zCons (wVar 0) zNil)) (wC (.int 3)))) bis_loop_s1 sNil)
def bis_loop_s4 : WS := (sIf (uOr (uNot (wTst (wCall 3 C_is_int (zCons (wOp oIx (wVar 0) (wC (.int 0))) (zCons (wC (.int 1)) (zCons (wC (.int 4)) zNil)))))) (uNot (wTst (wCall 3 C_is_int (zCons (wOp oIx (wVar 0) (wC (.int 1))) (zCons (wC (.int 1)) (zCons (wC (.int 4)) zNil))))))) bis_loop_s2 sNil)
def bis_loop_s5 : WS := (sRet (wAnd (wOp (oIn false) (wOp oIx (wVar 0) (wC (.int 1))) (wC (.kup ([1, 2, 4].map D.int)))) (wIsi "bool" (wOp oIx (wVar 0) (wC (.int 2))))))
def bis_loop : WS := (sSeq bis_loop_s3 (sSeq bis_loop_s4 bis_loop_s5))
theorem X_is_loop : ∃ c : CtD, c = fun ds M Q E => bis_loop (startD ["value"] ds) M { nx := fun _ M' => Q .non M', rt := Q, bk := fun _ _ => False, ct := fun _ _ => False } E := ⟨_, rfl⟩
noncomputable def C_is_loop : CtD := (X_is_loop).choose
theorem Cq_is_loop : C_is_loop = fun ds M Q E => bis_loop (startD ["value"] ds) M { nx := fun _ M' => Q .non M', rt := Q, bk := fun _ _ => False, ct := fun _ _ => False } E := (X_is_loop).choose_spec
def bis_wish_s1 : WS := (sRet (wC (.bl false)))
def bis_wish_s2 : WS := (sIf (uOr (uNot (wTst (wIsi "tuple" (wVar 0)))) (tstOp (oEq true) (wB oLen (zCons (wVar 0) zNil)) (wC (.int 3)))) bis_wish_s1 sNil)
def bis_wish_s3 : WS := (sRet (wAnd (wCall 3 C_is_int (zCons (wOp oIx (wVar 0) (wC (.int 0))) (zCons (wOp oSub (wC (.int 0)) (wC (.int 12))) (zCons (wC (.int 12)) zNil)))) (wAnd (wIsi "bool" (wOp oIx (wVar 0) (wC (.int 1)))) (wIsi "bool" (wOp oIx (wVar 0) (wC (.int 2)))))))
def bis_wish : WS := (sSeq bis_wish_s2 bis_wish_s3)
theorem X_is_wish : ∃ c : CtD, c = fun ds M Q E => bis_wish (startD ["value"] ds) M { nx := fun _ M' => Q .non M', rt := Q, bk := fun _ _ => False, ct := fun _ _ => False } E := ⟨_, rfl⟩
noncomputable def C_is_wish : CtD := (X_is_wish).choose
theorem Cq_is_wish : C_is_wish = fun ds M Q E => bis_wish (startD ["value"] ds) M { nx := fun _ M' => Q .non M', rt := Q, bk := fun _ _ => False, ct := fun _ _ => False } E := (X_is_wish).choose_spec
def bneed_loop_s1 : WS := (sRaise "InvalidLoop")
def bneed_loop_s2 : WS := (sIf (uNot (wTst (wCall 1 C_is_loop (zCons (wVar 0) zNil)))) bneed_loop_s1 sNil)
def bneed_loop : WS := bneed_loop_s2
theorem X_need_loop : ∃ c : CtD, c = fun ds M Q E => bneed_loop (startD ["loop"] ds) M { nx := fun _ M' => Q .non M', rt := Q, bk := fun _ _ => False, ct := fun _ _ => False } E := ⟨_, rfl⟩
noncomputable def C_need_loop : CtD := (X_need_loop).choose
theorem Cq_need_loop : C_need_loop = fun ds M Q E => bneed_loop (startD ["loop"] ds) M { nx := fun _ M' => Q .non M', rt := Q, bk := fun _ _ => False, ct := fun _ _ => False } E := (X_need_loop).choose_spec
def bneed_number_s1 : WS := (sRaise "InvalidNumber")
def bneed_number_s2 : WS := (sIf (uNot (wTst (wCall 3 C_is_int (zCons (wVar 0) (zCons (wVar 1) (zCons (wVar 2) zNil)))))) bneed_number_s1 sNil)
def bneed_number : WS := bneed_number_s2
theorem X_need_number : ∃ c : CtD, c = fun ds M Q E => bneed_number (startD ["number", "low", "high"] ds) M { nx := fun _ M' => Q .non M', rt := Q, bk := fun _ _ => False, ct := fun _ _ => False } E := ⟨_, rfl⟩
noncomputable def C_need_number : CtD := (X_need_number).choose
theorem Cq_need_number : C_need_number = fun ds M Q E => bneed_number (startD ["number", "low", "high"] ds) M { nx := fun _ M' => Q .non M', rt := Q, bk := fun _ _ => False, ct := fun _ _ => False } E := (X_need_number).choose_spec
def blength_s1 : WS := (sDrop (wCall 1 C_need_loop (zCons (wVar 0) zNil)))
def blength_s2 : WS := (sDrop (wCall 3 C_need_number (zCons (wVar 1) (zCons (wC (.int 1)) (zCons (wC (.int 1000000000000000000000000000000)) zNil)))))
def blength_s3 : WS := (sRet (wOp oMul (wOp oIx (wVar 0) (wC (.int 1))) (wVar 1)))
def blength : WS := (sSeq blength_s1 (sSeq blength_s2 blength_s3))
theorem X_length : ∃ c : CtD, c = fun ds M Q E => blength (startD ["loop", "n"] ds) M { nx := fun _ M' => Q .non M', rt := Q, bk := fun _ _ => False, ct := fun _ _ => False } E := ⟨_, rfl⟩
noncomputable def C_length : CtD := (X_length).choose
theorem Cq_length : C_length = fun ds M Q E => blength (startD ["loop", "n"] ds) M { nx := fun _ M' => Q .non M', rt := Q, bk := fun _ _ => False, ct := fun _ _ => False } E := (X_length).choose_spec
def bslit_s1 : WS := (sRet (wFz (fLst (zCons (wTup (zCons (wVar 1) (zCons (wVar 3) (zCons (wC (.bl false)) zNil)))) (zCons (wTup (zCons (wOp oSub (wVar 2) (wVar 1)) (zCons (wVar 3) (zCons (wC (.bl false)) zNil)))) zNil)))))
def bslit_s2 : WS := (sRaise "InvalidNumber")
def bslit_s3 : WS := (sDrop (wCall 1 C_need_loop (zCons (wVar 0) zNil)))
def bslit_s4 : WS := (sAsg (wVar 0) (gTupD 3 (gsCons (gSet 2) (gsCons (gSet 3) (gsCons (gSet 4) gsNil)))))
def bslit_s5 : WS := (sDrop (wCall 3 C_need_number (zCons (wVar 1) (zCons (wC (.int 1)) (zCons (wOp oSub (wVar 2) (wC (.int 1))) zNil)))))
def bslit_s6 : WS := (sIf (uNot (wTst (wVar 4))) bslit_s1 sNil)
def bslit_s7 : WS := (sIf (uOr (tstOp (oEq false) (wVar 3) (wC (.int 4))) (tstOp oGt (wOp oMul (wC (.int 2)) (wVar 1)) (wVar 2))) bslit_s2 sNil)
def bslit_s8 : WS := (sSet 5 (wFz (fLst (zCons (wTup (zCons (wVar 1) (zCons (wOp oMul (wC (.int 2)) (wVar 3)) (zCons (wC (.bl false)) zNil)))) zNil))))
def bslit_s9 : WS := (sRet (wIf (tstOp (oEq false) (wOp oMul (wC (.int 2)) (wVar 1)) (wVar 2)) (wVar 5) (wOp oAdd (wVar 5) (wFz (fLst (zCons (wTup (zCons (wOp oSub (wVar 2) (wOp oMul (wC (.int 2)) (wVar 1))) (zCons (wVar 3) (zCons (wC (.bl true)) zNil)))) zNil))))))
def bslit : WS := (sSeq bslit_s3 (sSeq bslit_s4 (sSeq bslit_s5 (sSeq bslit_s6 (sSeq bslit_s7 (sSeq bslit_s8 bslit_s9))))))
theorem X_slit : ∃ c : CtD, c = fun ds M Q E => bslit (startD ["loop", "number", "rows", "fold", "turned", "found"] ds) M { nx := fun _ M' => Q .non M', rt := Q, bk := fun _ _ => False, ct := fun _ _ => False } E := ⟨_, rfl⟩
noncomputable def C_slit : CtD := (X_slit).choose
theorem Cq_slit : C_slit = fun ds M Q E => bslit (startD ["loop", "number", "rows", "fold", "turned", "found"] ds) M { nx := fun _ M' => Q .non M', rt := Q, bk := fun _ _ => False, ct := fun _ _ => False } E := (X_slit).choose_spec
def b_law_crank_s1 : WS := (sSet 2 (wOp oMod (wB oAbs (zCons (wB oInt (zCons (wOp oIx (wVar 0) (wVar 1)) zNil)) zNil)) (wOp oMul (wOp oMul (wOp oMul (wOp oPow (wC (.int 10)) (wC (.int 60))) (wOp oPow (wC (.int 10)) (wC (.int 60)))) (wOp oPow (wC (.int 10)) (wC (.int 60)))) (wOp oPow (wC (.int 10)) (wC (.int 60))))))
def b_law_crank_s2 : WS := (sSet 2 (wOp oAdd (wVar 2) (wOp oMod (wB oAbs (zCons (wB oInt (zCons (wOp oIx (wVar 0) (wC (.int 0))) zNil)) zNil)) (wC (.int 1000357)))))
def b_law_crank_s3 : WS := (sIf (tstOp oGt (wB oLen (zCons (wVar 0) zNil)) (wC (.int 0))) b_law_crank_s2 sNil)
def b_law_crank_s4 : WS := (sSet 2 (wOp oAdd (wOp oMul (wC (.int 31337)) (wVar 1)) (wC (.int 53))))
def b_law_crank_s5 : WS := (sIf (tstOp oLt (wVar 1) (wB oLen (zCons (wVar 0) zNil))) b_law_crank_s1 b_law_crank_s3)
def b_law_crank_s6 : WS := (sRet (wSt (fLst (zCons (wIf (tstOp oGe (wVar 2) (wOp oPow (wC (.int 10)) (wC (.int 18)))) (wVar 2) (wC (.int 0))) (zCons (wOp oAdd (wOp oMod (wB oInt (zCons (wOp oAdd (wOp oAdd (wOp oMul (wOp oMod (wVar 2) (wC (.int 2147483033))) (wC (.int 7))) (wOp oMul (wC (.int 73)) (wVar 1))) (wC (.int 31))) zNil)) (wC (.int 2147483033))) (wC (.int 1))) zNil)))))
def b_law_crank : WS := (sSeq b_law_crank_s4 (sSeq b_law_crank_s5 b_law_crank_s6))
theorem X__law_crank : ∃ c : CtD, c = fun ds M Q E => b_law_crank (startD ["_law_script", "_law_k", "_law_cell"] ds) M { nx := fun _ M' => Q .non M', rt := Q, bk := fun _ _ => False, ct := fun _ _ => False } E := ⟨_, rfl⟩
noncomputable def C__law_crank : CtD := (X__law_crank).choose
theorem Cq__law_crank : C__law_crank = fun ds M Q E => b_law_crank (startD ["_law_script", "_law_k", "_law_cell"] ds) M { nx := fun _ M' => Q .non M', rt := Q, bk := fun _ _ => False, ct := fun _ _ => False } E := (X__law_crank).choose_spec
def b_law_spin_s1 : WS := (sSet 2 (wOp oMod (wB oInt (zCons (wOp oIx (wVar 0) (wC (.int 0))) zNil)) (wVar 1)))
def b_law_spin_s2 : WS := (sAsg (wOp oDiv (wOp oIx (wVar 0) (wC (.int 0))) (wVar 1)) (gSub (wVar 0) (wC (.int 0))))
def b_law_spin_s3 : WS := (sRet (wVar 2))
def b_law_spin_s4 : WS := (sAsg (wOp oMod (wB oInt (zCons (wOp oAdd (wOp oMul (wOp oIx (wVar 0) (wC (.int 1))) (wC (.int 24137))) (wC (.int 83))) zNil)) (wC (.int 2147483033))) (gSub (wVar 0) (wC (.int 1))))
def b_law_spin_s5 : WS := (sSet 2 (wOp oAdd (wOp oMul (wVar 2) (wC (.int 8192))) (wOp oMod (wB oInt (zCons (wOp oDiv (wOp oIx (wVar 0) (wC (.int 1))) (wC (.int 65617))) zNil)) (wC (.int 8192)))))
def b_law_spin_s6 : WS := (sSet 3 (wOp oMul (wVar 3) (wC (.int 8192))))
def b_law_spin_s7 : WS := (sIf (tstOp oGt (wOp oIx (wVar 0) (wC (.int 0))) (wC (.int 0))) (sSeq b_law_spin_s1 (sSeq b_law_spin_s2 b_law_spin_s3)) sNil)
def b_law_spin_s8 : WS := (sAsg (wTup (zCons (wC (.int 0)) (zCons (wC (.int 1)) zNil))) (gTupD 2 (gsCons (gSet 2) (gsCons (gSet 3) gsNil))))
def b_law_spin_s9 : WS := (sWhile (uOr (tstOp oLt (wVar 3) (wVar 1)) (tstOp (oEq false) (wVar 3) (wC (.int 1)))) (sSeq b_law_spin_s4 (sSeq b_law_spin_s5 b_law_spin_s6)))
def b_law_spin_s10 : WS := (sRet (wOp oMod (wB oInt (zCons (wVar 2) zNil)) (wVar 1)))
def b_law_spin : WS := (sSeq b_law_spin_s7 (sSeq b_law_spin_s8 (sSeq b_law_spin_s9 b_law_spin_s10)))
theorem X__law_spin : ∃ c : CtD, c = fun ds M Q E => b_law_spin (startD ["_law_crank_here", "_law_many", "_law_found", "_law_wide"] ds) M { nx := fun _ M' => Q .non M', rt := Q, bk := fun _ _ => False, ct := fun _ _ => False } E := ⟨_, rfl⟩
noncomputable def C__law_spin : CtD := (X__law_spin).choose
theorem Cq__law_spin : C__law_spin = fun ds M Q E => b_law_spin (startD ["_law_crank_here", "_law_many", "_law_found", "_law_wide"] ds) M { nx := fun _ M' => Q .non M', rt := Q, bk := fun _ _ => False, ct := fun _ _ => False } E := (X__law_spin).choose_spec
def b_law_any_s1 : WS := (sRet (wOp oIx (wVar 1) (wCall 2 C__law_spin (zCons (wVar 0) (zCons (wB oLen (zCons (wVar 1) zNil)) zNil)))))
def b_law_any : WS := b_law_any_s1
theorem X__law_any : ∃ c : CtD, c = fun ds M Q E => b_law_any (startD ["_law_crank_here", "_law_things"] ds) M { nx := fun _ M' => Q .non M', rt := Q, bk := fun _ _ => False, ct := fun _ _ => False } E := ⟨_, rfl⟩
noncomputable def C__law_any : CtD := (X__law_any).choose
theorem Cq__law_any : C__law_any = fun ds M Q E => b_law_any (startD ["_law_crank_here", "_law_things"] ds) M { nx := fun _ M' => Q .non M', rt := Q, bk := fun _ _ => False, ct := fun _ _ => False } E := (X__law_any).choose_spec
def b_law_ring_s1 : WS := (sRet (wTup (zCons (wOp oAdd (wC (.int 1)) (wCall 2 C__law_spin (zCons (wVar 0) (zCons (wC (.int 4)) zNil)))) (zCons (wCall 2 C__law_any (zCons (wVar 0) (zCons (wFz (fLst (zCons (wC (.int 1)) (zCons (wC (.int 1)) (zCons (wC (.int 1)) (zCons (wC (.int 2)) (zCons (wC (.int 4)) zNil))))))) zNil))) (zCons (wOp (oEq false) (wCall 2 C__law_spin (zCons (wVar 0) (zCons (wC (.int 2)) zNil))) (wC (.int 0))) zNil)))))
def b_law_ring : WS := b_law_ring_s1
theorem X__law_ring : ∃ c : CtD, c = fun ds M Q E => b_law_ring (startD ["_law_crank_here"] ds) M { nx := fun _ M' => Q .non M', rt := Q, bk := fun _ _ => False, ct := fun _ _ => False } E := ⟨_, rfl⟩
noncomputable def C__law_ring : CtD := (X__law_ring).choose
theorem Cq__law_ring : C__law_ring = fun ds M Q E => b_law_ring (startD ["_law_crank_here"] ds) M { nx := fun _ M' => Q .non M', rt := Q, bk := fun _ _ => False, ct := fun _ _ => False } E := (X__law_ring).choose_spec
def b_law_hope_s1 : WS := (sSet 1 (wCall 2 C__law_any (zCons (wVar 0) (zCons (wFz (fLst (zCons (wOp oSub (wCall 2 C__law_spin (zCons (wVar 0) (zCons (wC (.int 25)) zNil))) (wC (.int 12))) (zCons (wOp oSub (wCall 2 C__law_spin (zCons (wVar 0) (zCons (wC (.int 7)) zNil))) (wC (.int 3))) (zCons (wOp oMul (wC (.int 2)) (wCall 2 C__law_spin (zCons (wVar 0) (zCons (wC (.int 7)) zNil)))) (zCons (wC (.int 6)) (zCons (wC (.int 0)) zNil))))))) zNil))))
def b_law_hope_s2 : WS := (sRet (wTup (zCons (wVar 1) (zCons (wOp (oEq false) (wCall 2 C__law_spin (zCons (wVar 0) (zCons (wC (.int 3)) zNil))) (wC (.int 0))) (zCons (wOp (oEq false) (wCall 2 C__law_spin (zCons (wVar 0) (zCons (wC (.int 4)) zNil))) (wC (.int 0))) zNil)))))
def b_law_hope : WS := (sSeq b_law_hope_s1 b_law_hope_s2)
theorem X__law_hope : ∃ c : CtD, c = fun ds M Q E => b_law_hope (startD ["_law_crank_here", "_law_late"] ds) M { nx := fun _ M' => Q .non M', rt := Q, bk := fun _ _ => False, ct := fun _ _ => False } E := ⟨_, rfl⟩
noncomputable def C__law_hope : CtD := (X__law_hope).choose
theorem Cq__law_hope : C__law_hope = fun ds M Q E => b_law_hope (startD ["_law_crank_here", "_law_late"] ds) M { nx := fun _ M' => Q .non M', rt := Q, bk := fun _ _ => False, ct := fun _ _ => False } E := (X__law_hope).choose_spec
def b_law_is_whole_s1 : WS := (sRet (wAnd (wIsi "int" (wVar 0)) (wAnd (wNot (wIsi "bool" (wVar 0))) (wLeLe (wVar 1) (wVar 0) (wVar 2)))))
def b_law_is_whole : WS := b_law_is_whole_s1
theorem X__law_is_whole : ∃ c : CtD, c = fun ds M Q E => b_law_is_whole (startD ["_law_thing", "_law_low", "_law_high"] ds) M { nx := fun _ M' => Q .non M', rt := Q, bk := fun _ _ => False, ct := fun _ _ => False } E := ⟨_, rfl⟩
noncomputable def C__law_is_whole : CtD := (X__law_is_whole).choose
theorem Cq__law_is_whole : C__law_is_whole = fun ds M Q E => b_law_is_whole (startD ["_law_thing", "_law_low", "_law_high"] ds) M { nx := fun _ M' => Q .non M', rt := Q, bk := fun _ _ => False, ct := fun _ _ => False } E := (X__law_is_whole).choose_spec
def b_law_is_ring_s1 : WS := (sRet (wC (.bl false)))
def b_law_is_ring_s2 : WS := (sIf (uOr (uNot (wTst (wIsi "tuple" (wVar 0)))) (uOr (tstOp (oEq true) (wB oLen (zCons (wVar 0) zNil)) (wC (.int 3))) (uNot (wTst (wCall 3 C__law_is_whole (zCons (wOp oIx (wVar 0) (wC (.int 0))) (zCons (wC (.int 1)) (zCons (wC (.int 4)) zNil)))))))) b_law_is_ring_s1 sNil)
def b_law_is_ring_s3 : WS := (sRet (wAnd (wCall 3 C__law_is_whole (zCons (wOp oIx (wVar 0) (wC (.int 1))) (zCons (wC (.int 1)) (zCons (wC (.int 4)) zNil)))) (wAnd (wOp (oEq true) (wOp oIx (wVar 0) (wC (.int 1))) (wC (.int 3))) (wIsi "bool" (wOp oIx (wVar 0) (wC (.int 2)))))))
def b_law_is_ring : WS := (sSeq b_law_is_ring_s2 b_law_is_ring_s3)
theorem X__law_is_ring : ∃ c : CtD, c = fun ds M Q E => b_law_is_ring (startD ["_law_thing"] ds) M { nx := fun _ M' => Q .non M', rt := Q, bk := fun _ _ => False, ct := fun _ _ => False } E := ⟨_, rfl⟩
noncomputable def C__law_is_ring : CtD := (X__law_is_ring).choose
theorem Cq__law_is_ring : C__law_is_ring = fun ds M Q E => b_law_is_ring (startD ["_law_thing"] ds) M { nx := fun _ M' => Q .non M', rt := Q, bk := fun _ _ => False, ct := fun _ _ => False } E := (X__law_is_ring).choose_spec
def b_law_is_hope_s1 : WS := (sRet (wC (.bl false)))
def b_law_is_hope_s2 : WS := (sIf (uOr (uNot (wTst (wIsi "tuple" (wVar 0)))) (uOr (tstOp (oEq true) (wB oLen (zCons (wVar 0) zNil)) (wC (.int 3))) (uNot (wTst (wCall 3 C__law_is_whole (zCons (wOp oIx (wVar 0) (wC (.int 0))) (zCons (wNeg (wC (.int 12))) (zCons (wC (.int 12)) zNil)))))))) b_law_is_hope_s1 sNil)
def b_law_is_hope_s3 : WS := (sRet (wAnd (wIsi "bool" (wOp oIx (wVar 0) (wC (.int 1)))) (wIsi "bool" (wOp oIx (wVar 0) (wC (.int 2))))))
def b_law_is_hope : WS := (sSeq b_law_is_hope_s2 b_law_is_hope_s3)
theorem X__law_is_hope : ∃ c : CtD, c = fun ds M Q E => b_law_is_hope (startD ["_law_thing"] ds) M { nx := fun _ M' => Q .non M', rt := Q, bk := fun _ _ => False, ct := fun _ _ => False } E := ⟨_, rfl⟩
noncomputable def C__law_is_hope : CtD := (X__law_is_hope).choose
theorem Cq__law_is_hope : C__law_is_hope = fun ds M Q E => b_law_is_hope (startD ["_law_thing"] ds) M { nx := fun _ M' => Q .non M', rt := Q, bk := fun _ _ => False, ct := fun _ _ => False } E := (X__law_is_hope).choose_spec
def b_law_stuff_s1 (rc : CtD) : WS := (sSet 2 (wFz (fLst (zCons (wC (.int 0)) (zCons (wC (.int 1)) (zCons (wC (.int 2)) (zCons (wC (.int 3)) (zCons (wC (.int 4)) (zCons (wC (.int 5)) (zCons (wNeg (wC (.int 1))) (zCons (wC (.int 12)) (zCons (wC (.int 13)) (zCons (wC (.bl true)) (zCons (wC (.bl false)) (zCons (wC .non) (zCons (wC (.str "")) (zCons (wC (.str "loop")) (zCons (wOp oPow (wC (.int 10)) (wC (.int 38))) (zCons (wTup zNil) (zCons (wFz (fLst zNil)) zNil))))))))))))))))))))
def b_law_stuff_s2 (rc : CtD) : WS := (sRet (wCall 2 C__law_any (zCons (wVar 0) (zCons (wOp oAdd (wVar 2) (wFz (fLst (zCons (wTup (zCons (wC (.int 2)) (zCons (wC (.int 1)) (zCons (wC (.bl false)) zNil)))) (zCons (wTup (zCons (wC (.int 3)) (zCons (wC (.bl false)) (zCons (wC (.bl false)) zNil)))) (zCons (wTup (zCons (wC (.int 0)) (zCons (wC (.int 0)) zNil))) (zCons (wTup (zCons (wC (.int 1)) (zCons (wC (.int 1)) zNil))) zNil))))))) zNil))))
def b_law_stuff_s3 (rc : CtD) : WS := (sIf (uOr (tstOp (oEq false) (wVar 1) (wC (.int 0))) (tstOp oLt (wCall 2 C__law_spin (zCons (wVar 0) (zCons (wC (.int 9)) zNil))) (wC (.int 6)))) (sSeq (b_law_stuff_s1 rc) (b_law_stuff_s2 rc)) sNil)
def b_law_stuff_s4 (rc : CtD) : WS := (sSet 3 (wFz (fLc [4] (iRange1 (zCons (wCall 2 C__law_spin (zCons (wVar 0) (zCons (wC (.int 4)) zNil))) zNil)) (cSet 4) uYes (wCall 2 rc (zCons (wVar 0) (zCons (wOp oSub (wVar 1) (wC (.int 1))) zNil))))))
def b_law_stuff_s5 (rc : CtD) : WS := (sRet (wIf (tstOp (oEq false) (wCall 2 C__law_spin (zCons (wVar 0) (zCons (wC (.int 3)) zNil))) (wC (.int 0))) (wVar 3) (wB oTuple (zCons (wVar 3) zNil))))
def b_law_stuff (rc : CtD) : WS := (sSeq (b_law_stuff_s3 rc) (sSeq (b_law_stuff_s4 rc) (b_law_stuff_s5 rc)))
theorem X__law_stuff : ∃ c : Nat → CtD, c 0 = (fun _ _ _ _ => False) ∧ ∀ n, c (n + 1) = (fun ds M Q E => (b_law_stuff (c n)) (startD ["_law_crank_here", "_law_deep", "_law_some", "_law_row", "_law_turn"] ds) M { nx := fun _ M' => Q .non M', rt := Q, bk := fun _ _ => False, ct := fun _ _ => False } E) := ⟨fun n => Nat.rec (fun _ _ _ _ => False) (fun _ c => fun ds M Q E => (b_law_stuff c) (startD ["_law_crank_here", "_law_deep", "_law_some", "_law_row", "_law_turn"] ds) M { nx := fun _ M' => Q .non M', rt := Q, bk := fun _ _ => False, ct := fun _ _ => False } E) n, rfl, fun _ => rfl⟩
noncomputable def R__law_stuff : Nat → CtD := (X__law_stuff).choose
theorem Rz__law_stuff : R__law_stuff 0 = (fun _ _ _ _ => False) := (X__law_stuff).choose_spec.1
theorem Rs__law_stuff (n : Nat) : R__law_stuff (n + 1) = (fun ds M Q E => (b_law_stuff (R__law_stuff n)) (startD ["_law_crank_here", "_law_deep", "_law_some", "_law_row", "_law_turn"] ds) M { nx := fun _ M' => Q .non M', rt := Q, bk := fun _ _ => False, ct := fun _ _ => False } E) := (X__law_stuff).choose_spec.2 n
noncomputable def C__law_stuff : CtD := R__law_stuff 4
def b_law_shaken_s1 (rc : CtD) : WS := (sSet 3 (wOp oAdd (wVar 3) (wFz (fLst (zCons (wOp oAddB (wVar 1) (wC (.int 1))) (zCons (wOp oSubB (wVar 1) (wC (.int 1))) (zCons (wNotB (wVar 1)) (zCons (wB oStrB (zCons (wVar 1) zNil)) (zCons (wOp oAddB (wVar 1) (wC (.int 12))) zNil)))))))))
def b_law_shaken_s2 (rc : CtD) : WS := (sSet 3 (wFz (fLst (zCons (wCall 2 C__law_stuff (zCons (wVar 0) (zCons (wC (.int 2)) zNil))) zNil))))
def b_law_shaken_s3 (rc : CtD) : WS := (sIf (wTst (wIsi "int" (wVar 1))) (b_law_shaken_s1 rc) sNil)
def b_law_shaken_s4 (rc : CtD) : WS := (sRet (wCall 2 C__law_any (zCons (wVar 0) (zCons (wVar 3) zNil))))
def b_law_shaken_s5 (rc : CtD) : WS := (sSet 4 (wSt (fCat (wSl (wVar 4) oNone (oSome (wVar 5))) (wSl (wVar 4) (oSome (wOp oAdd (wVar 5) (wC (.int 1)))) oNone))))
def b_law_shaken_s6 (rc : CtD) : WS := (sSet 4 (wSt (fCat (wSl (wVar 4) oNone (oSome (wOp oAdd (wVar 5) (wC (.int 1))))) (wSl (wVar 4) (oSome (wVar 5)) oNone))))
def b_law_shaken_s7 (rc : CtD) : WS := (sSet 4 (wSt (fRevL (wVar 4))))
def b_law_shaken_s8 (rc : CtD) : WS := (sRet (wIf (wTst (wIsi "tuple" (wVar 1))) (wFrz (wVar 4)) (wB oTuple (zCons (wVar 4) zNil))))
def b_law_shaken_s9 (rc : CtD) : WS := (sAsg (wIf (tstOp oGt (wVar 2) (wC (.int 0))) (wCall 3 rc (zCons (wVar 0) (zCons (wOp oIx (wVar 4) (wVar 5)) (zCons (wOp oSub (wVar 2) (wC (.int 1))) zNil)))) (wCall 2 C__law_stuff (zCons (wVar 0) (zCons (wC (.int 1)) zNil)))) (gSub (wVar 4) (wVar 5)))
def b_law_shaken_s10 (rc : CtD) : WS := (sIf (tstOp (oEq false) (wVar 6) (wC (.int 3))) (b_law_shaken_s8 rc) (b_law_shaken_s9 rc))
def b_law_shaken_s11 (rc : CtD) : WS := (sIf (tstOp (oEq false) (wVar 6) (wC (.int 2))) (b_law_shaken_s7 rc) (b_law_shaken_s10 rc))
def b_law_shaken_s12 (rc : CtD) : WS := (sIf (tstOp (oEq false) (wVar 6) (wC (.int 1))) (b_law_shaken_s6 rc) (b_law_shaken_s11 rc))
def b_law_shaken_s13 (rc : CtD) : WS := (sIf (uOr (uNot (wTst (wIsi2 "tuple" "list" (wVar 1)))) (uOr (tstOp (oEq false) (wB oLen (zCons (wVar 1) zNil)) (wC (.int 0))) (tstOp (oEq false) (wCall 2 C__law_spin (zCons (wVar 0) (zCons (wC (.int 8)) zNil))) (wC (.int 0))))) (sSeq (b_law_shaken_s2 rc) (sSeq (b_law_shaken_s3 rc) (b_law_shaken_s4 rc))) sNil)
def b_law_shaken_s14 (rc : CtD) : WS := (sPar3 4 5 6 (zCons (wSt (fListc (zCons (wVar 1) zNil))) (zCons (wCall 2 C__law_spin (zCons (wVar 0) (zCons (wB oLen (zCons (wVar 1) zNil)) zNil))) (zCons (wCall 2 C__law_spin (zCons (wVar 0) (zCons (wC (.int 9)) zNil))) zNil))))
def b_law_shaken_s15 (rc : CtD) : WS := (sIf (tstOp (oEq false) (wVar 6) (wC (.int 0))) (b_law_shaken_s5 rc) (b_law_shaken_s12 rc))
def b_law_shaken_s16 (rc : CtD) : WS := (sRet (wIf (wTst (wIsi "tuple" (wVar 1))) (wB oTuple (zCons (wVar 4) zNil)) (wFrz (wVar 4))))
def b_law_shaken (rc : CtD) : WS := (sSeq (b_law_shaken_s13 rc) (sSeq (b_law_shaken_s14 rc) (sSeq (b_law_shaken_s15 rc) (b_law_shaken_s16 rc))))
theorem X__law_shaken : ∃ c : Nat → CtD, c 0 = (fun _ _ _ _ => False) ∧ ∀ n, c (n + 1) = (fun ds M Q E => sGc (b_law_shaken (c n)) (startD ["_law_crank_here", "_law_thing", "_law_deep", "_law_near", "_law_row", "_law_k", "_law_way"] ds) M { nx := fun _ M' => Q .non M', rt := Q, bk := fun _ _ => False, ct := fun _ _ => False } E) := ⟨fun n => Nat.rec (fun _ _ _ _ => False) (fun _ c => fun ds M Q E => sGc (b_law_shaken c) (startD ["_law_crank_here", "_law_thing", "_law_deep", "_law_near", "_law_row", "_law_k", "_law_way"] ds) M { nx := fun _ M' => Q .non M', rt := Q, bk := fun _ _ => False, ct := fun _ _ => False } E) n, rfl, fun _ => rfl⟩
noncomputable def R__law_shaken : Nat → CtD := (X__law_shaken).choose
theorem Rz__law_shaken : R__law_shaken 0 = (fun _ _ _ _ => False) := (X__law_shaken).choose_spec.1
theorem Rs__law_shaken (n : Nat) : R__law_shaken (n + 1) = (fun ds M Q E => sGc (b_law_shaken (R__law_shaken n)) (startD ["_law_crank_here", "_law_thing", "_law_deep", "_law_near", "_law_row", "_law_k", "_law_way"] ds) M { nx := fun _ M' => Q .non M', rt := Q, bk := fun _ _ => False, ct := fun _ _ => False } E) := (X__law_shaken).choose_spec.2 n
noncomputable def C__law_shaken : CtD := R__law_shaken 4
def b_law_is_told_s1 : WS := (sRet (wAnd (wIsi "bool" (wVar 0)) (wOp (oEq false) (wVar 0) (wVar 1))))
def b_law_is_told : WS := b_law_is_told_s1
theorem X__law_is_told : ∃ c : CtD, c = fun ds M Q E => b_law_is_told (startD ["_law_found", "_law_due"] ds) M { nx := fun _ M' => Q .non M', rt := Q, bk := fun _ _ => False, ct := fun _ _ => False } E := ⟨_, rfl⟩
noncomputable def C__law_is_told : CtD := (X__law_is_told).choose
theorem Cq__law_is_told : C__law_is_told = fun ds M Q E => b_law_is_told (startD ["_law_found", "_law_due"] ds) M { nx := fun _ M' => Q .non M', rt := Q, bk := fun _ _ => False, ct := fun _ _ => False } E := (X__law_is_told).choose_spec
def b_law_parts_s1 : WS := (sRet (wTup (zCons (wC (.str "InvalidNumber +")) zNil)))
def b_law_parts_s2 : WS := (sRet (wTup (zCons (wC (.str "told")) (zCons (wFz (fLst (zCons (wTup (zCons (wVar 1) (zCons (wVar 3) (zCons (wC (.bl false)) zNil)))) (zCons (wTup (zCons (wOp oSub (wVar 2) (wVar 1)) (zCons (wVar 3) (zCons (wC (.bl false)) zNil)))) zNil)))) zNil))))
def b_law_parts_s3 : WS := (sRet (wTup (zCons (wC (.str "told")) (zCons (wFz (fLst (zCons (wTup (zCons (wVar 1) (zCons (wOp oMul (wC (.int 2)) (wVar 3)) (zCons (wC (.bl false)) zNil)))) zNil))) zNil))))
def b_law_parts_s4 : WS := (sAsg (wVar 0) (gTupD 3 (gsCons (gSet 2) (gsCons (gSet 3) (gsCons (gSet 4) gsNil)))))
def b_law_parts_s5 : WS := (sIf (uOr (uNot (uLtLt (wC (.int 0)) (wVar 1) (wVar 2))) (uAnd (wTst (wVar 4)) (uOr (tstOp oGt (wOp oMul (wC (.int 2)) (wVar 1)) (wVar 2)) (tstOp (oEq false) (wVar 3) (wC (.int 4)))))) b_law_parts_s1 sNil)
def b_law_parts_s6 : WS := (sIf (uNot (wTst (wVar 4))) b_law_parts_s2 sNil)
def b_law_parts_s7 : WS := (sIf (tstOp (oEq false) (wOp oMul (wC (.int 2)) (wVar 1)) (wVar 2)) b_law_parts_s3 sNil)
def b_law_parts_s8 : WS := (sRet (wTup (zCons (wC (.str "told")) (zCons (wFz (fLst (zCons (wTup (zCons (wVar 1) (zCons (wOp oMul (wC (.int 2)) (wVar 3)) (zCons (wC (.bl false)) zNil)))) (zCons (wTup (zCons (wOp oSub (wVar 2) (wOp oMul (wC (.int 2)) (wVar 1))) (zCons (wVar 3) (zCons (wC (.bl true)) zNil)))) zNil)))) zNil))))
def b_law_parts : WS := (sSeq b_law_parts_s4 (sSeq b_law_parts_s5 (sSeq b_law_parts_s6 (sSeq b_law_parts_s7 b_law_parts_s8))))
theorem X__law_parts : ∃ c : CtD, c = fun ds M Q E => b_law_parts (startD ["_law_ring_here", "_law_number", "_law_rows", "_law_fold", "_law_turned_so"] ds) M { nx := fun _ M' => Q .non M', rt := Q, bk := fun _ _ => False, ct := fun _ _ => False } E := ⟨_, rfl⟩
noncomputable def C__law_parts : CtD := (X__law_parts).choose
theorem Cq__law_parts : C__law_parts = fun ds M Q E => b_law_parts (startD ["_law_ring_here", "_law_number", "_law_rows", "_law_fold", "_law_turned_so"] ds) M { nx := fun _ M' => Q .non M', rt := Q, bk := fun _ _ => False, ct := fun _ _ => False } E := (X__law_parts).choose_spec
def blaw_s1 : WS := (sSet 11 (wCall 3 C__law_shaken (zCons (wVar 2) (zCons (wVar 4) (zCons (wC (.int 2)) zNil)))))
def blaw_s2 : WS := (sSet 3 (wOp oAdd (wVar 3) (wFz (fLst (zCons (wVar 11) (zCons (wCall 3 C__law_shaken (zCons (wVar 2) (zCons (wVar 11) (zCons (wC (.int 2)) zNil)))) (zCons (wCall 3 C__law_shaken (zCons (wVar 2) (zCons (wVar 4) (zCons (wC (.int 2)) zNil)))) zNil)))))))
def blaw_s3 : WS := (sSet 3 (wOp oAdd (wVar 3) (wFz (fLst (zCons (wTup (zCons (wVar 5) (zCons (wC (.int 1)) (zCons (wC (.bl false)) zNil)))) (zCons (wTup (zCons (wC (.int 1)) (zCons (wVar 5) (zCons (wC (.bl true)) zNil)))) (zCons (wTup (zCons (wVar 5) (zCons (wC (.bl false)) (zCons (wC (.bl true)) zNil)))) (zCons (wTup (zCons (wC (.int 1)) (zCons (wC (.int 1)) (zCons (wVar 5) zNil)))) zNil))))))))
def blaw_s4 : WS := (sRet (wC (.bl false)))
def blaw_s5 : WS := (sRet (wC (.bl false)))
def blaw_s6 (af : Str → Addr) : WS := (sIf (tstOp (oEq true) (wCaught (wCallV af 14 2 [("length", C_length), ("slit", C_slit)] (zCons (wVar 4) (zCons (wC .non) zNil)))) (wTup (zCons (wC (.str "InvalidLoop +")) zNil))) blaw_s5 sNil)
def blaw_s7 (af : Str → Addr) : WS := (sFor (iSeq (wTup (zCons (wC (.adr (af "length"))) (zCons (wC (.adr (af "slit"))) zNil)))) (gSet 14) (blaw_s6 af))
def blaw_s8 : WS := (sSet 12 (wCall 1 C__law_is_ring (zCons (wVar 4) zNil)))
def blaw_s9 : WS := (sIf (uOr (uNot (wTst (wCall 2 C__law_is_told (zCons (wCall 1 C_is_loop (zCons (wVar 4) zNil)) (zCons (wVar 12) zNil))))) (uNot (wTst (wCall 2 C__law_is_told (zCons (wCall 1 C_is_wish (zCons (wVar 4) zNil)) (zCons (wCall 1 C__law_is_hope (zCons (wVar 4) zNil)) zNil)))))) blaw_s4 sNil)
def blaw_s10 (af : Str → Addr) : WS := (sIf (uNot (wTst (wVar 12))) (blaw_s7 af) sNil)
def blaw_s11 : WS := (sRet (wC (.bl false)))
def blaw_s12 : WS := (sSet 17 (wTup (zCons (wVar 6) (zCons (wVar 13) (zCons (wVar 15) zNil)))))
def blaw_s13 : WS := (sIf (tstOp (oEq true) (wCaught (wCall 2 C_slit (zCons (wVar 17) (zCons (wVar 16) zNil)))) (wCall 2 C__law_parts (zCons (wVar 17) (zCons (wVar 16) zNil)))) blaw_s11 sNil)
def blaw_s14 : WS := (sFor (iRange2 (zCons (wNeg (wC (.int 1))) (zCons (wC (.int 6)) zNil))) (gSet 16) (sSeq blaw_s12 blaw_s13))
def blaw_s15 : WS := (sFor (iSeq (wTup (zCons (wC (.bl false)) (zCons (wC (.bl true)) zNil)))) (gSet 15) blaw_s14)
def blaw_s16 : WS := (sFor (iSeq (wTup (zCons (wC (.int 1)) (zCons (wC (.int 2)) (zCons (wC (.int 4)) zNil))))) (gSet 13) blaw_s15)
def blaw_s17 : WS := (sRet (wC (.bl false)))
def blaw_s18 : WS := (sIf (tstOp (oEq true) (wCaught (wCall 2 C_length (zCons (wVar 9) (zCons (wVar 7) zNil)))) (wTup (zCons (wC (.str "InvalidNumber +")) zNil))) blaw_s17 sNil)
def blaw_s19 : WS := (sRet (wC (.bl false)))
def blaw_s20 : WS := (sRet (wC (.bl false)))
def blaw_s21 : WS := (sSet 2 (wCall 2 C__law_crank (zCons (wVar 0) (zCons (wVar 1) zNil))))
def blaw_s22 : WS := (sAsg (wTup (zCons (wCall 1 C__law_ring (zCons (wVar 2) zNil)) (zCons (wCall 1 C__law_hope (zCons (wVar 2) zNil)) zNil))) (gTupD 2 (gsCons (gSet 9) (gsCons (gSet 10) gsNil))))
def blaw_s23 : WS := (sSet 3 (wFz (fLst (zCons (wVar 9) (zCons (wVar 10) (zCons (wFz (fListc (zCons (wVar 9) zNil))) (zCons (wFz (fListc (zCons (wVar 10) zNil))) (zCons (wRevT (wVar 9)) (zCons (wRevT (wVar 10)) (zCons (wOp oAdd (wVar 9) (wTup (zCons (wC (.int 0)) zNil))) (zCons (wSl (wVar 10) oNone (oSome (wC (.int 2)))) zNil)))))))))))
def blaw_s24 : WS := (sFor (iSeq (wFz (fLst (zCons (wVar 9) (zCons (wVar 9) (zCons (wVar 10) (zCons (wVar 10) zNil))))))) (gSet 4) (sSeq blaw_s1 blaw_s2))
def blaw_s25 : WS := (sFor (iSeq (wFz (fLst (zCons (wNeg (wC (.int 13))) (zCons (wNeg (wC (.int 12))) (zCons (wNeg (wC (.int 1))) (zCons (wC (.int 0)) (zCons (wC (.int 1)) (zCons (wC (.int 2)) (zCons (wC (.int 3)) (zCons (wC (.int 4)) (zCons (wC (.int 5)) (zCons (wC (.int 12)) (zCons (wC (.int 13)) (zCons (wC (.bl true)) zNil))))))))))))))) (gSet 5) blaw_s3)
def blaw_s26 (af : Str → Addr) : WS := (sFor (iSeq (wOp oAdd (wVar 3) (wFz (fLst (zCons (wCall 2 C__law_stuff (zCons (wVar 2) (zCons (wC (.int 2)) zNil))) (zCons (wCall 2 C__law_stuff (zCons (wVar 2) (zCons (wC (.int 3)) zNil))) zNil)))))) (gSet 4) (sSeq blaw_s8 (sSeq blaw_s9 (blaw_s10 af))))
def blaw_s27 : WS := (sFor (iSeq (wTup (zCons (wC (.int 1)) (zCons (wC (.int 2)) (zCons (wC (.int 3)) (zCons (wC (.int 4)) zNil)))))) (gSet 6) blaw_s16)
def blaw_s28 : WS := (sFor (iSeq (wFz (fLst (zCons (wC .non) (zCons (wC (.int 0)) (zCons (wC (.bl true)) (zCons (wC (.str "1")) (zCons (wOp oAdd (wOp oPow (wC (.int 10)) (wC (.int 30))) (wC (.int 1))) zNil)))))))) (gSet 7) blaw_s18)
def blaw_s29 : WS := (sIf (tstOp (oEq true) (wCaught (wCall 2 C_slit (zCons (wVar 9) (zCons (wC .non) zNil)))) (wTup (zCons (wC (.str "InvalidNumber +")) zNil))) blaw_s19 sNil)
def blaw_s30 : WS := (sSet 8 (wOp oAdd (wC (.int 1)) (wCall 2 C__law_spin (zCons (wVar 2) (zCons (wOp oPow (wC (.int 10)) (wC (.int 30))) zNil)))))
def blaw_s31 : WS := (sIf (tstOp (oEq true) (wCall 2 C_length (zCons (wVar 9) (zCons (wVar 8) zNil))) (wOp oMul (wOp oIx (wVar 9) (wC (.int 1))) (wVar 8))) blaw_s20 sNil)
def blaw_s32 (af : Str → Addr) : WS := (sFor (iRange1 (zCons (wB oMax2 (zCons (wC (.int 1)) (zCons (wB oMin2 (zCons (wC (.int 10)) (zCons (wB oLen (zCons (wVar 0) zNil)) zNil))) zNil))) zNil)) (gSet 1) (sSeq blaw_s21 (sSeq blaw_s22 (sSeq blaw_s23 (sSeq blaw_s24 (sSeq blaw_s25 (sSeq (blaw_s26 af) (sSeq blaw_s27 (sSeq blaw_s28 (sSeq blaw_s29 (sSeq blaw_s30 blaw_s31)))))))))))
def blaw_s33 : WS := (sRet (wC (.bl true)))
def blaw (af : Str → Addr) : WS := (sSeq (blaw_s32 af) blaw_s33)
theorem X_law (af : Str → Addr) : ∃ c : CtD, c = fun ds M Q E => (blaw af) (startD ["_law_script", "_law_k", "_law_crank_here", "_law_things", "_law_thing", "_law_amount", "_law_rows", "_law_bad", "_law_size", "_law_ring_here", "_law_hope_here", "_law_first_so", "_law_good", "_law_fold", "_law_call_so", "_law_turned_so", "_law_number", "_law_one"] ds) M { nx := fun _ M' => Q .non M', rt := Q, bk := fun _ _ => False, ct := fun _ _ => False } E := ⟨_, rfl⟩
noncomputable def C_law (af : Str → Addr) : CtD := (X_law af).choose
theorem Cq_law (af : Str → Addr) : C_law af = fun ds M Q E => (blaw af) (startD ["_law_script", "_law_k", "_law_crank_here", "_law_things", "_law_thing", "_law_amount", "_law_rows", "_law_bad", "_law_size", "_law_ring_here", "_law_hope_here", "_law_first_so", "_law_good", "_law_fold", "_law_call_so", "_law_turned_so", "_law_number", "_law_one"] ds) M { nx := fun _ M' => Q .non M', rt := Q, bk := fun _ _ => False, ct := fun _ _ => False } E := (X_law af).choose_spec
def topS (i : Nat) : Stmt := PySem.Challenge.pw_glueloops_k01_loops_wishes_and_slits.main.body.getD i (.Pass ⟨0, 0, 0, 0⟩)
def clsS (i j : Nat) : Stmt := match topS i with | .ClassDef _ _ _ b _ _ _ _ _ _ _ => b.getD j (.Pass ⟨0, 0, 0, 0⟩) | _ => .Pass ⟨0, 0, 0, 0⟩
structure Txt (K : PySem.W.Frag) (mg : Str → Option Value) : Prop where
  g_MOST_LATE : ∃ t, mg "MOST_LATE" = some (.int 12 t)
  g_MOST_NUMBER : ∃ t, mg "MOST_NUMBER" = some (.int 1000000000000000000000000000000 t)
  g_MOST_ROWS : ∃ t, mg "MOST_ROWS" = some (.int 4 t)
  x_InvalidLoop : ExcF K mg "InvalidLoop"
  x_InvalidNumber : ExcF K mg "InvalidNumber"
  g_FOLDS : TupK K mg "FOLDS" [1, 2, 4]
  n_ValueError : mg "ValueError" = none
  n_abs : mg "abs" = none
  n_bool : mg "bool" = none
  n_int : mg "int" = none
  n_isinstance : mg "isinstance" = none
  n_len : mg "len" = none
  n_list : mg "list" = none
  n_max : mg "max" = none
  n_min : mg "min" = none
  n_range : mg "range" = none
  n_str : mg "str" = none
  n_tuple : mg "tuple" = none
  n_zip : mg "zip" = none
  err : ∀ c ∈ errNames, ∃ C, ErrF K mg c C
  d__law_call : DefAt K mg "_law_call" (topS 36) ["_law_call_so"]
  d_is_int : DefAt K mg "is_int" (topS 16) ["value", "low", "high"]
  d_is_loop : DefAt K mg "is_loop" (topS 17) ["value"]
  d_is_wish : DefAt K mg "is_wish" (topS 18) ["value"]
  d_need_loop : DefAt K mg "need_loop" (topS 19) ["loop"]
  d_need_number : DefAt K mg "need_number" (topS 20) ["number", "low", "high"]
  d_length : DefAt K mg "length" (topS 21) ["loop", "n"]
  d_slit : DefAt K mg "slit" (topS 22) ["loop", "number"]
  d__law_crank : DefAt K mg "_law_crank" (topS 24) ["_law_script", "_law_k"]
  d__law_spin : DefAt K mg "_law_spin" (topS 25) ["_law_crank_here", "_law_many"]
  d__law_any : DefAt K mg "_law_any" (topS 26) ["_law_crank_here", "_law_things"]
  d__law_ring : DefAt K mg "_law_ring" (topS 27) ["_law_crank_here"]
  d__law_hope : DefAt K mg "_law_hope" (topS 28) ["_law_crank_here"]
  d__law_is_whole : DefAt K mg "_law_is_whole" (topS 29) ["_law_thing", "_law_low", "_law_high"]
  d__law_is_ring : DefAt K mg "_law_is_ring" (topS 30) ["_law_thing"]
  d__law_is_hope : DefAt K mg "_law_is_hope" (topS 31) ["_law_thing"]
  d__law_stuff : DefAt K mg "_law_stuff" (topS 32) ["_law_crank_here", "_law_deep"]
  d__law_shaken : DefAt K mg "_law_shaken" (topS 33) ["_law_crank_here", "_law_thing", "_law_deep"]
  d__law_is_told : DefAt K mg "_law_is_told" (topS 34) ["_law_found", "_law_due"]
  d__law_kinds : DefAt K mg "_law_kinds" (topS 35) ["_law_e"]
  d__law_parts : DefAt K mg "_law_parts" (topS 37) ["_law_ring_here", "_law_number"]
section
variable {P : Program} {w : World} {K : PySem.W.Frag} {mg : Str → Option Value} {base : Heap}
theorem S_is_int : FnScope ["value", "low", "high"] ["value", "low", "high"] (defScope (topS 16)) := ⟨rfl, rfl, rfl, by decide +kernel, rfl, by decide +kernel, by decide +kernel⟩
theorem dv_is_int (T : Txt K mg)  : DFn P w K mg base "is_int" 3 1 C_is_int := by
  obtain ⟨f, fd, hm, F, hb⟩ := T.d_is_int
  exact dfn_of (k := 0) (wb := bis_int) F hm hb S_is_int rfl (fun cdv A outer s H E B hB hr =>
    (dss_one (ds_ret (de_and (de_isi (de_var 0) (by rfl) T.n_isinstance (by rfl) T.n_int (by decide +kernel)) (de_and (de_not (de_isi (de_var 0) (by rfl) T.n_isinstance (by rfl) T.n_bool (by decide +kernel))) (de_one (de_leLe (de_var 1) (de_var 0) (de_var 2)))))))) (fun _ _ _ _ _ h => by rw [Cq_is_int] at h; exact h)
theorem S_is_loop : FnScope ["value"] ["value"] (defScope (topS 17)) := ⟨rfl, rfl, rfl, by decide +kernel, rfl, by decide +kernel, by decide +kernel⟩
theorem dv_is_loop (T : Txt K mg) (F_is_int : DFn P w K mg base "is_int" 3 1 C_is_int) : DFn P w K mg base "is_loop" 1 2 C_is_loop := by
  obtain ⟨f, fd, hm, F, hb⟩ := T.d_is_loop
  exact dfn_of (k := 1) (wb := bis_loop) F hm hb S_is_loop rfl (fun cdv A outer s H E B hB hr =>
    (dss_cons (ds_if (DW.dt (dw_or (dt_not (dt_val (de_isi (de_var 0) (by rfl) T.n_isinstance (by rfl) T.n_tuple (by decide +kernel)))) (dw_or1 (dt_ne hr.units (de_len (by rfl) T.n_len (da_cons (de_var 0) da_nil)) de_int))))
      (dss_one (ds_ret de_bl))
      dss_nil)
      (dss_cons (ds_if (DW.dt (dw_or (dt_not (dt_val (de_call F_is_int (hr.mono (by decide)) (by rfl) (da_cons (de_ix (de_var 0) de_int) (da_cons de_int (da_cons (de_globI (by rfl) T.g_MOST_ROWS) da_nil)))))) (dw_or1 (dt_not (dt_val (de_call F_is_int (hr.mono (by decide)) (by rfl) (da_cons (de_ix (de_var 0) de_int) (da_cons de_int (da_cons de_int da_nil)))))))))
      (dss_one (ds_ret de_bl))
      dss_nil)
      (dss_one (ds_ret (de_and (de_in hr.u65 (de_ix (de_var 0) de_int) (de_globK (by rfl) T.g_FOLDS)) (de_one (de_isi (de_ix (de_var 0) de_int) (by rfl) T.n_isinstance (by rfl) T.n_bool (by decide +kernel))))))))) (fun _ _ _ _ _ h => by rw [Cq_is_loop] at h; exact h)
theorem S_is_wish : FnScope ["value"] ["value"] (defScope (topS 18)) := ⟨rfl, rfl, rfl, by decide +kernel, rfl, by decide +kernel, by decide +kernel⟩
theorem dv_is_wish (T : Txt K mg) (F_is_int : DFn P w K mg base "is_int" 3 1 C_is_int) : DFn P w K mg base "is_wish" 1 2 C_is_wish := by
  obtain ⟨f, fd, hm, F, hb⟩ := T.d_is_wish
  exact dfn_of (k := 1) (wb := bis_wish) F hm hb S_is_wish rfl (fun cdv A outer s H E B hB hr =>
    (dss_cons (ds_if (DW.dt (dw_or (dt_not (dt_val (de_isi (de_var 0) (by rfl) T.n_isinstance (by rfl) T.n_tuple (by decide +kernel)))) (dw_or1 (dt_ne hr.units (de_len (by rfl) T.n_len (da_cons (de_var 0) da_nil)) de_int))))
      (dss_one (ds_ret de_bl))
      dss_nil)
      (dss_one (ds_ret (de_and (de_call F_is_int (hr.mono (by decide)) (by rfl) (da_cons (de_ix (de_var 0) de_int) (da_cons (de_sub de_int (de_globI (by rfl) T.g_MOST_LATE)) (da_cons (de_globI (by rfl) T.g_MOST_LATE) da_nil)))) (de_and (de_isi (de_ix (de_var 0) de_int) (by rfl) T.n_isinstance (by rfl) T.n_bool (by decide +kernel)) (de_one (de_isi (de_ix (de_var 0) de_int) (by rfl) T.n_isinstance (by rfl) T.n_bool (by decide +kernel))))))))) (fun _ _ _ _ _ h => by rw [Cq_is_wish] at h; exact h)
theorem S_need_loop : FnScope ["loop"] ["loop"] (defScope (topS 19)) := ⟨rfl, rfl, rfl, by decide +kernel, rfl, by decide +kernel, by decide +kernel⟩
theorem dv_need_loop (T : Txt K mg) (F_is_loop : DFn P w K mg base "is_loop" 1 2 C_is_loop) : DFn P w K mg base "need_loop" 1 3 C_need_loop := by
  obtain ⟨f, fd, hm, F, hb⟩ := T.d_need_loop
  exact dfn_of (k := 2) (wb := bneed_loop) F hm hb S_need_loop rfl (fun cdv A outer s H E B hB hr =>
    (dss_one (ds_if (dt_not (dt_val (de_call F_is_loop (hr.mono (by decide)) (by rfl) (da_cons (de_var 0) da_nil))))
      (dss_one (ds_raiseT rfl T.x_InvalidLoop (by rfl)))
      dss_nil))) (fun _ _ _ _ _ h => by rw [Cq_need_loop] at h; exact h)
theorem S_need_number : FnScope ["number", "low", "high"] ["number", "low", "high"] (defScope (topS 20)) := ⟨rfl, rfl, rfl, by decide +kernel, rfl, by decide +kernel, by decide +kernel⟩
theorem dv_need_number (T : Txt K mg) (F_is_int : DFn P w K mg base "is_int" 3 1 C_is_int) : DFn P w K mg base "need_number" 3 2 C_need_number := by
  obtain ⟨f, fd, hm, F, hb⟩ := T.d_need_number
  exact dfn_of (k := 1) (wb := bneed_number) F hm hb S_need_number rfl (fun cdv A outer s H E B hB hr =>
    (dss_one (ds_if (dt_not (dt_val (de_call F_is_int (hr.mono (by decide)) (by rfl) (da_cons (de_var 0) (da_cons (de_var 1) (da_cons (de_var 2) da_nil))))))
      (dss_one (ds_raiseT rfl T.x_InvalidNumber (by rfl)))
      dss_nil))) (fun _ _ _ _ _ h => by rw [Cq_need_number] at h; exact h)
theorem S_length : FnScope ["loop", "n"] ["loop", "n"] (defScope (topS 21)) := ⟨rfl, rfl, rfl, by decide +kernel, rfl, by decide +kernel, by decide +kernel⟩
theorem dv_length (T : Txt K mg) (F_need_loop : DFn P w K mg base "need_loop" 1 3 C_need_loop) (F_need_number : DFn P w K mg base "need_number" 3 2 C_need_number) : DFn P w K mg base "length" 2 4 C_length := by
  obtain ⟨f, fd, hm, F, hb⟩ := T.d_length
  exact dfn_of (k := 3) (wb := blength) F hm hb S_length rfl (fun cdv A outer s H E B hB hr =>
    (dss_cons (ds_expr (de_call F_need_loop (hr.mono (by decide)) (by rfl) (da_cons (de_var 0) da_nil)))
      (dss_cons (ds_expr (de_call F_need_number (hr.mono (by decide)) (by rfl) (da_cons (de_var 1) (da_cons de_int (da_cons (de_globI (by rfl) T.g_MOST_NUMBER) da_nil)))))
      (dss_one (ds_ret (de_mul (de_ix (de_var 0) de_int) (de_var 1))))))) (fun _ _ _ _ _ h => by rw [Cq_length] at h; exact h)
theorem S_slit : FnScope ["loop", "number", "rows", "fold", "turned", "found"] ["loop", "number"] (defScope (topS 22)) := ⟨rfl, rfl, rfl, by decide +kernel, rfl, by decide +kernel, by decide +kernel⟩
theorem dv_slit (T : Txt K mg) (F_need_loop : DFn P w K mg base "need_loop" 1 3 C_need_loop) (F_need_number : DFn P w K mg base "need_number" 3 2 C_need_number) : DFn P w K mg base "slit" 2 4 C_slit := by
  obtain ⟨f, fd, hm, F, hb⟩ := T.d_slit
  exact dfn_of (k := 3) (wb := bslit) F hm hb S_slit rfl (fun cdv A outer s H E B hB hr =>
    (dss_cons (ds_expr (de_call F_need_loop (hr.mono (by decide)) (by rfl) (da_cons (de_var 0) da_nil)))
      (dss_cons (ds_asg (de_var 0) (dg_tup rfl (dgs_cons (dg_name (i := 2) S_slit.nd) (dgs_cons (dg_name (i := 3) S_slit.nd) (dgs_cons (dg_name (i := 4) S_slit.nd) dgs_nil)))))
      (dss_cons (ds_expr (de_call F_need_number (hr.mono (by decide)) (by rfl) (da_cons (de_var 1) (da_cons de_int (da_cons (de_sub (de_var 2) de_int) da_nil)))))
      (dss_cons (ds_if (dt_not (dt_val (de_var 4)))
      (dss_one (ds_ret (DF.fz (df_lst (da_cons (de_tup (da_cons (de_var 1) (da_cons (de_var 3) (da_cons de_bl da_nil)))) (da_cons (de_tup (da_cons (de_sub (de_var 2) (de_var 1)) (da_cons (de_var 3) (da_cons de_bl da_nil)))) da_nil))))))
      dss_nil)
      (dss_cons (ds_if (DW.dt (dw_or (dt_eq hr.units (de_var 3) de_int) (dw_or1 (dt_gt (de_mul de_int (de_var 1)) (de_var 2)))))
      (dss_one (ds_raiseT rfl T.x_InvalidNumber (by rfl)))
      dss_nil)
      (dss_cons (ds_set (i := 5) S_slit.nd (DF.fz (df_lst (da_cons (de_tup (da_cons (de_var 1) (da_cons (de_mul de_int (de_var 3)) (da_cons de_bl da_nil)))) da_nil))))
      (dss_one (ds_ret (de_if (dt_eq hr.units (de_mul de_int (de_var 1)) (de_var 2)) (de_var 5) (de_add (de_var 5) (DF.fz (df_lst (da_cons (de_tup (da_cons (de_sub (de_var 2) (de_mul de_int (de_var 1))) (da_cons (de_var 3) (da_cons de_bl da_nil)))) da_nil)))))))))))))) (fun _ _ _ _ _ h => by rw [Cq_slit] at h; exact h)
theorem S__law_crank : FnScope ["_law_script", "_law_k", "_law_cell"] ["_law_script", "_law_k"] (defScope (topS 24)) := ⟨rfl, rfl, rfl, by decide +kernel, rfl, by decide +kernel, by decide +kernel⟩
theorem dv__law_crank (T : Txt K mg)  : DFn P w K mg base "_law_crank" 2 1 C__law_crank := by
  obtain ⟨f, fd, hm, F, hb⟩ := T.d__law_crank
  exact dfn_of (k := 0) (wb := b_law_crank) F hm hb S__law_crank rfl (fun cdv A outer s H E B hB hr =>
    (dss_cons (ds_set (i := 2) S__law_crank.nd (de_add (de_mul de_int (de_var 1)) de_int))
      (dss_cons (ds_if (dt_lt (de_var 1) (de_len (by rfl) T.n_len (da_cons (de_var 0) da_nil)))
      (dss_one (ds_set (i := 2) S__law_crank.nd (de_mod (de_abs (by rfl) T.n_abs (da_cons (de_intc (by rfl) T.n_int (da_cons (de_ix (de_var 0) (de_var 1)) da_nil)) da_nil)) (de_mul (de_mul (de_mul (de_pow de_int de_int) (de_pow de_int de_int)) (de_pow de_int de_int)) (de_pow de_int de_int)))))
      (dss_one (ds_if (dt_gt (de_len (by rfl) T.n_len (da_cons (de_var 0) da_nil)) de_int)
      (dss_one (ds_set (i := 2) S__law_crank.nd (de_add (de_var 2) (de_mod (de_abs (by rfl) T.n_abs (da_cons (de_intc (by rfl) T.n_int (da_cons (de_ix (de_var 0) de_int) da_nil)) da_nil)) de_int))))
      dss_nil)))
      (dss_one (ds_ret (DF.st (df_lst (da_cons (de_if (dt_ge (de_var 2) (de_pow de_int de_int)) (de_var 2) de_int) (da_cons (de_add (de_mod (de_intc (by rfl) T.n_int (da_cons (de_add (de_add (de_mul (de_mod (de_var 2) de_int) de_int) (de_mul de_int (de_var 1))) de_int) da_nil)) de_int) de_int) da_nil))))))))) (fun _ _ _ _ _ h => by rw [Cq__law_crank] at h; exact h)
theorem S__law_spin : FnScope ["_law_crank_here", "_law_many", "_law_found", "_law_wide"] ["_law_crank_here", "_law_many"] (defScope (topS 25)) := ⟨rfl, rfl, rfl, by decide +kernel, rfl, by decide +kernel, by decide +kernel⟩
theorem dv__law_spin (T : Txt K mg)  : DFn P w K mg base "_law_spin" 2 1 C__law_spin := by
  obtain ⟨f, fd, hm, F, hb⟩ := T.d__law_spin
  exact dfn_of (k := 0) (wb := b_law_spin) F hm hb S__law_spin rfl (fun cdv A outer s H E B hB hr =>
    (dss_cons (ds_if (dt_gt (de_ix (de_var 0) de_int) de_int)
      (dss_cons (ds_set (i := 2) S__law_spin.nd (de_mod (de_intc (by rfl) T.n_int (da_cons (de_ix (de_var 0) de_int) da_nil)) (de_var 1)))
      (dss_cons (ds_asg (de_div (de_ix (de_var 0) de_int) (de_var 1)) (dg_sub (de_var 0) de_int))
      (dss_one (ds_ret (de_var 2)))))
      dss_nil)
      (dss_cons (ds_asg (de_tup (da_cons de_int (da_cons de_int da_nil))) (dg_tup rfl (dgs_cons (dg_name (i := 2) S__law_spin.nd) (dgs_cons (dg_name (i := 3) S__law_spin.nd) dgs_nil))))
      (dss_cons (ds_while (passes_of rfl) (DW.dt (dw_or (dt_lt (de_var 3) (de_var 1)) (dw_or1 (dt_eq hr.units (de_var 3) de_int))))
      (dss_cons (ds_asg (de_mod (de_intc (by rfl) T.n_int (da_cons (de_add (de_mul (de_ix (de_var 0) de_int) de_int) de_int) da_nil)) de_int) (dg_sub (de_var 0) de_int))
      (dss_cons (ds_set (i := 2) S__law_spin.nd (de_add (de_mul (de_var 2) de_int) (de_mod (de_intc (by rfl) T.n_int (da_cons (de_div (de_ix (de_var 0) de_int) de_int) da_nil)) de_int)))
      (dss_one (ds_set (i := 3) S__law_spin.nd (de_mul (de_var 3) de_int))))))
      (dss_one (ds_ret (de_mod (de_intc (by rfl) T.n_int (da_cons (de_var 2) da_nil)) (de_var 1)))))))) (fun _ _ _ _ _ h => by rw [Cq__law_spin] at h; exact h)
theorem S__law_any : FnScope ["_law_crank_here", "_law_things"] ["_law_crank_here", "_law_things"] (defScope (topS 26)) := ⟨rfl, rfl, rfl, by decide +kernel, rfl, by decide +kernel, by decide +kernel⟩
theorem dv__law_any (T : Txt K mg) (F__law_spin : DFn P w K mg base "_law_spin" 2 1 C__law_spin) : DFn P w K mg base "_law_any" 2 2 C__law_any := by
  obtain ⟨f, fd, hm, F, hb⟩ := T.d__law_any
  exact dfn_of (k := 1) (wb := b_law_any) F hm hb S__law_any rfl (fun cdv A outer s H E B hB hr =>
    (dss_one (ds_ret (de_ix (de_var 1) (de_call F__law_spin (hr.mono (by decide)) (by rfl) (da_cons (de_var 0) (da_cons (de_len (by rfl) T.n_len (da_cons (de_var 1) da_nil)) da_nil))))))) (fun _ _ _ _ _ h => by rw [Cq__law_any] at h; exact h)
theorem S__law_ring : FnScope ["_law_crank_here"] ["_law_crank_here"] (defScope (topS 27)) := ⟨rfl, rfl, rfl, by decide +kernel, rfl, by decide +kernel, by decide +kernel⟩
theorem dv__law_ring (T : Txt K mg) (F__law_spin : DFn P w K mg base "_law_spin" 2 1 C__law_spin) (F__law_any : DFn P w K mg base "_law_any" 2 2 C__law_any) : DFn P w K mg base "_law_ring" 1 3 C__law_ring := by
  obtain ⟨f, fd, hm, F, hb⟩ := T.d__law_ring
  exact dfn_of (k := 2) (wb := b_law_ring) F hm hb S__law_ring rfl (fun cdv A outer s H E B hB hr =>
    (dss_one (ds_ret (de_tup (da_cons (de_add de_int (de_call F__law_spin (hr.mono (by decide)) (by rfl) (da_cons (de_var 0) (da_cons de_int da_nil)))) (da_cons (de_call F__law_any (hr.mono (by decide)) (by rfl) (da_cons (de_var 0) (da_cons (DF.fz (df_lst (da_cons de_int (da_cons de_int (da_cons de_int (da_cons de_int (da_cons de_int da_nil))))))) da_nil))) (da_cons (de_eq hr.units (de_call F__law_spin (hr.mono (by decide)) (by rfl) (da_cons (de_var 0) (da_cons de_int da_nil))) de_int) da_nil))))))) (fun _ _ _ _ _ h => by rw [Cq__law_ring] at h; exact h)
theorem S__law_hope : FnScope ["_law_crank_here", "_law_late"] ["_law_crank_here"] (defScope (topS 28)) := ⟨rfl, rfl, rfl, by decide +kernel, rfl, by decide +kernel, by decide +kernel⟩
theorem dv__law_hope (T : Txt K mg) (F__law_spin : DFn P w K mg base "_law_spin" 2 1 C__law_spin) (F__law_any : DFn P w K mg base "_law_any" 2 2 C__law_any) : DFn P w K mg base "_law_hope" 1 3 C__law_hope := by
  obtain ⟨f, fd, hm, F, hb⟩ := T.d__law_hope
  exact dfn_of (k := 2) (wb := b_law_hope) F hm hb S__law_hope rfl (fun cdv A outer s H E B hB hr =>
    (dss_cons (ds_set (i := 1) S__law_hope.nd (de_call F__law_any (hr.mono (by decide)) (by rfl) (da_cons (de_var 0) (da_cons (DF.fz (df_lst (da_cons (de_sub (de_call F__law_spin (hr.mono (by decide)) (by rfl) (da_cons (de_var 0) (da_cons de_int da_nil))) de_int) (da_cons (de_sub (de_call F__law_spin (hr.mono (by decide)) (by rfl) (da_cons (de_var 0) (da_cons de_int da_nil))) de_int) (da_cons (de_mul de_int (de_call F__law_spin (hr.mono (by decide)) (by rfl) (da_cons (de_var 0) (da_cons de_int da_nil)))) (da_cons de_int (da_cons de_int da_nil))))))) da_nil))))
      (dss_one (ds_ret (de_tup (da_cons (de_var 1) (da_cons (de_eq hr.units (de_call F__law_spin (hr.mono (by decide)) (by rfl) (da_cons (de_var 0) (da_cons de_int da_nil))) de_int) (da_cons (de_eq hr.units (de_call F__law_spin (hr.mono (by decide)) (by rfl) (da_cons (de_var 0) (da_cons de_int da_nil))) de_int) da_nil)))))))) (fun _ _ _ _ _ h => by rw [Cq__law_hope] at h; exact h)
theorem S__law_is_whole : FnScope ["_law_thing", "_law_low", "_law_high"] ["_law_thing", "_law_low", "_law_high"] (defScope (topS 29)) := ⟨rfl, rfl, rfl, by decide +kernel, rfl, by decide +kernel, by decide +kernel⟩
theorem dv__law_is_whole (T : Txt K mg)  : DFn P w K mg base "_law_is_whole" 3 1 C__law_is_whole := by
  obtain ⟨f, fd, hm, F, hb⟩ := T.d__law_is_whole
  exact dfn_of (k := 0) (wb := b_law_is_whole) F hm hb S__law_is_whole rfl (fun cdv A outer s H E B hB hr =>
    (dss_one (ds_ret (de_and (de_isi (de_var 0) (by rfl) T.n_isinstance (by rfl) T.n_int (by decide +kernel)) (de_and (de_not (de_isi (de_var 0) (by rfl) T.n_isinstance (by rfl) T.n_bool (by decide +kernel))) (de_one (de_leLe (de_var 1) (de_var 0) (de_var 2)))))))) (fun _ _ _ _ _ h => by rw [Cq__law_is_whole] at h; exact h)
theorem S__law_is_ring : FnScope ["_law_thing"] ["_law_thing"] (defScope (topS 30)) := ⟨rfl, rfl, rfl, by decide +kernel, rfl, by decide +kernel, by decide +kernel⟩
theorem dv__law_is_ring (T : Txt K mg) (F__law_is_whole : DFn P w K mg base "_law_is_whole" 3 1 C__law_is_whole) : DFn P w K mg base "_law_is_ring" 1 2 C__law_is_ring := by
  obtain ⟨f, fd, hm, F, hb⟩ := T.d__law_is_ring
  exact dfn_of (k := 1) (wb := b_law_is_ring) F hm hb S__law_is_ring rfl (fun cdv A outer s H E B hB hr =>
    (dss_cons (ds_if (DW.dt (dw_or (dt_not (dt_val (de_isi (de_var 0) (by rfl) T.n_isinstance (by rfl) T.n_tuple (by decide +kernel)))) (dw_or (dt_ne hr.units (de_len (by rfl) T.n_len (da_cons (de_var 0) da_nil)) de_int) (dw_or1 (dt_not (dt_val (de_call F__law_is_whole (hr.mono (by decide)) (by rfl) (da_cons (de_ix (de_var 0) de_int) (da_cons de_int (da_cons de_int da_nil))))))))))
      (dss_one (ds_ret de_bl))
      dss_nil)
      (dss_one (ds_ret (de_and (de_call F__law_is_whole (hr.mono (by decide)) (by rfl) (da_cons (de_ix (de_var 0) de_int) (da_cons de_int (da_cons de_int da_nil)))) (de_and (de_ne hr.units (de_ix (de_var 0) de_int) de_int) (de_one (de_isi (de_ix (de_var 0) de_int) (by rfl) T.n_isinstance (by rfl) T.n_bool (by decide +kernel))))))))) (fun _ _ _ _ _ h => by rw [Cq__law_is_ring] at h; exact h)
theorem S__law_is_hope : FnScope ["_law_thing"] ["_law_thing"] (defScope (topS 31)) := ⟨rfl, rfl, rfl, by decide +kernel, rfl, by decide +kernel, by decide +kernel⟩
theorem dv__law_is_hope (T : Txt K mg) (F__law_is_whole : DFn P w K mg base "_law_is_whole" 3 1 C__law_is_whole) : DFn P w K mg base "_law_is_hope" 1 2 C__law_is_hope := by
  obtain ⟨f, fd, hm, F, hb⟩ := T.d__law_is_hope
  exact dfn_of (k := 1) (wb := b_law_is_hope) F hm hb S__law_is_hope rfl (fun cdv A outer s H E B hB hr =>
    (dss_cons (ds_if (DW.dt (dw_or (dt_not (dt_val (de_isi (de_var 0) (by rfl) T.n_isinstance (by rfl) T.n_tuple (by decide +kernel)))) (dw_or (dt_ne hr.units (de_len (by rfl) T.n_len (da_cons (de_var 0) da_nil)) de_int) (dw_or1 (dt_not (dt_val (de_call F__law_is_whole (hr.mono (by decide)) (by rfl) (da_cons (de_ix (de_var 0) de_int) (da_cons (de_neg de_int) (da_cons de_int da_nil))))))))))
      (dss_one (ds_ret de_bl))
      dss_nil)
      (dss_one (ds_ret (de_and (de_isi (de_ix (de_var 0) de_int) (by rfl) T.n_isinstance (by rfl) T.n_bool (by decide +kernel)) (de_one (de_isi (de_ix (de_var 0) de_int) (by rfl) T.n_isinstance (by rfl) T.n_bool (by decide +kernel)))))))) (fun _ _ _ _ _ h => by rw [Cq__law_is_hope] at h; exact h)
theorem S__law_stuff : FnScope ["_law_crank_here", "_law_deep", "_law_some", "_law_row", "_law_turn"] ["_law_crank_here", "_law_deep"] (defScope (topS 32)) := ⟨rfl, rfl, rfl, by decide +kernel, rfl, by decide +kernel, by decide +kernel⟩
theorem dvR__law_stuff (T : Txt K mg) (F__law_spin : DFn P w K mg base "_law_spin" 2 1 C__law_spin) (F__law_any : DFn P w K mg base "_law_any" 2 2 C__law_any) : ∀ n, DFn P w K mg base "_law_stuff" 2 (2 + n) (R__law_stuff n)
  | 0 => by rw [Rz__law_stuff]; exact dfn_false T.d__law_stuff
  | n + 1 => by
    have F__law_stuff := dvR__law_stuff T F__law_spin F__law_any n
    obtain ⟨f, fd, hm, F, hb⟩ := T.d__law_stuff
    exact dfn_of (k := 2 + n) (wb := b_law_stuff (R__law_stuff n)) F hm hb S__law_stuff rfl (fun cdv A outer s H E B hB hr =>
    (dss_cons (ds_if (DW.dt (dw_or (dt_eq hr.units (de_var 1) de_int) (dw_or1 (dt_lt (de_call F__law_spin (hr.mono (by omega)) (by rfl) (da_cons (de_var 0) (da_cons de_int da_nil))) de_int))))
      (dss_cons (ds_set (i := 2) S__law_stuff.nd (DF.fz (df_lst (da_cons de_int (da_cons de_int (da_cons de_int (da_cons de_int (da_cons de_int (da_cons de_int (da_cons (de_neg de_int) (da_cons de_int (da_cons de_int (da_cons de_bl (da_cons de_bl (da_cons de_non (da_cons de_str (da_cons de_str (da_cons (de_pow de_int de_int) (da_cons (de_tup da_nil) (da_cons (DF.fz (df_lst da_nil)) da_nil))))))))))))))))))))
      (dss_one (ds_ret (de_call F__law_any (hr.mono (by omega)) (by rfl) (da_cons (de_var 0) (da_cons (de_add (de_var 2) (DF.fz (df_lst (da_cons (de_tup (da_cons de_int (da_cons de_int (da_cons de_bl da_nil)))) (da_cons (de_tup (da_cons de_int (da_cons de_bl (da_cons de_bl da_nil)))) (da_cons (de_tup (da_cons de_int (da_cons de_int da_nil))) (da_cons (de_tup (da_cons de_int (da_cons de_int da_nil))) da_nil))))))) da_nil))))))
      dss_nil)
      (dss_cons (ds_setLc (i := 3) (own := [("_law_turn", 4)]) rfl S__law_stuff.nd rfl rfl (sw_true rfl rfl rfl (by decide +kernel)) (di_range1 (by rfl) T.n_range (da_cons (de_call F__law_spin (hr.mono (by omega)) (by rfl) (da_cons (de_var 0) (da_cons de_int da_nil))) da_nil)) (blkOk_by (N := ["_law_crank_here", "_law_deep", "_law_some", "_law_row", "_law_turn"]) (sc := defScope (topS 32)) (by decide +kernel)) (clink_name (by simp)) (fun _ _ _ _ _ => pg_name (i := 4) S__law_stuff.nd rfl (by first | exact Or.inl rfl | exact Or.inr rfl)) (fun _ _ _ _ _ => dts_nil) (fun _ _ _ _ _ => (de_call F__law_stuff (hr.mono (by omega)) (by rfl) (da_cons (de_var 0) (da_cons (de_sub (de_var 1) de_int) da_nil)))))
      (dss_one (ds_ret (de_if (dt_eq hr.units (de_call F__law_spin (hr.mono (by omega)) (by rfl) (da_cons (de_var 0) (da_cons de_int da_nil))) de_int) (de_var 3) (de_tuplec (by rfl) T.n_tuple (da_cons (de_var 3) da_nil)))))))) (fun _ _ _ _ _ h => by rw [Rs__law_stuff] at h; exact h)
theorem dv__law_stuff (T : Txt K mg) (F__law_spin : DFn P w K mg base "_law_spin" 2 1 C__law_spin) (F__law_any : DFn P w K mg base "_law_any" 2 2 C__law_any) : DFn P w K mg base "_law_stuff" 2 6 C__law_stuff := dvR__law_stuff T F__law_spin F__law_any 4
theorem S__law_shaken : FnScope ["_law_crank_here", "_law_thing", "_law_deep", "_law_near", "_law_row", "_law_k", "_law_way"] ["_law_crank_here", "_law_thing", "_law_deep"] (defScope (topS 33)) := ⟨rfl, rfl, rfl, by decide +kernel, rfl, by decide +kernel, by decide +kernel⟩
theorem dvR__law_shaken (T : Txt K mg) (F__law_spin : DFn P w K mg base "_law_spin" 2 1 C__law_spin) (F__law_stuff : DFn P w K mg base "_law_stuff" 2 6 C__law_stuff) (F__law_any : DFn P w K mg base "_law_any" 2 2 C__law_any) : ∀ n, DFn P w K mg base "_law_shaken" 3 (6 + n) (R__law_shaken n)
  | 0 => by rw [Rz__law_shaken]; exact dfn_false T.d__law_shaken
  | n + 1 => by
    have F__law_shaken := dvR__law_shaken T F__law_spin F__law_stuff F__law_any n
    obtain ⟨f, fd, hm, F, hb⟩ := T.d__law_shaken
    exact dfn_gc (k := 6 + n) (wb := b_law_shaken (R__law_shaken n)) F hm hb S__law_shaken rfl (fun cdv A outer s H E B hB hr =>
    (dss_cons (ds_if (DW.dt (dw_or (dt_not (dt_val (de_isi2 (de_var 1) (by rfl) T.n_isinstance (by rfl) T.n_tuple (by decide +kernel) (by rfl) T.n_list (by decide +kernel)))) (dw_or (dt_eq hr.units (de_len (by rfl) T.n_len (da_cons (de_var 1) da_nil)) de_int) (dw_or1 (dt_eq hr.units (de_call F__law_spin (hr.mono (by omega)) (by rfl) (da_cons (de_var 0) (da_cons de_int da_nil))) de_int)))))
      (dss_cons (ds_set (i := 3) S__law_shaken.nd (DF.fz (df_lst (da_cons (de_call F__law_stuff (hr.mono (by omega)) (by rfl) (da_cons (de_var 0) (da_cons de_int da_nil))) da_nil))))
      (dss_cons (ds_if (dt_val (de_isi (de_var 1) (by rfl) T.n_isinstance (by rfl) T.n_int (by decide +kernel)))
      (dss_one (ds_set (i := 3) S__law_shaken.nd (de_add (de_var 3) (DF.fz (df_lst (da_cons (de_addB (de_var 1) de_int) (da_cons (de_subB (de_var 1) de_int) (da_cons (de_notB (de_var 1)) (da_cons (de_strB (by rfl) T.n_str (da_cons (de_var 1) da_nil)) (da_cons (de_addB (de_var 1) de_int) da_nil))))))))))
      dss_nil)
      (dss_one (ds_ret (de_call F__law_any (hr.mono (by omega)) (by rfl) (da_cons (de_var 0) (da_cons (de_var 3) da_nil)))))))
      dss_nil)
      (dss_cons (ds_par3 (i := 4) (j := 5) (l := 6) rfl S__law_shaken.nd rfl rfl rfl (by decide) (by decide) (by decide) rfl rfl rfl (da_cons (DF.st (df_listc (by rfl) T.n_list (da_cons (de_var 1) da_nil))) (da_cons (de_call F__law_spin (hr.mono (by omega)) (by rfl) (da_cons (de_var 0) (da_cons (de_len (by rfl) T.n_len (da_cons (de_var 1) da_nil)) da_nil))) (da_cons (de_call F__law_spin (hr.mono (by omega)) (by rfl) (da_cons (de_var 0) (da_cons de_int da_nil))) da_nil))) rfl)
      (dss_cons (ds_if (dt_eq hr.units (de_var 6) de_int)
      (dss_one (ds_set (i := 4) S__law_shaken.nd (DF.st (df_cat (de_slice (de_var 4) do_none (do_some (de_var 5))) (de_slice (de_var 4) (do_some (de_add (de_var 5) de_int)) do_none)))))
      (dss_one (ds_if (dt_eq hr.units (de_var 6) de_int)
      (dss_one (ds_set (i := 4) S__law_shaken.nd (DF.st (df_cat (de_slice (de_var 4) do_none (do_some (de_add (de_var 5) de_int))) (de_slice (de_var 4) (do_some (de_var 5)) do_none)))))
      (dss_one (ds_if (dt_eq hr.units (de_var 6) de_int)
      (dss_one (ds_set (i := 4) S__law_shaken.nd (DF.st (df_revL (de_var 4)))))
      (dss_one (ds_if (dt_eq hr.units (de_var 6) de_int)
      (dss_one (ds_ret (de_if (dt_val (de_isi (de_var 1) (by rfl) T.n_isinstance (by rfl) T.n_tuple (by decide +kernel))) (de_frz (de_var 4)) (de_tuplec (by rfl) T.n_tuple (da_cons (de_var 4) da_nil)))))
      (dss_one (ds_asg (de_if (dt_gt (de_var 2) de_int) (de_call F__law_shaken (hr.mono (by omega)) (by rfl) (da_cons (de_var 0) (da_cons (de_ix (de_var 4) (de_var 5)) (da_cons (de_sub (de_var 2) de_int) da_nil)))) (de_call F__law_stuff (hr.mono (by omega)) (by rfl) (da_cons (de_var 0) (da_cons de_int da_nil)))) (dg_sub (de_var 4) (de_var 5)))))))))))
      (dss_one (ds_ret (de_if (dt_val (de_isi (de_var 1) (by rfl) T.n_isinstance (by rfl) T.n_tuple (by decide +kernel))) (de_tuplec (by rfl) T.n_tuple (da_cons (de_var 4) da_nil)) (de_frz (de_var 4))))))))) (fun _ _ _ _ _ h => by rw [Rs__law_shaken] at h; exact h)
theorem dv__law_shaken (T : Txt K mg) (F__law_spin : DFn P w K mg base "_law_spin" 2 1 C__law_spin) (F__law_stuff : DFn P w K mg base "_law_stuff" 2 6 C__law_stuff) (F__law_any : DFn P w K mg base "_law_any" 2 2 C__law_any) : DFn P w K mg base "_law_shaken" 3 10 C__law_shaken := dvR__law_shaken T F__law_spin F__law_stuff F__law_any 4
theorem S__law_is_told : FnScope ["_law_found", "_law_due"] ["_law_found", "_law_due"] (defScope (topS 34)) := ⟨rfl, rfl, rfl, by decide +kernel, rfl, by decide +kernel, by decide +kernel⟩
theorem dv__law_is_told (T : Txt K mg)  : DFn P w K mg base "_law_is_told" 2 1 C__law_is_told := by
  obtain ⟨f, fd, hm, F, hb⟩ := T.d__law_is_told
  exact dfn_of (k := 0) (wb := b_law_is_told) F hm hb S__law_is_told rfl (fun cdv A outer s H E B hB hr =>
    (dss_one (ds_ret (de_and (de_isi (de_var 0) (by rfl) T.n_isinstance (by rfl) T.n_bool (by decide +kernel)) (de_one (de_eq hr.units (de_var 0) (de_var 1))))))) (fun _ _ _ _ _ h => by rw [Cq__law_is_told] at h; exact h)
theorem S__law_kinds : FnScope ["_law_e", "_law_some", "_law_words", "_law_word", "_law_good"] ["_law_e"] (defScope (topS 35)) := ⟨rfl, rfl, rfl, by decide +kernel, rfl, by decide +kernel, by decide +kernel⟩
theorem kinds_ok (T : Txt K mg) : KindsOk P w K mg base := by
  obtain ⟨f, fd, hm, F, hb⟩ := T.d__law_kinds
  refine ⟨topS 35, f, fd, ["_law_e", "_law_some", "_law_words", "_law_word", "_law_good"], hm, F, hb, rfl, S__law_kinds, fun c D d p C hz hf cdv A outer s H B hB h1 => ?_⟩
  unfold bKinds bKindsB
  exact (dss_cons (ds_set (i := 1) S__law_kinds.nd (DF.fz (df_lst (da_cons (ErrF.isP (n := "_law_e") (x := "InvalidCell") C (List.mem_singleton.mpr rfl) hz hf hB (by decide) (by rfl) (Or.inl rfl) (by rfl) T.n_isinstance (by rfl)) (da_cons (ErrF.isP (n := "_law_e") (x := "InvalidHeard") C (List.mem_singleton.mpr rfl) hz hf hB (by decide) (by rfl) (Or.inl rfl) (by rfl) T.n_isinstance (by rfl)) (da_cons (ErrF.isP (n := "_law_e") (x := "InvalidLoop") C (List.mem_singleton.mpr rfl) hz hf hB (by decide) (by rfl) (Or.inl rfl) (by rfl) T.n_isinstance (by rfl)) da_nil))))))
      (dss_cons (ds_set (i := 1) S__law_kinds.nd (de_add (de_var 1) (DF.fz (df_lst (da_cons (ErrF.isP (n := "_law_e") (x := "InvalidNumber") C (List.mem_singleton.mpr rfl) hz hf hB (by decide) (by rfl) (Or.inl rfl) (by rfl) T.n_isinstance (by rfl)) (da_cons (ErrF.isP (n := "_law_e") (x := "InvalidText") C (List.mem_singleton.mpr rfl) hz hf hB (by decide) (by rfl) (Or.inl rfl) (by rfl) T.n_isinstance (by rfl)) (da_cons (ErrF.isP (n := "_law_e") (x := "InvalidWishes") C (List.mem_singleton.mpr rfl) hz hf hB (by decide) (by rfl) (Or.inl rfl) (by rfl) T.n_isinstance (by rfl)) da_nil)))))))
      (dss_cons (ds_set (i := 1) S__law_kinds.nd (de_add (de_var 1) (DF.fz (df_lst (da_cons (ErrF.isP (n := "_law_e") (x := "NothingToUndo") C (List.mem_singleton.mpr rfl) hz hf hB (by decide) (by rfl) (Or.inl rfl) (by rfl) T.n_isinstance (by rfl)) (da_cons (ErrF.isP (n := "_law_e") (x := "TooMany") C (List.mem_singleton.mpr rfl) hz hf hB (by decide) (by rfl) (Or.inl rfl) (by rfl) T.n_isinstance (by rfl)) (da_cons (ErrF.isP (n := "_law_e") (x := "Unlike") C (List.mem_singleton.mpr rfl) hz hf hB (by decide) (by rfl) (Or.inl rfl) (by rfl) T.n_isinstance (by rfl)) da_nil)))))))
      (dss_cons (ds_set (i := 1) S__law_kinds.nd (de_add (de_var 1) (DF.fz (df_lst (da_cons (de_isP (i := 0) (List.mem_singleton.mpr rfl) C.exc hz hf hB rfl (Or.inl rfl) (by rfl) T.n_isinstance (pe_bltn (v := .ty "ValueError") (by rfl) T.n_ValueError (by decide +kernel) rfl) (fun _ h => h) C.ve) da_nil)))))
      (dss_cons (ds_set (i := 2) S__law_kinds.nd (DF.fz (df_lst (da_cons de_str (da_cons de_str (da_cons de_str (da_cons de_str (da_cons de_str (da_cons de_str da_nil)))))))))
      (dss_cons (ds_set (i := 2) S__law_kinds.nd (de_add (de_var 2) (DF.fz (df_lst (da_cons de_str (da_cons de_str (da_cons de_str (da_cons de_str da_nil))))))))
      (dss_one (ds_ret (de_join (DF.fz (df_lcH (own := [("_law_word", 3), ("_law_good", 4)]) ⟨p, h1, List.mem_singleton.mpr rfl⟩ S__law_kinds.nd (dih_zip (by rfl) T.n_zip (da_cons (de_var 2) (da_cons (de_var 1) da_nil))) (blkOk_by (N := ["_law_e", "_law_some", "_law_words", "_law_word", "_law_good"]) (sc := defScope (topS 35)) (by decide +kernel)) (clink_pair (by simp) (by simp)) (fun _ _ _ _ _ _ hc => pg_tupH hc (pgs_cons (pg_name (i := 3) S__law_kinds.nd rfl (Or.inl rfl)) (pgs_cons (pg_name (i := 4) S__law_kinds.nd rfl (Or.inl rfl)) pgs_nil))) (fun _ _ _ _ _ _ => dts_one (dt_val (de_var 4))) (fun _ _ _ _ _ _ => (de_var 3)))))))))))))
theorem S__law_call : FnScope ["_law_call_so", "_law_found", "_law_e"] ["_law_call_so"] (defScope (topS 36)) := ⟨rfl, rfl, rfl, by decide +kernel, rfl, by decide +kernel, by decide +kernel⟩
theorem call_ok (T : Txt K mg) : CallOk P w K mg base := by
  obtain ⟨f, fd, hm, F, hb⟩ := T.d__law_call
  refine ⟨topS 36, f, fd, hm, F, hb, S__law_call, rfl, Or.inl rfl, fun cdv A outer s H B G f' ct hr htb hG stab act => ?_⟩
  exact dss_cons (ds_set (i := 1) S__law_call.nd de_non) (dss_cons (ds_lawtry (G := G) rfl rfl rfl rfl T.err rfl rfl rfl htb hG stab
    (fun pn xe B2 t2 g2 => ds_set (i := 1) S__law_call.nd (de_tup (da_cons de_str (da_cons (act pn xe B2 _ _ t2 g2) da_nil))))
    (fun a oe cls d pn hz hf => suite_one rfl rfl rfl (kinds_ok T) rfl (roomH_of hr) hz hf rfl rfl)
    (fun a oe cls d pn hz hf => suite_one rfl rfl rfl (kinds_ok T) rfl (roomH_of hr) hz hf rfl rfl)
    (fun a oe cls d pn hz hf => suite_none rfl rfl rfl (kinds_ok T) rfl (roomH_of hr) hz hf rfl))
    (dss_one (ds_ret (de_var 1))))
theorem S__law_parts : FnScope ["_law_ring_here", "_law_number", "_law_rows", "_law_fold", "_law_turned_so"] ["_law_ring_here", "_law_number"] (defScope (topS 37)) := ⟨rfl, rfl, rfl, by decide +kernel, rfl, by decide +kernel, by decide +kernel⟩
theorem dv__law_parts (T : Txt K mg)  : DFn P w K mg base "_law_parts" 2 1 C__law_parts := by
  obtain ⟨f, fd, hm, F, hb⟩ := T.d__law_parts
  exact dfn_of (k := 0) (wb := b_law_parts) F hm hb S__law_parts rfl (fun cdv A outer s H E B hB hr =>
    (dss_cons (ds_asg (de_var 0) (dg_tup rfl (dgs_cons (dg_name (i := 2) S__law_parts.nd) (dgs_cons (dg_name (i := 3) S__law_parts.nd) (dgs_cons (dg_name (i := 4) S__law_parts.nd) dgs_nil)))))
      (dss_cons (ds_if (DW.dt (dw_or (dt_not (dt_ltLt de_int (de_var 1) (de_var 2))) (dw_or1 (DW.dt (dw_and (dt_val (de_var 4)) (dw_and1 (DW.dt (dw_or (dt_gt (de_mul de_int (de_var 1)) (de_var 2)) (dw_or1 (dt_eq hr.units (de_var 3) de_int))))))))))
      (dss_one (ds_ret (de_tup (da_cons de_str da_nil))))
      dss_nil)
      (dss_cons (ds_if (dt_not (dt_val (de_var 4)))
      (dss_one (ds_ret (de_tup (da_cons de_str (da_cons (DF.fz (df_lst (da_cons (de_tup (da_cons (de_var 1) (da_cons (de_var 3) (da_cons de_bl da_nil)))) (da_cons (de_tup (da_cons (de_sub (de_var 2) (de_var 1)) (da_cons (de_var 3) (da_cons de_bl da_nil)))) da_nil)))) da_nil)))))
      dss_nil)
      (dss_cons (ds_if (dt_eq hr.units (de_mul de_int (de_var 1)) (de_var 2))
      (dss_one (ds_ret (de_tup (da_cons de_str (da_cons (DF.fz (df_lst (da_cons (de_tup (da_cons (de_var 1) (da_cons (de_mul de_int (de_var 3)) (da_cons de_bl da_nil)))) da_nil))) da_nil)))))
      dss_nil)
      (dss_one (ds_ret (de_tup (da_cons de_str (da_cons (DF.fz (df_lst (da_cons (de_tup (da_cons (de_var 1) (da_cons (de_mul de_int (de_var 3)) (da_cons de_bl da_nil)))) (da_cons (de_tup (da_cons (de_sub (de_var 2) (de_mul de_int (de_var 1))) (da_cons (de_var 3) (da_cons de_bl da_nil)))) da_nil)))) da_nil)))))))))) (fun _ _ _ _ _ h => by rw [Cq__law_parts] at h; exact h)
theorem S_law : FnScope ["_law_script", "_law_k", "_law_crank_here", "_law_things", "_law_thing", "_law_amount", "_law_rows", "_law_bad", "_law_size", "_law_ring_here", "_law_hope_here", "_law_first_so", "_law_good", "_law_fold", "_law_call_so", "_law_turned_so", "_law_number", "_law_one"] ["_law_script"] (defScope (topS 38)) := ⟨rfl, rfl, rfl, by decide +kernel, rfl, by decide +kernel, by decide +kernel⟩
theorem dv_law (T : Txt K mg) (FC : CallOk P w K mg base) (F__law_crank : DFn P w K mg base "_law_crank" 2 1 C__law_crank) (F__law_hope : DFn P w K mg base "_law_hope" 1 3 C__law_hope) (F__law_ring : DFn P w K mg base "_law_ring" 1 3 C__law_ring) (F__law_shaken : DFn P w K mg base "_law_shaken" 3 10 C__law_shaken) (F__law_stuff : DFn P w K mg base "_law_stuff" 2 6 C__law_stuff) (F__law_is_ring : DFn P w K mg base "_law_is_ring" 1 2 C__law_is_ring) (F_is_loop : DFn P w K mg base "is_loop" 1 2 C_is_loop) (F__law_is_told : DFn P w K mg base "_law_is_told" 2 1 C__law_is_told) (F__law_is_hope : DFn P w K mg base "_law_is_hope" 1 2 C__law_is_hope) (F_is_wish : DFn P w K mg base "is_wish" 1 2 C_is_wish) (F_length : DFn P w K mg base "length" 2 4 C_length) (F_slit : DFn P w K mg base "slit" 2 4 C_slit) (F__law_parts : DFn P w K mg base "_law_parts" 2 1 C__law_parts) (F__law_spin : DFn P w K mg base "_law_spin" 2 1 C__law_spin) {f c Pt : Addr} {A : Around} {outer : List Env} {s : Shared} {H : Hp} {E : XK} {B : Bs} (TB : TabB base mg c Pt) (hB : B.tb = [(Pt, ("law.<locals>.<lambda>" : Str))]) (hr : Room 12 (A.deeper (envOfC "law" (defScope (topS 38)) s.heap.objs.size f (.ref c)))) :
    DSs (cxOf (L2N.CX P w) P w K mg base ["_law_script", "_law_k", "_law_crank_here", "_law_things", "_law_thing", "_law_amount", "_law_rows", "_law_bad", "_law_size", "_law_ring_here", "_law_hope_here", "_law_first_so", "_law_good", "_law_fold", "_law_call_so", "_law_turned_so", "_law_number", "_law_one"] "law" (defScope (topS 38)) f (.ref c) A outer s H E) B (defBody (topS 38)) (blaw (addrOf mg)) := by
  have hmT : (Pt, (envOfC "law" (defScope (topS 38)) s.heap.objs.size f (.ref c)).qual ++ "<lambda>") ∈ B.tb := by rw [hB]; exact List.mem_singleton.mpr rfl
  have hu : ∀ p ∈ B.tb, p.1 = Pt → p.2 = (envOfC "law" (defScope (topS 38)) s.heap.objs.size f (.ref c)).qual ++ "<lambda>" := by
    intro p hp _
    rw [hB] at hp
    rw [List.mem_singleton.mp hp]
    rfl
  exact (dss_cons (ds_for (passes_of rfl) rfl (di_range1 (by rfl) T.n_range (da_cons (de_max2 rfl (by rfl) T.n_max (da_cons de_int (da_cons (de_min2 rfl hr.u1 (by rfl) T.n_min (da_cons de_int (da_cons (de_len (by rfl) T.n_len (da_cons (de_var 0) da_nil)) da_nil))) da_nil))) da_nil)) (dg_name (i := 1) S_law.nd)
      (dss_cons (ds_set (i := 2) S_law.nd (de_call F__law_crank (hr.mono (by decide)) (by rfl) (da_cons (de_var 0) (da_cons (de_var 1) da_nil))))
      (dss_cons (ds_asg (de_tup (da_cons (de_call F__law_ring (hr.mono (by decide)) (by rfl) (da_cons (de_var 2) da_nil)) (da_cons (de_call F__law_hope (hr.mono (by decide)) (by rfl) (da_cons (de_var 2) da_nil)) da_nil))) (dg_tup rfl (dgs_cons (dg_name (i := 9) S_law.nd) (dgs_cons (dg_name (i := 10) S_law.nd) dgs_nil))))
      (dss_cons (ds_set (i := 3) S_law.nd (DF.fz (df_lst (da_cons (de_var 9) (da_cons (de_var 10) (da_cons (DF.fz (df_listc (by rfl) T.n_list (da_cons (de_var 9) da_nil))) (da_cons (DF.fz (df_listc (by rfl) T.n_list (da_cons (de_var 10) da_nil))) (da_cons (de_revT (de_var 9)) (da_cons (de_revT (de_var 10)) (da_cons (de_add (de_var 9) (de_tup (da_cons de_int da_nil))) (da_cons (de_slice (de_var 10) do_none (do_some de_int)) da_nil)))))))))))
      (dss_cons (ds_for (passes_of rfl) rfl (di_seq (DF.fz (df_lst (da_cons (de_var 9) (da_cons (de_var 9) (da_cons (de_var 10) (da_cons (de_var 10) da_nil))))))) (dg_name (i := 4) S_law.nd)
      (dss_cons (ds_set (i := 11) S_law.nd (de_call F__law_shaken (hr.mono (by decide)) (by rfl) (da_cons (de_var 2) (da_cons (de_var 4) (da_cons de_int da_nil)))))
      (dss_one (ds_set (i := 3) S_law.nd (de_add (de_var 3) (DF.fz (df_lst (da_cons (de_var 11) (da_cons (de_call F__law_shaken (hr.mono (by decide)) (by rfl) (da_cons (de_var 2) (da_cons (de_var 11) (da_cons de_int da_nil)))) (da_cons (de_call F__law_shaken (hr.mono (by decide)) (by rfl) (da_cons (de_var 2) (da_cons (de_var 4) (da_cons de_int da_nil)))) da_nil))))))))))
      (dss_cons (ds_for (passes_of rfl) rfl (di_seq (DF.fz (df_lst (da_cons (de_neg de_int) (da_cons (de_neg de_int) (da_cons (de_neg de_int) (da_cons de_int (da_cons de_int (da_cons de_int (da_cons de_int (da_cons de_int (da_cons de_int (da_cons de_int (da_cons de_int (da_cons de_bl da_nil))))))))))))))) (dg_name (i := 5) S_law.nd)
      (dss_one (ds_set (i := 3) S_law.nd (de_add (de_var 3) (DF.fz (df_lst (da_cons (de_tup (da_cons (de_var 5) (da_cons de_int (da_cons de_bl da_nil)))) (da_cons (de_tup (da_cons de_int (da_cons (de_var 5) (da_cons de_bl da_nil)))) (da_cons (de_tup (da_cons (de_var 5) (da_cons de_bl (da_cons de_bl da_nil)))) (da_cons (de_tup (da_cons de_int (da_cons de_int (da_cons (de_var 5) da_nil)))) da_nil))))))))))
      (dss_cons (ds_for (passes_of rfl) rfl (di_seq (de_add (de_var 3) (DF.fz (df_lst (da_cons (de_call F__law_stuff (hr.mono (by decide)) (by rfl) (da_cons (de_var 2) (da_cons de_int da_nil))) (da_cons (de_call F__law_stuff (hr.mono (by decide)) (by rfl) (da_cons (de_var 2) (da_cons de_int da_nil))) da_nil)))))) (dg_name (i := 4) S_law.nd)
      (dss_cons (ds_set (i := 12) S_law.nd (de_call F__law_is_ring (hr.mono (by decide)) (by rfl) (da_cons (de_var 4) da_nil)))
      (dss_cons (ds_if (DW.dt (dw_or (dt_not (dt_val (de_call F__law_is_told (hr.mono (by decide)) (by rfl) (da_cons (de_call F_is_loop (hr.mono (by decide)) (by rfl) (da_cons (de_var 4) da_nil)) (da_cons (de_var 12) da_nil))))) (dw_or1 (dt_not (dt_val (de_call F__law_is_told (hr.mono (by decide)) (by rfl) (da_cons (de_call F_is_wish (hr.mono (by decide)) (by rfl) (da_cons (de_var 4) da_nil)) (da_cons (de_call F__law_is_hope (hr.mono (by decide)) (by rfl) (da_cons (de_var 4) da_nil)) da_nil))))))))
      (dss_one (ds_ret de_bl))
      dss_nil)
      (dss_one (ds_if (dt_not (dt_val (de_var 12)))
      (dss_one (ds_for (passes_of rfl) rfl (di_seq (de_tup (da_cons (de_fn (by rfl) T.d_length) (da_cons (de_fn (by rfl) T.d_slit) da_nil)))) (dg_name (i := 14) S_law.nd)
      (dss_one (ds_if (dt_ne hr.units (de_caught (k := 4) FC rfl TB rfl hmT hu (hr.mono (by decide)) (lamS_by (sc := defScope (topS 38)) (by decide +kernel)) rfl (by intros; rfl) (fun A2 outer2 s2 H2 E2 f2 c2 B2 hr => (de_callV (i := 14) (n := 2) (k := 4) (tab := [("length", C_length), ("slit", C_slit)]) (by intro p hp; simp only [List.mem_cons, List.not_mem_nil, or_false] at hp; rcases hp with rfl | rfl <;> first | exact ⟨4, by decide, F_length⟩ | exact ⟨4, by decide, F_slit⟩) (hr.mono (by decide)) (da_cons (de_var 4) (da_cons de_non da_nil))))) (de_tup (da_cons de_str da_nil)))
      (dss_one (ds_ret de_bl))
      dss_nil))))
      dss_nil)))))
      (dss_cons (ds_for (passes_of rfl) rfl (di_seq (de_tup (da_cons de_int (da_cons de_int (da_cons de_int (da_cons de_int da_nil)))))) (dg_name (i := 6) S_law.nd)
      (dss_one (ds_for (passes_of rfl) rfl (di_seq (de_tup (da_cons de_int (da_cons de_int (da_cons de_int da_nil))))) (dg_name (i := 13) S_law.nd)
      (dss_one (ds_for (passes_of rfl) rfl (di_seq (de_tup (da_cons de_bl (da_cons de_bl da_nil)))) (dg_name (i := 15) S_law.nd)
      (dss_one (ds_for (passes_of rfl) rfl (di_range2 (by rfl) T.n_range (da_cons (de_neg de_int) (da_cons de_int da_nil))) (dg_name (i := 16) S_law.nd)
      (dss_cons (ds_set (i := 17) S_law.nd (de_tup (da_cons (de_var 6) (da_cons (de_var 13) (da_cons (de_var 15) da_nil)))))
      (dss_one (ds_if (dt_ne hr.units (de_caught (k := 4) FC rfl TB rfl hmT hu (hr.mono (by decide)) (lamS_by (sc := defScope (topS 38)) (by decide +kernel)) rfl (by intros; rfl) (fun A2 outer2 s2 H2 E2 f2 c2 B2 hr => (de_call F_slit (hr.mono (by decide)) (by rfl) (da_cons (de_var 17) (da_cons (de_var 16) da_nil))))) (de_call F__law_parts (hr.mono (by decide)) (by rfl) (da_cons (de_var 17) (da_cons (de_var 16) da_nil))))
      (dss_one (ds_ret de_bl))
      dss_nil))))))))))
      (dss_cons (ds_for (passes_of rfl) rfl (di_seq (DF.fz (df_lst (da_cons de_non (da_cons de_int (da_cons de_bl (da_cons de_str (da_cons (de_add (de_pow de_int de_int) de_int) da_nil)))))))) (dg_name (i := 7) S_law.nd)
      (dss_one (ds_if (dt_ne hr.units (de_caught (k := 4) FC rfl TB rfl hmT hu (hr.mono (by decide)) (lamS_by (sc := defScope (topS 38)) (by decide +kernel)) rfl (by intros; rfl) (fun A2 outer2 s2 H2 E2 f2 c2 B2 hr => (de_call F_length (hr.mono (by decide)) (by rfl) (da_cons (de_var 9) (da_cons (de_var 7) da_nil))))) (de_tup (da_cons de_str da_nil)))
      (dss_one (ds_ret de_bl))
      dss_nil)))
      (dss_cons (ds_if (dt_ne hr.units (de_caught (k := 4) FC rfl TB rfl hmT hu (hr.mono (by decide)) (lamS_by (sc := defScope (topS 38)) (by decide +kernel)) rfl (by intros; rfl) (fun A2 outer2 s2 H2 E2 f2 c2 B2 hr => (de_call F_slit (hr.mono (by decide)) (by rfl) (da_cons (de_var 9) (da_cons de_non da_nil))))) (de_tup (da_cons de_str da_nil)))
      (dss_one (ds_ret de_bl))
      dss_nil)
      (dss_cons (ds_set (i := 8) S_law.nd (de_add de_int (de_call F__law_spin (hr.mono (by decide)) (by rfl) (da_cons (de_var 2) (da_cons (de_pow de_int de_int) da_nil)))))
      (dss_one (ds_if (dt_ne hr.units (de_call F_length (hr.mono (by decide)) (by rfl) (da_cons (de_var 9) (da_cons (de_var 8) da_nil))) (de_mul (de_ix (de_var 9) de_int) (de_var 8)))
      (dss_one (ds_ret de_bl))
      dss_nil)))))))))))))
      (dss_one (ds_ret de_bl)))
end
end L3.K01
set_option maxRecDepth 100000
set_option maxHeartbeats 1000000
/-! S1: what the defs of loops and shifts tell. -/
namespace L3.K01
open PySem PySem.Spec PyProof.Rows L2 L3 Gl
/-! ### data -/
def plD (p : Pl) : D := .tup [.int p.1, .int p.2]
def triD (T : Tri) : D := .tup [.int T.least, .int T.side, .bl T.pur]
def mirD : Option Pl → D
  | none => .non
  | some m => plD m
def wayD (W : Way) : D := .tup [triD W.tri, mirD W.mir]
def wishD (x : Wish) : D := .tup [.int x.late, .bl x.back, .bl x.over]
def wishesD (ws : List Wish) : D := .tup (ws.map wishD)
/-- a loop -/
structure Ring where
  r : Nat
  f : Nat
  t : Bool
def Ring.ok (l : Ring) : Prop := 1 ≤ l.r ∧ l.r ≤ 4 ∧ (l.f = 1 ∨ l.f = 2 ∨ l.f = 4)
def Ring.d (l : Ring) : D := .tup [.int l.r, .int l.f, .bl l.t]
def WishOk (x : Wish) : Prop := -12 ≤ x.late ∧ x.late ≤ 12
def WsOk (ws : List Wish) : Prop := ws.length ≤ 4 ∧ ∀ x ∈ ws, WishOk x
/-! ### is_int and the like, of any data -/
def isIntD : D → Int → Int → Bool
  | .int i, lo, hi => decide (lo ≤ i ∧ i ≤ hi)
  | _, _, _ => false
theorem is_int_ok {v : D} {lo hi : Int} {M : Mem} {Q : KD} {E : ExK} (hv : v.pure = true) (h : Q (.bl (isIntD v lo hi)) M) : C_is_int [v, .int lo, .int hi] M Q E := by
  cases v with
  | int i =>
    simp only [Cq_is_int, bis_int, bis_int_s1, sSeq, sSet, sIf, sRet, sDrop, sNil, sRaise, sAsg, sPar2, sPar3, gSet, gTupD, gsCons, gsNil, gSub, wVar, wC, wOp, wB, wTup, wFz, wSt, fLst, fCat, zNil, zCons, wAnd, wOr, wNot, wIf, wTst, uAnd, uOr, uNot, tstOp, wLeLe, uLtLt, wNeg, oSub, oMul, oDiv, oMod, oPow, oLt, oLe, oGt, oGe, oCmp, oAbs, wIsi, wCall, wIsN, uIsN, startD, lenD, viewL, List.map_cons, List.map_nil, List.length_cons, List.length_nil, List.replicate, List.cons_append, List.nil_append, List.getElem?_cons_zero, List.getElem?_cons_succ, List.set_cons_zero, List.set_cons_succ, Nat.add_sub_cancel, Nat.sub_self, Nat.zero_add, Nat.reduceAdd, Nat.reduceSub, if_true, if_false, true_and, and_true, Bool.false_eq_true, reduceIte, ↓reduceIte, min_ii, max_ii, add_ii, add_tt, add_ss, add_ll, len_tup, len_lst, len_scr, len_str, int_int, int_bl, tup_lst, tup_tup, see_non, see_bl, see_int, see_str, see_tup, see_lst, see_dic, see_adr, see_scr, see_kup, ty_non, ty_bl, ty_int, ty_str, ty_tup, ty_lst, ty_kup, reduceCtorEq, nn_non, nn_bl, nn_int, nn_str, nn_tup, nn_lst, nn_dic, wFrz, wSl, oSome, oNone, ixT0, ixT1, ixT2, ixT3, ixL0, ixL1, ixL2, ixL3, eqII, neII, eqBB, neBB, eqPP, nePP, sz0, sz1, sz2, sz3, sz4, sz5, sz6, sz7, sz8, sz9, sz10, sz12, sz1b, sz2b, sz3b, sz4b, Option.bind_some, Bool.not_true, Bool.not_false, decide_eq_true_eq, beq_iff_eq, Bool.not_eq_true', beq_eq_false_iff_ne, ne_eq, kII, kIB, kIT, kIS, kIL, kBI, kBB, kBT, kBS, kBL, kSI, kSB, kST, kSS, kSL, kNI, kNB, kNT, kNS, kNL, kTI, kTB, kTT, kTS, kTL, kLI, kLB, kLT, kLS, kLL]
    unfold isIntD at h
    by_cases h1 : lo ≤ i
    · simpa [h1] using h
    · simpa [h1] using h
  | dic _ => exact nomatch hv
  | ref _ => exact nomatch hv
  | adr _ => exact nomatch hv
  | scr _ => exact nomatch hv
  | kup _ => exact nomatch hv
  | _ =>
    simp only [Cq_is_int, bis_int, bis_int_s1, sSeq, sSet, sIf, sRet, sDrop, sNil, sRaise, sAsg, sPar2, sPar3, gSet, gTupD, gsCons, gsNil, gSub, wVar, wC, wOp, wB, wTup, wFz, wSt, fLst, fCat, zNil, zCons, wAnd, wOr, wNot, wIf, wTst, uAnd, uOr, uNot, tstOp, wLeLe, uLtLt, wNeg, oSub, oMul, oDiv, oMod, oPow, oLt, oLe, oGt, oGe, oCmp, oAbs, wIsi, wCall, wIsN, uIsN, startD, lenD, viewL, List.map_cons, List.map_nil, List.length_cons, List.length_nil, List.replicate, List.cons_append, List.nil_append, List.getElem?_cons_zero, List.getElem?_cons_succ, List.set_cons_zero, List.set_cons_succ, Nat.add_sub_cancel, Nat.sub_self, Nat.zero_add, Nat.reduceAdd, Nat.reduceSub, if_true, if_false, true_and, and_true, Bool.false_eq_true, reduceIte, ↓reduceIte, min_ii, max_ii, add_ii, add_tt, add_ss, add_ll, len_tup, len_lst, len_scr, len_str, int_int, int_bl, tup_lst, tup_tup, see_non, see_bl, see_int, see_str, see_tup, see_lst, see_dic, see_adr, see_scr, see_kup, ty_non, ty_bl, ty_int, ty_str, ty_tup, ty_lst, ty_kup, reduceCtorEq, nn_non, nn_bl, nn_int, nn_str, nn_tup, nn_lst, nn_dic, wFrz, wSl, oSome, oNone, ixT0, ixT1, ixT2, ixT3, ixL0, ixL1, ixL2, ixL3, eqII, neII, eqBB, neBB, eqPP, nePP, sz0, sz1, sz2, sz3, sz4, sz5, sz6, sz7, sz8, sz9, sz10, sz12, sz1b, sz2b, sz3b, sz4b, Option.bind_some, Bool.not_true, Bool.not_false, decide_eq_true_eq, beq_iff_eq, Bool.not_eq_true', beq_eq_false_iff_ne, ne_eq, kII, kIB, kIT, kIS, kIL, kBI, kBB, kBT, kBS, kBL, kSI, kSB, kST, kSS, kSL, kNI, kNB, kNT, kNS, kNL, kTI, kTB, kTT, kTS, kTL, kLI, kLB, kLT, kLS, kLL]
    exact h
def isLoopD : D → Bool
  | .tup [a, b, c] => isIntD a 1 4 && isIntD b 1 4 && !(isIntD b 3 3) && isBoolD c
  | _ => false
theorem pures3 {a b c : D} (h : (D.tup [a, b, c]).pure = true) : a.pure = true ∧ b.pure = true ∧ c.pure = true := by
  have h : (a.pure && (b.pure && (c.pure && true))) = true := h
  simp only [Bool.and_eq_true, and_true] at h
  exact h
theorem pures2 {a b : D} (h : (D.tup [a, b]).pure = true) : a.pure = true ∧ b.pure = true := by
  have h : (a.pure && (b.pure && true)) = true := h
  simp only [Bool.and_eq_true, and_true] at h
  exact h
theorem len3 {ds : List D} (h : ds.length = 3) : ∃ a b c, ds = [a, b, c] := by
  match ds, h with
  | [a, b, c], _ => exact ⟨a, b, c, rfl⟩
theorem len2 {ds : List D} (h : ds.length = 2) : ∃ a b, ds = [a, b] := by
  match ds, h with
  | [a, b], _ => exact ⟨a, b, rfl⟩
theorem isLoopD_ne {ds : List D} (h : ds.length ≠ 3) : isLoopD (.tup ds) = false := by
  match ds, h with
  | [], _ => rfl
  | [_], _ => rfl
  | [_, _], _ => rfl
  | [_, _, _], h => exact absurd rfl h
  | _ :: _ :: _ :: _ :: _, _ => rfl
theorem isInt_int {v : D} {lo hi : Int} (h : isIntD v lo hi = true) : ∃ i, v = .int i ∧ lo ≤ i ∧ i ≤ hi := by
  cases v <;> first | exact ⟨_, rfl, of_decide_eq_true h⟩ | cases h
theorem is_loop_ok {v : D} (hv : v.pure = true) {M : Mem} {Q : KD} {E : ExK} (h : Q (.bl (isLoopD v)) M) : C_is_loop [v] M Q E := by
  by_cases ht : ∃ ds, v = .tup ds
  · obtain ⟨ds, rfl⟩ := ht
    by_cases hl : ds.length = 3
    · obtain ⟨a, b, c, rfl⟩ := len3 hl
      obtain ⟨pa, pb, pc⟩ := pures3 hv
      simp only [Cq_is_loop, bis_loop, bis_loop_s1, bis_loop_s2, bis_loop_s3, bis_loop_s4, bis_loop_s5, sSeq, sSet, sIf, sRet, sDrop, sNil, sRaise, sAsg, sPar2, sPar3, gSet, gTupD, gsCons, gsNil, gSub, wVar, wC, wOp, wB, wTup, wFz, wSt, fLst, fCat, zNil, zCons, wAnd, wOr, wNot, wIf, wTst, uAnd, uOr, uNot, tstOp, wLeLe, uLtLt, wNeg, oSub, oMul, oDiv, oMod, oPow, oLt, oLe, oGt, oGe, oCmp, oAbs, wIsi, wCall, wIsN, uIsN, startD, lenD, viewL, List.map_cons, List.map_nil, List.length_cons, List.length_nil, List.replicate, List.cons_append, List.nil_append, List.getElem?_cons_zero, List.getElem?_cons_succ, List.set_cons_zero, List.set_cons_succ, Nat.add_sub_cancel, Nat.sub_self, Nat.zero_add, Nat.reduceAdd, Nat.reduceSub, if_true, if_false, true_and, and_true, Bool.false_eq_true, reduceIte, ↓reduceIte, min_ii, max_ii, add_ii, add_tt, add_ss, add_ll, len_tup, len_lst, len_scr, len_str, int_int, int_bl, tup_lst, tup_tup, see_non, see_bl, see_int, see_str, see_tup, see_lst, see_dic, see_adr, see_scr, see_kup, ty_non, ty_bl, ty_int, ty_str, ty_tup, ty_lst, ty_kup, reduceCtorEq, nn_non, nn_bl, nn_int, nn_str, nn_tup, nn_lst, nn_dic, wFrz, wSl, oSome, oNone, ixT0, ixT1, ixT2, ixT3, ixL0, ixL1, ixL2, ixL3, eqII, neII, eqBB, neBB, eqPP, nePP, sz0, sz1, sz2, sz3, sz4, sz5, sz6, sz7, sz8, sz9, sz10, sz12, sz1b, sz2b, sz3b, sz4b, Option.bind_some, Bool.not_true, Bool.not_false, decide_eq_true_eq, beq_iff_eq, Bool.not_eq_true', beq_eq_false_iff_ne, ne_eq, kII, kIB, kIT, kIS, kIL, kBI, kBB, kBT, kBS, kBL, kSI, kSB, kST, kSS, kSL, kNI, kNB, kNT, kNS, kNL, kTI, kTB, kTT, kTS, kTL, kLI, kLB, kLT, kLS, kLL]
      rw [if_neg (by decide)]
      refine is_int_ok pa ?_
      cases ea : isIntD a 1 4 with
      | false =>
        have e : isLoopD (.tup [a, b, c]) = false := by show (isIntD a 1 4 && isIntD b 1 4 && !(isIntD b 3 3) && isBoolD c) = false; rw [ea]; rfl
        rw [e] at h
        simp only [sSeq, sSet, sIf, sRet, sDrop, sNil, sRaise, sAsg, sPar2, sPar3, gSet, gTupD, gsCons, gsNil, gSub, wVar, wC, wOp, wB, wTup, wFz, wSt, fLst, fCat, zNil, zCons, wAnd, wOr, wNot, wIf, wTst, uAnd, uOr, uNot, tstOp, wLeLe, uLtLt, wNeg, oSub, oMul, oDiv, oMod, oPow, oLt, oLe, oGt, oGe, oCmp, oAbs, wIsi, wCall, wIsN, uIsN, startD, lenD, viewL, List.map_cons, List.map_nil, List.length_cons, List.length_nil, List.replicate, List.cons_append, List.nil_append, List.getElem?_cons_zero, List.getElem?_cons_succ, List.set_cons_zero, List.set_cons_succ, Nat.add_sub_cancel, Nat.sub_self, Nat.zero_add, Nat.reduceAdd, Nat.reduceSub, if_true, if_false, true_and, and_true, Bool.false_eq_true, reduceIte, ↓reduceIte, min_ii, max_ii, add_ii, add_tt, add_ss, add_ll, len_tup, len_lst, len_scr, len_str, int_int, int_bl, tup_lst, tup_tup, see_non, see_bl, see_int, see_str, see_tup, see_lst, see_dic, see_adr, see_scr, see_kup, ty_non, ty_bl, ty_int, ty_str, ty_tup, ty_lst, ty_kup, reduceCtorEq, nn_non, nn_bl, nn_int, nn_str, nn_tup, nn_lst, nn_dic, wFrz, wSl, oSome, oNone, ixT0, ixT1, ixT2, ixT3, ixL0, ixL1, ixL2, ixL3, eqII, neII, eqBB, neBB, eqPP, nePP, sz0, sz1, sz2, sz3, sz4, sz5, sz6, sz7, sz8, sz9, sz10, sz12, sz1b, sz2b, sz3b, sz4b, Option.bind_some, Bool.not_true, Bool.not_false, decide_eq_true_eq, beq_iff_eq, Bool.not_eq_true', beq_eq_false_iff_ne, ne_eq, kII, kIB, kIT, kIS, kIL, kBI, kBB, kBT, kBS, kBL, kSI, kSB, kST, kSS, kSL, kNI, kNB, kNT, kNS, kNL, kTI, kTB, kTT, kTS, kTL, kLI, kLB, kLT, kLS, kLL]
        exact h
      | true =>
        simp only [sSeq, sSet, sIf, sRet, sDrop, sNil, sRaise, sAsg, sPar2, sPar3, gSet, gTupD, gsCons, gsNil, gSub, wVar, wC, wOp, wB, wTup, wFz, wSt, fLst, fCat, zNil, zCons, wAnd, wOr, wNot, wIf, wTst, uAnd, uOr, uNot, tstOp, wLeLe, uLtLt, wNeg, oSub, oMul, oDiv, oMod, oPow, oLt, oLe, oGt, oGe, oCmp, oAbs, wIsi, wCall, wIsN, uIsN, startD, lenD, viewL, List.map_cons, List.map_nil, List.length_cons, List.length_nil, List.replicate, List.cons_append, List.nil_append, List.getElem?_cons_zero, List.getElem?_cons_succ, List.set_cons_zero, List.set_cons_succ, Nat.add_sub_cancel, Nat.sub_self, Nat.zero_add, Nat.reduceAdd, Nat.reduceSub, if_true, if_false, true_and, and_true, Bool.false_eq_true, reduceIte, ↓reduceIte, min_ii, max_ii, add_ii, add_tt, add_ss, add_ll, len_tup, len_lst, len_scr, len_str, int_int, int_bl, tup_lst, tup_tup, see_non, see_bl, see_int, see_str, see_tup, see_lst, see_dic, see_adr, see_scr, see_kup, ty_non, ty_bl, ty_int, ty_str, ty_tup, ty_lst, ty_kup, reduceCtorEq, nn_non, nn_bl, nn_int, nn_str, nn_tup, nn_lst, nn_dic, wFrz, wSl, oSome, oNone, ixT0, ixT1, ixT2, ixT3, ixL0, ixL1, ixL2, ixL3, eqII, neII, eqBB, neBB, eqPP, nePP, sz0, sz1, sz2, sz3, sz4, sz5, sz6, sz7, sz8, sz9, sz10, sz12, sz1b, sz2b, sz3b, sz4b, Option.bind_some, Bool.not_true, Bool.not_false, decide_eq_true_eq, beq_iff_eq, Bool.not_eq_true', beq_eq_false_iff_ne, ne_eq, kII, kIB, kIT, kIS, kIL, kBI, kBB, kBT, kBS, kBL, kSI, kSB, kST, kSS, kSL, kNI, kNB, kNT, kNS, kNL, kTI, kTB, kTT, kTS, kTL, kLI, kLB, kLT, kLS, kLL]
        refine is_int_ok pb ?_
        cases eb : isIntD b 1 4 with
        | false =>
          have e : isLoopD (.tup [a, b, c]) = false := by show (isIntD a 1 4 && isIntD b 1 4 && !(isIntD b 3 3) && isBoolD c) = false; rw [ea, eb]; rfl
          rw [e] at h
          simp only [sSeq, sSet, sIf, sRet, sDrop, sNil, sRaise, sAsg, sPar2, sPar3, gSet, gTupD, gsCons, gsNil, gSub, wVar, wC, wOp, wB, wTup, wFz, wSt, fLst, fCat, zNil, zCons, wAnd, wOr, wNot, wIf, wTst, uAnd, uOr, uNot, tstOp, wLeLe, uLtLt, wNeg, oSub, oMul, oDiv, oMod, oPow, oLt, oLe, oGt, oGe, oCmp, oAbs, wIsi, wCall, wIsN, uIsN, startD, lenD, viewL, List.map_cons, List.map_nil, List.length_cons, List.length_nil, List.replicate, List.cons_append, List.nil_append, List.getElem?_cons_zero, List.getElem?_cons_succ, List.set_cons_zero, List.set_cons_succ, Nat.add_sub_cancel, Nat.sub_self, Nat.zero_add, Nat.reduceAdd, Nat.reduceSub, if_true, if_false, true_and, and_true, Bool.false_eq_true, reduceIte, ↓reduceIte, min_ii, max_ii, add_ii, add_tt, add_ss, add_ll, len_tup, len_lst, len_scr, len_str, int_int, int_bl, tup_lst, tup_tup, see_non, see_bl, see_int, see_str, see_tup, see_lst, see_dic, see_adr, see_scr, see_kup, ty_non, ty_bl, ty_int, ty_str, ty_tup, ty_lst, ty_kup, reduceCtorEq, nn_non, nn_bl, nn_int, nn_str, nn_tup, nn_lst, nn_dic, wFrz, wSl, oSome, oNone, ixT0, ixT1, ixT2, ixT3, ixL0, ixL1, ixL2, ixL3, eqII, neII, eqBB, neBB, eqPP, nePP, sz0, sz1, sz2, sz3, sz4, sz5, sz6, sz7, sz8, sz9, sz10, sz12, sz1b, sz2b, sz3b, sz4b, Option.bind_some, Bool.not_true, Bool.not_false, decide_eq_true_eq, beq_iff_eq, Bool.not_eq_true', beq_eq_false_iff_ne, ne_eq, kII, kIB, kIT, kIS, kIL, kBI, kBB, kBT, kBS, kBL, kSI, kSB, kST, kSS, kSL, kNI, kNB, kNT, kNS, kNL, kTI, kTB, kTT, kTS, kTL, kLI, kLB, kLT, kLS, kLL]
          exact h
        | true =>
          obtain ⟨i, rfl, i1, i2⟩ := isInt_int eb
          simp only [sSeq, sSet, sIf, sRet, sDrop, sNil, sRaise, sAsg, sPar2, sPar3, gSet, gTupD, gsCons, gsNil, gSub, wVar, wC, wOp, wB, wTup, wFz, wSt, fLst, fCat, zNil, zCons, wAnd, wOr, wNot, wIf, wTst, uAnd, uOr, uNot, tstOp, wLeLe, uLtLt, wNeg, oSub, oMul, oDiv, oMod, oPow, oLt, oLe, oGt, oGe, oCmp, oAbs, wIsi, wCall, wIsN, uIsN, startD, lenD, viewL, List.map_cons, List.map_nil, List.length_cons, List.length_nil, List.replicate, List.cons_append, List.nil_append, List.getElem?_cons_zero, List.getElem?_cons_succ, List.set_cons_zero, List.set_cons_succ, Nat.add_sub_cancel, Nat.sub_self, Nat.zero_add, Nat.reduceAdd, Nat.reduceSub, if_true, if_false, true_and, and_true, Bool.false_eq_true, reduceIte, ↓reduceIte, min_ii, max_ii, add_ii, add_tt, add_ss, add_ll, len_tup, len_lst, len_scr, len_str, int_int, int_bl, tup_lst, tup_tup, see_non, see_bl, see_int, see_str, see_tup, see_lst, see_dic, see_adr, see_scr, see_kup, ty_non, ty_bl, ty_int, ty_str, ty_tup, ty_lst, ty_kup, reduceCtorEq, nn_non, nn_bl, nn_int, nn_str, nn_tup, nn_lst, nn_dic, wFrz, wSl, oSome, oNone, ixT0, ixT1, ixT2, ixT3, ixL0, ixL1, ixL2, ixL3, eqII, neII, eqBB, neBB, eqPP, nePP, sz0, sz1, sz2, sz3, sz4, sz5, sz6, sz7, sz8, sz9, sz10, sz12, sz1b, sz2b, sz3b, sz4b, Option.bind_some, Bool.not_true, Bool.not_false, decide_eq_true_eq, beq_iff_eq, Bool.not_eq_true', beq_eq_false_iff_ne, ne_eq, kII, kIB, kIT, kIS, kIL, kBI, kBB, kBT, kBS, kBL, kSI, kSB, kST, kSS, kSL, kNI, kNB, kNT, kNS, kNL, kTI, kTB, kTT, kTS, kTL, kLI, kLB, kLT, kLS, kLL]
          refine in_ints (ns := [1, 2, 4]) ?_
          have e : isLoopD (.tup [a, .int i, c]) = (decide (i ∈ ([1, 2, 4] : List Int)) && isBoolD c) := by
            show (isIntD a 1 4 && isIntD (.int i) 1 4 && !(isIntD (.int i) 3 3) && isBoolD c) = _
            rw [ea, eb]
            have : decide (i ∈ ([1, 2, 4] : List Int)) = !(isIntD (.int i) 3 3) := by
              show _ = !(decide (3 ≤ i ∧ i ≤ 3))
              rw [← decide_not]
              refine decide_eq_decide.mpr ?_
              simp only [List.mem_cons, List.not_mem_nil, or_false]
              omega
            rw [this]
            simp
          rw [e] at h
          cases em : decide (i ∈ ([1, 2, 4] : List Int)) with
          | false =>
            rw [em] at h
            simp only [sSeq, sSet, sIf, sRet, sDrop, sNil, sRaise, sAsg, sPar2, sPar3, gSet, gTupD, gsCons, gsNil, gSub, wVar, wC, wOp, wB, wTup, wFz, wSt, fLst, fCat, zNil, zCons, wAnd, wOr, wNot, wIf, wTst, uAnd, uOr, uNot, tstOp, wLeLe, uLtLt, wNeg, oSub, oMul, oDiv, oMod, oPow, oLt, oLe, oGt, oGe, oCmp, oAbs, wIsi, wCall, wIsN, uIsN, startD, lenD, viewL, List.map_cons, List.map_nil, List.length_cons, List.length_nil, List.replicate, List.cons_append, List.nil_append, List.getElem?_cons_zero, List.getElem?_cons_succ, List.set_cons_zero, List.set_cons_succ, Nat.add_sub_cancel, Nat.sub_self, Nat.zero_add, Nat.reduceAdd, Nat.reduceSub, if_true, if_false, true_and, and_true, Bool.false_eq_true, reduceIte, ↓reduceIte, min_ii, max_ii, add_ii, add_tt, add_ss, add_ll, len_tup, len_lst, len_scr, len_str, int_int, int_bl, tup_lst, tup_tup, see_non, see_bl, see_int, see_str, see_tup, see_lst, see_dic, see_adr, see_scr, see_kup, ty_non, ty_bl, ty_int, ty_str, ty_tup, ty_lst, ty_kup, reduceCtorEq, nn_non, nn_bl, nn_int, nn_str, nn_tup, nn_lst, nn_dic, wFrz, wSl, oSome, oNone, ixT0, ixT1, ixT2, ixT3, ixL0, ixL1, ixL2, ixL3, eqII, neII, eqBB, neBB, eqPP, nePP, sz0, sz1, sz2, sz3, sz4, sz5, sz6, sz7, sz8, sz9, sz10, sz12, sz1b, sz2b, sz3b, sz4b, Option.bind_some, Bool.not_true, Bool.not_false, decide_eq_true_eq, beq_iff_eq, Bool.not_eq_true', beq_eq_false_iff_ne, ne_eq, kII, kIB, kIT, kIS, kIL, kBI, kBB, kBT, kBS, kBL, kSI, kSB, kST, kSS, kSL, kNI, kNB, kNT, kNS, kNL, kTI, kTB, kTT, kTS, kTL, kLI, kLB, kLT, kLS, kLL]
            exact h
          | true =>
            rw [em] at h
            simp only [sSeq, sSet, sIf, sRet, sDrop, sNil, sRaise, sAsg, sPar2, sPar3, gSet, gTupD, gsCons, gsNil, gSub, wVar, wC, wOp, wB, wTup, wFz, wSt, fLst, fCat, zNil, zCons, wAnd, wOr, wNot, wIf, wTst, uAnd, uOr, uNot, tstOp, wLeLe, uLtLt, wNeg, oSub, oMul, oDiv, oMod, oPow, oLt, oLe, oGt, oGe, oCmp, oAbs, wIsi, wCall, wIsN, uIsN, startD, lenD, viewL, List.map_cons, List.map_nil, List.length_cons, List.length_nil, List.replicate, List.cons_append, List.nil_append, List.getElem?_cons_zero, List.getElem?_cons_succ, List.set_cons_zero, List.set_cons_succ, Nat.add_sub_cancel, Nat.sub_self, Nat.zero_add, Nat.reduceAdd, Nat.reduceSub, if_true, if_false, true_and, and_true, Bool.false_eq_true, reduceIte, ↓reduceIte, min_ii, max_ii, add_ii, add_tt, add_ss, add_ll, len_tup, len_lst, len_scr, len_str, int_int, int_bl, tup_lst, tup_tup, see_non, see_bl, see_int, see_str, see_tup, see_lst, see_dic, see_adr, see_scr, see_kup, ty_non, ty_bl, ty_int, ty_str, ty_tup, ty_lst, ty_kup, reduceCtorEq, nn_non, nn_bl, nn_int, nn_str, nn_tup, nn_lst, nn_dic, wFrz, wSl, oSome, oNone, ixT0, ixT1, ixT2, ixT3, ixL0, ixL1, ixL2, ixL3, eqII, neII, eqBB, neBB, eqPP, nePP, sz0, sz1, sz2, sz3, sz4, sz5, sz6, sz7, sz8, sz9, sz10, sz12, sz1b, sz2b, sz3b, sz4b, Option.bind_some, Bool.not_true, Bool.not_false, decide_eq_true_eq, beq_iff_eq, Bool.not_eq_true', beq_eq_false_iff_ne, ne_eq, kII, kIB, kIT, kIS, kIL, kBI, kBB, kBT, kBS, kBL, kSI, kSB, kST, kSS, kSL, kNI, kNB, kNT, kNS, kNL, kTI, kTB, kTT, kTS, kTL, kLI, kLB, kLT, kLS, kLL]
            rw [isi_bool pc]
            exact h
    · rw [isLoopD_ne hl] at h
      simp only [Cq_is_loop, bis_loop, bis_loop_s1, bis_loop_s2, bis_loop_s3, bis_loop_s4, bis_loop_s5, sSeq, sSet, sIf, sRet, sDrop, sNil, sRaise, sAsg, sPar2, sPar3, gSet, gTupD, gsCons, gsNil, gSub, wVar, wC, wOp, wB, wTup, wFz, wSt, fLst, fCat, zNil, zCons, wAnd, wOr, wNot, wIf, wTst, uAnd, uOr, uNot, tstOp, wLeLe, uLtLt, wNeg, oSub, oMul, oDiv, oMod, oPow, oLt, oLe, oGt, oGe, oCmp, oAbs, wIsi, wCall, wIsN, uIsN, startD, lenD, viewL, List.map_cons, List.map_nil, List.length_cons, List.length_nil, List.replicate, List.cons_append, List.nil_append, List.getElem?_cons_zero, List.getElem?_cons_succ, List.set_cons_zero, List.set_cons_succ, Nat.add_sub_cancel, Nat.sub_self, Nat.zero_add, Nat.reduceAdd, Nat.reduceSub, if_true, if_false, true_and, and_true, Bool.false_eq_true, reduceIte, ↓reduceIte, min_ii, max_ii, add_ii, add_tt, add_ss, add_ll, len_tup, len_lst, len_scr, len_str, int_int, int_bl, tup_lst, tup_tup, see_non, see_bl, see_int, see_str, see_tup, see_lst, see_dic, see_adr, see_scr, see_kup, ty_non, ty_bl, ty_int, ty_str, ty_tup, ty_lst, ty_kup, reduceCtorEq, nn_non, nn_bl, nn_int, nn_str, nn_tup, nn_lst, nn_dic, wFrz, wSl, oSome, oNone, ixT0, ixT1, ixT2, ixT3, ixL0, ixL1, ixL2, ixL3, eqII, neII, eqBB, neBB, eqPP, nePP, sz0, sz1, sz2, sz3, sz4, sz5, sz6, sz7, sz8, sz9, sz10, sz12, sz1b, sz2b, sz3b, sz4b, Option.bind_some, Bool.not_true, Bool.not_false, decide_eq_true_eq, beq_iff_eq, Bool.not_eq_true', beq_eq_false_iff_ne, ne_eq, kII, kIB, kIT, kIS, kIL, kBI, kBB, kBT, kBS, kBL, kSI, kSB, kST, kSS, kSL, kNI, kNB, kNT, kNS, kNL, kTI, kTB, kTT, kTS, kTL, kLI, kLB, kLT, kLS, kLL]
      rw [if_pos (by omega)]
      exact h
  · have hn : ∀ ds, v ≠ .tup ds := fun ds e => ht ⟨ds, e⟩
    have e : isLoopD v = false := by cases v <;> first | rfl | exact absurd rfl (hn _)
    rw [e] at h
    have it : isTupD v = false := by cases v <;> first | rfl | exact absurd rfl (hn _)
    simp only [Cq_is_loop, bis_loop, bis_loop_s1, bis_loop_s2, bis_loop_s3, sSeq, sSet, sIf, sRet, sDrop, sNil, sRaise, sAsg, sPar2, sPar3, gSet, gTupD, gsCons, gsNil, gSub, wVar, wC, wOp, wB, wTup, wFz, wSt, fLst, fCat, zNil, zCons, wAnd, wOr, wNot, wIf, wTst, uAnd, uOr, uNot, tstOp, wLeLe, uLtLt, wNeg, oSub, oMul, oDiv, oMod, oPow, oLt, oLe, oGt, oGe, oCmp, oAbs, wIsi, wCall, wIsN, uIsN, startD, lenD, viewL, List.map_cons, List.map_nil, List.length_cons, List.length_nil, List.replicate, List.cons_append, List.nil_append, List.getElem?_cons_zero, List.getElem?_cons_succ, List.set_cons_zero, List.set_cons_succ, Nat.add_sub_cancel, Nat.sub_self, Nat.zero_add, Nat.reduceAdd, Nat.reduceSub, if_true, if_false, true_and, and_true, Bool.false_eq_true, reduceIte, ↓reduceIte, min_ii, max_ii, add_ii, add_tt, add_ss, add_ll, len_tup, len_lst, len_scr, len_str, int_int, int_bl, tup_lst, tup_tup, see_non, see_bl, see_int, see_str, see_tup, see_lst, see_dic, see_adr, see_scr, see_kup, ty_non, ty_bl, ty_int, ty_str, ty_tup, ty_lst, ty_kup, reduceCtorEq, nn_non, nn_bl, nn_int, nn_str, nn_tup, nn_lst, nn_dic, wFrz, wSl, oSome, oNone, ixT0, ixT1, ixT2, ixT3, ixL0, ixL1, ixL2, ixL3, eqII, neII, eqBB, neBB, eqPP, nePP, sz0, sz1, sz2, sz3, sz4, sz5, sz6, sz7, sz8, sz9, sz10, sz12, sz1b, sz2b, sz3b, sz4b, Option.bind_some, Bool.not_true, Bool.not_false, decide_eq_true_eq, beq_iff_eq, Bool.not_eq_true', beq_eq_false_iff_ne, ne_eq, kII, kIB, kIT, kIS, kIL, kBI, kBB, kBT, kBS, kBL, kSI, kSB, kST, kSS, kSL, kNI, kNB, kNT, kNS, kNL, kTI, kTB, kTT, kTS, kTL, kLI, kLB, kLT, kLS, kLL, isi_tup hv, it]
    exact h
theorem need_loop_ok {v : D} (hv : v.pure = true) {M : Mem} {Q : KD} {E : ExK} (h1 : isLoopD v = true → Q .non M) (h2 : isLoopD v = false → E ⟨"InvalidLoop", none⟩ M) : C_need_loop [v] M Q E := by
  simp only [Cq_need_loop, bneed_loop, bneed_loop_s1, bneed_loop_s2, sSeq, sSet, sIf, sRet, sDrop, sNil, sRaise, sAsg, sPar2, sPar3, gSet, gTupD, gsCons, gsNil, gSub, wVar, wC, wOp, wB, wTup, wFz, wSt, fLst, fCat, zNil, zCons, wAnd, wOr, wNot, wIf, wTst, uAnd, uOr, uNot, tstOp, wLeLe, uLtLt, wNeg, oSub, oMul, oDiv, oMod, oPow, oLt, oLe, oGt, oGe, oCmp, oAbs, wIsi, wCall, wIsN, uIsN, startD, lenD, viewL, List.map_cons, List.map_nil, List.length_cons, List.length_nil, List.replicate, List.cons_append, List.nil_append, List.getElem?_cons_zero, List.getElem?_cons_succ, List.set_cons_zero, List.set_cons_succ, Nat.add_sub_cancel, Nat.sub_self, Nat.zero_add, Nat.reduceAdd, Nat.reduceSub, if_true, if_false, true_and, and_true, Bool.false_eq_true, reduceIte, ↓reduceIte, min_ii, max_ii, add_ii, add_tt, add_ss, add_ll, len_tup, len_lst, len_scr, len_str, int_int, int_bl, tup_lst, tup_tup, see_non, see_bl, see_int, see_str, see_tup, see_lst, see_dic, see_adr, see_scr, see_kup, ty_non, ty_bl, ty_int, ty_str, ty_tup, ty_lst, ty_kup, reduceCtorEq, nn_non, nn_bl, nn_int, nn_str, nn_tup, nn_lst, nn_dic, wFrz, wSl, oSome, oNone, ixT0, ixT1, ixT2, ixT3, ixL0, ixL1, ixL2, ixL3, eqII, neII, eqBB, neBB, eqPP, nePP, sz0, sz1, sz2, sz3, sz4, sz5, sz6, sz7, sz8, sz9, sz10, sz12, sz1b, sz2b, sz3b, sz4b, Option.bind_some, Bool.not_true, Bool.not_false, decide_eq_true_eq, beq_iff_eq, Bool.not_eq_true', beq_eq_false_iff_ne, ne_eq, kII, kIB, kIT, kIS, kIL, kBI, kBB, kBT, kBS, kBL, kSI, kSB, kST, kSS, kSL, kNI, kNB, kNT, kNS, kNL, kTI, kTB, kTT, kTS, kTL, kLI, kLB, kLT, kLS, kLL]
  refine is_loop_ok hv ?_
  cases e : isLoopD v with
  | true => simp only [sSeq, sSet, sIf, sRet, sDrop, sNil, sRaise, sAsg, sPar2, sPar3, gSet, gTupD, gsCons, gsNil, gSub, wVar, wC, wOp, wB, wTup, wFz, wSt, fLst, fCat, zNil, zCons, wAnd, wOr, wNot, wIf, wTst, uAnd, uOr, uNot, tstOp, wLeLe, uLtLt, wNeg, oSub, oMul, oDiv, oMod, oPow, oLt, oLe, oGt, oGe, oCmp, oAbs, wIsi, wCall, wIsN, uIsN, startD, lenD, viewL, List.map_cons, List.map_nil, List.length_cons, List.length_nil, List.replicate, List.cons_append, List.nil_append, List.getElem?_cons_zero, List.getElem?_cons_succ, List.set_cons_zero, List.set_cons_succ, Nat.add_sub_cancel, Nat.sub_self, Nat.zero_add, Nat.reduceAdd, Nat.reduceSub, if_true, if_false, true_and, and_true, Bool.false_eq_true, reduceIte, ↓reduceIte, min_ii, max_ii, add_ii, add_tt, add_ss, add_ll, len_tup, len_lst, len_scr, len_str, int_int, int_bl, tup_lst, tup_tup, see_non, see_bl, see_int, see_str, see_tup, see_lst, see_dic, see_adr, see_scr, see_kup, ty_non, ty_bl, ty_int, ty_str, ty_tup, ty_lst, ty_kup, reduceCtorEq, nn_non, nn_bl, nn_int, nn_str, nn_tup, nn_lst, nn_dic, wFrz, wSl, oSome, oNone, ixT0, ixT1, ixT2, ixT3, ixL0, ixL1, ixL2, ixL3, eqII, neII, eqBB, neBB, eqPP, nePP, sz0, sz1, sz2, sz3, sz4, sz5, sz6, sz7, sz8, sz9, sz10, sz12, sz1b, sz2b, sz3b, sz4b, Option.bind_some, Bool.not_true, Bool.not_false, decide_eq_true_eq, beq_iff_eq, Bool.not_eq_true', beq_eq_false_iff_ne, ne_eq, kII, kIB, kIT, kIS, kIL, kBI, kBB, kBT, kBS, kBL, kSI, kSB, kST, kSS, kSL, kNI, kNB, kNT, kNS, kNL, kTI, kTB, kTT, kTS, kTL, kLI, kLB, kLT, kLS, kLL]; exact h1 e
  | false => simp only [sSeq, sSet, sIf, sRet, sDrop, sNil, sRaise, sAsg, sPar2, sPar3, gSet, gTupD, gsCons, gsNil, gSub, wVar, wC, wOp, wB, wTup, wFz, wSt, fLst, fCat, zNil, zCons, wAnd, wOr, wNot, wIf, wTst, uAnd, uOr, uNot, tstOp, wLeLe, uLtLt, wNeg, oSub, oMul, oDiv, oMod, oPow, oLt, oLe, oGt, oGe, oCmp, oAbs, wIsi, wCall, wIsN, uIsN, startD, lenD, viewL, List.map_cons, List.map_nil, List.length_cons, List.length_nil, List.replicate, List.cons_append, List.nil_append, List.getElem?_cons_zero, List.getElem?_cons_succ, List.set_cons_zero, List.set_cons_succ, Nat.add_sub_cancel, Nat.sub_self, Nat.zero_add, Nat.reduceAdd, Nat.reduceSub, if_true, if_false, true_and, and_true, Bool.false_eq_true, reduceIte, ↓reduceIte, min_ii, max_ii, add_ii, add_tt, add_ss, add_ll, len_tup, len_lst, len_scr, len_str, int_int, int_bl, tup_lst, tup_tup, see_non, see_bl, see_int, see_str, see_tup, see_lst, see_dic, see_adr, see_scr, see_kup, ty_non, ty_bl, ty_int, ty_str, ty_tup, ty_lst, ty_kup, reduceCtorEq, nn_non, nn_bl, nn_int, nn_str, nn_tup, nn_lst, nn_dic, wFrz, wSl, oSome, oNone, ixT0, ixT1, ixT2, ixT3, ixL0, ixL1, ixL2, ixL3, eqII, neII, eqBB, neBB, eqPP, nePP, sz0, sz1, sz2, sz3, sz4, sz5, sz6, sz7, sz8, sz9, sz10, sz12, sz1b, sz2b, sz3b, sz4b, Option.bind_some, Bool.not_true, Bool.not_false, decide_eq_true_eq, beq_iff_eq, Bool.not_eq_true', beq_eq_false_iff_ne, ne_eq, kII, kIB, kIT, kIS, kIL, kBI, kBB, kBT, kBS, kBL, kSI, kSB, kST, kSS, kSL, kNI, kNB, kNT, kNS, kNL, kTI, kTB, kTT, kTS, kTL, kLI, kLB, kLT, kLS, kLL]; exact h2 e
theorem need_number_ok {v : D} {lo hi : Int} (hv : v.pure = true) {M : Mem} {Q : KD} {E : ExK} (h1 : isIntD v lo hi = true → Q .non M) (h2 : isIntD v lo hi = false → E ⟨"InvalidNumber", none⟩ M) : C_need_number [v, .int lo, .int hi] M Q E := by
  simp only [Cq_need_number, bneed_number, bneed_number_s1, bneed_number_s2, sSeq, sSet, sIf, sRet, sDrop, sNil, sRaise, sAsg, sPar2, sPar3, gSet, gTupD, gsCons, gsNil, gSub, wVar, wC, wOp, wB, wTup, wFz, wSt, fLst, fCat, zNil, zCons, wAnd, wOr, wNot, wIf, wTst, uAnd, uOr, uNot, tstOp, wLeLe, uLtLt, wNeg, oSub, oMul, oDiv, oMod, oPow, oLt, oLe, oGt, oGe, oCmp, oAbs, wIsi, wCall, wIsN, uIsN, startD, lenD, viewL, List.map_cons, List.map_nil, List.length_cons, List.length_nil, List.replicate, List.cons_append, List.nil_append, List.getElem?_cons_zero, List.getElem?_cons_succ, List.set_cons_zero, List.set_cons_succ, Nat.add_sub_cancel, Nat.sub_self, Nat.zero_add, Nat.reduceAdd, Nat.reduceSub, if_true, if_false, true_and, and_true, Bool.false_eq_true, reduceIte, ↓reduceIte, min_ii, max_ii, add_ii, add_tt, add_ss, add_ll, len_tup, len_lst, len_scr, len_str, int_int, int_bl, tup_lst, tup_tup, see_non, see_bl, see_int, see_str, see_tup, see_lst, see_dic, see_adr, see_scr, see_kup, ty_non, ty_bl, ty_int, ty_str, ty_tup, ty_lst, ty_kup, reduceCtorEq, nn_non, nn_bl, nn_int, nn_str, nn_tup, nn_lst, nn_dic, wFrz, wSl, oSome, oNone, ixT0, ixT1, ixT2, ixT3, ixL0, ixL1, ixL2, ixL3, eqII, neII, eqBB, neBB, eqPP, nePP, sz0, sz1, sz2, sz3, sz4, sz5, sz6, sz7, sz8, sz9, sz10, sz12, sz1b, sz2b, sz3b, sz4b, Option.bind_some, Bool.not_true, Bool.not_false, decide_eq_true_eq, beq_iff_eq, Bool.not_eq_true', beq_eq_false_iff_ne, ne_eq, kII, kIB, kIT, kIS, kIL, kBI, kBB, kBT, kBS, kBL, kSI, kSB, kST, kSS, kSL, kNI, kNB, kNT, kNS, kNL, kTI, kTB, kTT, kTS, kTL, kLI, kLB, kLT, kLS, kLL]
  refine is_int_ok hv ?_
  cases e : isIntD v lo hi with
  | true => simp only [sSeq, sSet, sIf, sRet, sDrop, sNil, sRaise, sAsg, sPar2, sPar3, gSet, gTupD, gsCons, gsNil, gSub, wVar, wC, wOp, wB, wTup, wFz, wSt, fLst, fCat, zNil, zCons, wAnd, wOr, wNot, wIf, wTst, uAnd, uOr, uNot, tstOp, wLeLe, uLtLt, wNeg, oSub, oMul, oDiv, oMod, oPow, oLt, oLe, oGt, oGe, oCmp, oAbs, wIsi, wCall, wIsN, uIsN, startD, lenD, viewL, List.map_cons, List.map_nil, List.length_cons, List.length_nil, List.replicate, List.cons_append, List.nil_append, List.getElem?_cons_zero, List.getElem?_cons_succ, List.set_cons_zero, List.set_cons_succ, Nat.add_sub_cancel, Nat.sub_self, Nat.zero_add, Nat.reduceAdd, Nat.reduceSub, if_true, if_false, true_and, and_true, Bool.false_eq_true, reduceIte, ↓reduceIte, min_ii, max_ii, add_ii, add_tt, add_ss, add_ll, len_tup, len_lst, len_scr, len_str, int_int, int_bl, tup_lst, tup_tup, see_non, see_bl, see_int, see_str, see_tup, see_lst, see_dic, see_adr, see_scr, see_kup, ty_non, ty_bl, ty_int, ty_str, ty_tup, ty_lst, ty_kup, reduceCtorEq, nn_non, nn_bl, nn_int, nn_str, nn_tup, nn_lst, nn_dic, wFrz, wSl, oSome, oNone, ixT0, ixT1, ixT2, ixT3, ixL0, ixL1, ixL2, ixL3, eqII, neII, eqBB, neBB, eqPP, nePP, sz0, sz1, sz2, sz3, sz4, sz5, sz6, sz7, sz8, sz9, sz10, sz12, sz1b, sz2b, sz3b, sz4b, Option.bind_some, Bool.not_true, Bool.not_false, decide_eq_true_eq, beq_iff_eq, Bool.not_eq_true', beq_eq_false_iff_ne, ne_eq, kII, kIB, kIT, kIS, kIL, kBI, kBB, kBT, kBS, kBL, kSI, kSB, kST, kSS, kSL, kNI, kNB, kNT, kNS, kNL, kTI, kTB, kTT, kTS, kTL, kLI, kLB, kLT, kLS, kLL]; exact h1 e
  | false => simp only [sSeq, sSet, sIf, sRet, sDrop, sNil, sRaise, sAsg, sPar2, sPar3, gSet, gTupD, gsCons, gsNil, gSub, wVar, wC, wOp, wB, wTup, wFz, wSt, fLst, fCat, zNil, zCons, wAnd, wOr, wNot, wIf, wTst, uAnd, uOr, uNot, tstOp, wLeLe, uLtLt, wNeg, oSub, oMul, oDiv, oMod, oPow, oLt, oLe, oGt, oGe, oCmp, oAbs, wIsi, wCall, wIsN, uIsN, startD, lenD, viewL, List.map_cons, List.map_nil, List.length_cons, List.length_nil, List.replicate, List.cons_append, List.nil_append, List.getElem?_cons_zero, List.getElem?_cons_succ, List.set_cons_zero, List.set_cons_succ, Nat.add_sub_cancel, Nat.sub_self, Nat.zero_add, Nat.reduceAdd, Nat.reduceSub, if_true, if_false, true_and, and_true, Bool.false_eq_true, reduceIte, ↓reduceIte, min_ii, max_ii, add_ii, add_tt, add_ss, add_ll, len_tup, len_lst, len_scr, len_str, int_int, int_bl, tup_lst, tup_tup, see_non, see_bl, see_int, see_str, see_tup, see_lst, see_dic, see_adr, see_scr, see_kup, ty_non, ty_bl, ty_int, ty_str, ty_tup, ty_lst, ty_kup, reduceCtorEq, nn_non, nn_bl, nn_int, nn_str, nn_tup, nn_lst, nn_dic, wFrz, wSl, oSome, oNone, ixT0, ixT1, ixT2, ixT3, ixL0, ixL1, ixL2, ixL3, eqII, neII, eqBB, neBB, eqPP, nePP, sz0, sz1, sz2, sz3, sz4, sz5, sz6, sz7, sz8, sz9, sz10, sz12, sz1b, sz2b, sz3b, sz4b, Option.bind_some, Bool.not_true, Bool.not_false, decide_eq_true_eq, beq_iff_eq, Bool.not_eq_true', beq_eq_false_iff_ne, ne_eq, kII, kIB, kIT, kIS, kIL, kBI, kBB, kBT, kBS, kBL, kSI, kSB, kST, kSS, kSL, kNI, kNB, kNT, kNS, kNL, kTI, kTB, kTT, kTS, kTL, kLI, kLB, kLT, kLS, kLL]; exact h2 e
def isWishD : D → Bool
  | .tup [a, b, c] => isIntD a (-12) 12 && isBoolD b && isBoolD c
  | _ => false
theorem isWishD_ne {ds : List D} (h : ds.length ≠ 3) : isWishD (.tup ds) = false := by
  match ds, h with
  | [], _ => rfl
  | [_], _ => rfl
  | [_, _], _ => rfl
  | [_, _, _], h => exact absurd rfl h
  | _ :: _ :: _ :: _ :: _, _ => rfl
theorem is_wish_ok {v : D} (hv : v.pure = true) {M : Mem} {Q : KD} {E : ExK} (h : Q (.bl (isWishD v)) M) : C_is_wish [v] M Q E := by
  by_cases ht : ∃ ds, v = .tup ds
  · obtain ⟨ds, rfl⟩ := ht
    by_cases hl : ds.length = 3
    · obtain ⟨a, b, c, rfl⟩ := len3 hl
      obtain ⟨pa, pb, pc⟩ := pures3 hv
      simp only [Cq_is_wish, bis_wish, bis_wish_s1, bis_wish_s2, bis_wish_s3, sSeq, sSet, sIf, sRet, sDrop, sNil, sRaise, sAsg, sPar2, sPar3, gSet, gTupD, gsCons, gsNil, gSub, wVar, wC, wOp, wB, wTup, wFz, wSt, fLst, fCat, zNil, zCons, wAnd, wOr, wNot, wIf, wTst, uAnd, uOr, uNot, tstOp, wLeLe, uLtLt, wNeg, oSub, oMul, oDiv, oMod, oPow, oLt, oLe, oGt, oGe, oCmp, oAbs, wIsi, wCall, wIsN, uIsN, startD, lenD, viewL, List.map_cons, List.map_nil, List.length_cons, List.length_nil, List.replicate, List.cons_append, List.nil_append, List.getElem?_cons_zero, List.getElem?_cons_succ, List.set_cons_zero, List.set_cons_succ, Nat.add_sub_cancel, Nat.sub_self, Nat.zero_add, Nat.reduceAdd, Nat.reduceSub, if_true, if_false, true_and, and_true, Bool.false_eq_true, reduceIte, ↓reduceIte, min_ii, max_ii, add_ii, add_tt, add_ss, add_ll, len_tup, len_lst, len_scr, len_str, int_int, int_bl, tup_lst, tup_tup, see_non, see_bl, see_int, see_str, see_tup, see_lst, see_dic, see_adr, see_scr, see_kup, ty_non, ty_bl, ty_int, ty_str, ty_tup, ty_lst, ty_kup, reduceCtorEq, nn_non, nn_bl, nn_int, nn_str, nn_tup, nn_lst, nn_dic, wFrz, wSl, oSome, oNone, ixT0, ixT1, ixT2, ixT3, ixL0, ixL1, ixL2, ixL3, eqII, neII, eqBB, neBB, eqPP, nePP, sz0, sz1, sz2, sz3, sz4, sz5, sz6, sz7, sz8, sz9, sz10, sz12, sz1b, sz2b, sz3b, sz4b, Option.bind_some, Bool.not_true, Bool.not_false, decide_eq_true_eq, beq_iff_eq, Bool.not_eq_true', beq_eq_false_iff_ne, ne_eq, kII, kIB, kIT, kIS, kIL, kBI, kBB, kBT, kBS, kBL, kSI, kSB, kST, kSS, kSL, kNI, kNB, kNT, kNS, kNL, kTI, kTB, kTT, kTS, kTL, kLI, kLB, kLT, kLS, kLL]
      rw [if_neg (by decide)]
      refine is_int_ok pa ?_
      have e : isWishD (.tup [a, b, c]) = (isIntD a (0 - 12) 12 && isBoolD b && isBoolD c) := rfl
      rw [e] at h
      cases ea : isIntD a (0 - 12) 12 with
      | false => rw [ea] at h; simp only [sSeq, sSet, sIf, sRet, sDrop, sNil, sRaise, sAsg, sPar2, sPar3, gSet, gTupD, gsCons, gsNil, gSub, wVar, wC, wOp, wB, wTup, wFz, wSt, fLst, fCat, zNil, zCons, wAnd, wOr, wNot, wIf, wTst, uAnd, uOr, uNot, tstOp, wLeLe, uLtLt, wNeg, oSub, oMul, oDiv, oMod, oPow, oLt, oLe, oGt, oGe, oCmp, oAbs, wIsi, wCall, wIsN, uIsN, startD, lenD, viewL, List.map_cons, List.map_nil, List.length_cons, List.length_nil, List.replicate, List.cons_append, List.nil_append, List.getElem?_cons_zero, List.getElem?_cons_succ, List.set_cons_zero, List.set_cons_succ, Nat.add_sub_cancel, Nat.sub_self, Nat.zero_add, Nat.reduceAdd, Nat.reduceSub, if_true, if_false, true_and, and_true, Bool.false_eq_true, reduceIte, ↓reduceIte, min_ii, max_ii, add_ii, add_tt, add_ss, add_ll, len_tup, len_lst, len_scr, len_str, int_int, int_bl, tup_lst, tup_tup, see_non, see_bl, see_int, see_str, see_tup, see_lst, see_dic, see_adr, see_scr, see_kup, ty_non, ty_bl, ty_int, ty_str, ty_tup, ty_lst, ty_kup, reduceCtorEq, nn_non, nn_bl, nn_int, nn_str, nn_tup, nn_lst, nn_dic, wFrz, wSl, oSome, oNone, ixT0, ixT1, ixT2, ixT3, ixL0, ixL1, ixL2, ixL3, eqII, neII, eqBB, neBB, eqPP, nePP, sz0, sz1, sz2, sz3, sz4, sz5, sz6, sz7, sz8, sz9, sz10, sz12, sz1b, sz2b, sz3b, sz4b, Option.bind_some, Bool.not_true, Bool.not_false, decide_eq_true_eq, beq_iff_eq, Bool.not_eq_true', beq_eq_false_iff_ne, ne_eq, kII, kIB, kIT, kIS, kIL, kBI, kBB, kBT, kBS, kBL, kSI, kSB, kST, kSS, kSL, kNI, kNB, kNT, kNS, kNL, kTI, kTB, kTT, kTS, kTL, kLI, kLB, kLT, kLS, kLL]; exact h
      | true =>
        rw [ea] at h
        simp only [sSeq, sSet, sIf, sRet, sDrop, sNil, sRaise, sAsg, sPar2, sPar3, gSet, gTupD, gsCons, gsNil, gSub, wVar, wC, wOp, wB, wTup, wFz, wSt, fLst, fCat, zNil, zCons, wAnd, wOr, wNot, wIf, wTst, uAnd, uOr, uNot, tstOp, wLeLe, uLtLt, wNeg, oSub, oMul, oDiv, oMod, oPow, oLt, oLe, oGt, oGe, oCmp, oAbs, wIsi, wCall, wIsN, uIsN, startD, lenD, viewL, List.map_cons, List.map_nil, List.length_cons, List.length_nil, List.replicate, List.cons_append, List.nil_append, List.getElem?_cons_zero, List.getElem?_cons_succ, List.set_cons_zero, List.set_cons_succ, Nat.add_sub_cancel, Nat.sub_self, Nat.zero_add, Nat.reduceAdd, Nat.reduceSub, if_true, if_false, true_and, and_true, Bool.false_eq_true, reduceIte, ↓reduceIte, min_ii, max_ii, add_ii, add_tt, add_ss, add_ll, len_tup, len_lst, len_scr, len_str, int_int, int_bl, tup_lst, tup_tup, see_non, see_bl, see_int, see_str, see_tup, see_lst, see_dic, see_adr, see_scr, see_kup, ty_non, ty_bl, ty_int, ty_str, ty_tup, ty_lst, ty_kup, reduceCtorEq, nn_non, nn_bl, nn_int, nn_str, nn_tup, nn_lst, nn_dic, wFrz, wSl, oSome, oNone, ixT0, ixT1, ixT2, ixT3, ixL0, ixL1, ixL2, ixL3, eqII, neII, eqBB, neBB, eqPP, nePP, sz0, sz1, sz2, sz3, sz4, sz5, sz6, sz7, sz8, sz9, sz10, sz12, sz1b, sz2b, sz3b, sz4b, Option.bind_some, Bool.not_true, Bool.not_false, decide_eq_true_eq, beq_iff_eq, Bool.not_eq_true', beq_eq_false_iff_ne, ne_eq, kII, kIB, kIT, kIS, kIL, kBI, kBB, kBT, kBS, kBL, kSI, kSB, kST, kSS, kSL, kNI, kNB, kNT, kNS, kNL, kTI, kTB, kTT, kTS, kTL, kLI, kLB, kLT, kLS, kLL]
        rw [isi_bool pb]
        dsimp only
        cases eb : isBoolD b with
        | false => rw [eb] at h; simp only [sSeq, sSet, sIf, sRet, sDrop, sNil, sRaise, sAsg, sPar2, sPar3, gSet, gTupD, gsCons, gsNil, gSub, wVar, wC, wOp, wB, wTup, wFz, wSt, fLst, fCat, zNil, zCons, wAnd, wOr, wNot, wIf, wTst, uAnd, uOr, uNot, tstOp, wLeLe, uLtLt, wNeg, oSub, oMul, oDiv, oMod, oPow, oLt, oLe, oGt, oGe, oCmp, oAbs, wIsi, wCall, wIsN, uIsN, startD, lenD, viewL, List.map_cons, List.map_nil, List.length_cons, List.length_nil, List.replicate, List.cons_append, List.nil_append, List.getElem?_cons_zero, List.getElem?_cons_succ, List.set_cons_zero, List.set_cons_succ, Nat.add_sub_cancel, Nat.sub_self, Nat.zero_add, Nat.reduceAdd, Nat.reduceSub, if_true, if_false, true_and, and_true, Bool.false_eq_true, reduceIte, ↓reduceIte, min_ii, max_ii, add_ii, add_tt, add_ss, add_ll, len_tup, len_lst, len_scr, len_str, int_int, int_bl, tup_lst, tup_tup, see_non, see_bl, see_int, see_str, see_tup, see_lst, see_dic, see_adr, see_scr, see_kup, ty_non, ty_bl, ty_int, ty_str, ty_tup, ty_lst, ty_kup, reduceCtorEq, nn_non, nn_bl, nn_int, nn_str, nn_tup, nn_lst, nn_dic, wFrz, wSl, oSome, oNone, ixT0, ixT1, ixT2, ixT3, ixL0, ixL1, ixL2, ixL3, eqII, neII, eqBB, neBB, eqPP, nePP, sz0, sz1, sz2, sz3, sz4, sz5, sz6, sz7, sz8, sz9, sz10, sz12, sz1b, sz2b, sz3b, sz4b, Option.bind_some, Bool.not_true, Bool.not_false, decide_eq_true_eq, beq_iff_eq, Bool.not_eq_true', beq_eq_false_iff_ne, ne_eq, kII, kIB, kIT, kIS, kIL, kBI, kBB, kBT, kBS, kBL, kSI, kSB, kST, kSS, kSL, kNI, kNB, kNT, kNS, kNL, kTI, kTB, kTT, kTS, kTL, kLI, kLB, kLT, kLS, kLL]; exact h
        | true => rw [eb] at h; simp only [sSeq, sSet, sIf, sRet, sDrop, sNil, sRaise, sAsg, sPar2, sPar3, gSet, gTupD, gsCons, gsNil, gSub, wVar, wC, wOp, wB, wTup, wFz, wSt, fLst, fCat, zNil, zCons, wAnd, wOr, wNot, wIf, wTst, uAnd, uOr, uNot, tstOp, wLeLe, uLtLt, wNeg, oSub, oMul, oDiv, oMod, oPow, oLt, oLe, oGt, oGe, oCmp, oAbs, wIsi, wCall, wIsN, uIsN, startD, lenD, viewL, List.map_cons, List.map_nil, List.length_cons, List.length_nil, List.replicate, List.cons_append, List.nil_append, List.getElem?_cons_zero, List.getElem?_cons_succ, List.set_cons_zero, List.set_cons_succ, Nat.add_sub_cancel, Nat.sub_self, Nat.zero_add, Nat.reduceAdd, Nat.reduceSub, if_true, if_false, true_and, and_true, Bool.false_eq_true, reduceIte, ↓reduceIte, min_ii, max_ii, add_ii, add_tt, add_ss, add_ll, len_tup, len_lst, len_scr, len_str, int_int, int_bl, tup_lst, tup_tup, see_non, see_bl, see_int, see_str, see_tup, see_lst, see_dic, see_adr, see_scr, see_kup, ty_non, ty_bl, ty_int, ty_str, ty_tup, ty_lst, ty_kup, reduceCtorEq, nn_non, nn_bl, nn_int, nn_str, nn_tup, nn_lst, nn_dic, wFrz, wSl, oSome, oNone, ixT0, ixT1, ixT2, ixT3, ixL0, ixL1, ixL2, ixL3, eqII, neII, eqBB, neBB, eqPP, nePP, sz0, sz1, sz2, sz3, sz4, sz5, sz6, sz7, sz8, sz9, sz10, sz12, sz1b, sz2b, sz3b, sz4b, Option.bind_some, Bool.not_true, Bool.not_false, decide_eq_true_eq, beq_iff_eq, Bool.not_eq_true', beq_eq_false_iff_ne, ne_eq, kII, kIB, kIT, kIS, kIL, kBI, kBB, kBT, kBS, kBL, kSI, kSB, kST, kSS, kSL, kNI, kNB, kNT, kNS, kNL, kTI, kTB, kTT, kTS, kTL, kLI, kLB, kLT, kLS, kLL]; rw [isi_bool pc]; exact h
    · rw [isWishD_ne hl] at h
      simp only [Cq_is_wish, bis_wish, bis_wish_s1, bis_wish_s2, bis_wish_s3, sSeq, sSet, sIf, sRet, sDrop, sNil, sRaise, sAsg, sPar2, sPar3, gSet, gTupD, gsCons, gsNil, gSub, wVar, wC, wOp, wB, wTup, wFz, wSt, fLst, fCat, zNil, zCons, wAnd, wOr, wNot, wIf, wTst, uAnd, uOr, uNot, tstOp, wLeLe, uLtLt, wNeg, oSub, oMul, oDiv, oMod, oPow, oLt, oLe, oGt, oGe, oCmp, oAbs, wIsi, wCall, wIsN, uIsN, startD, lenD, viewL, List.map_cons, List.map_nil, List.length_cons, List.length_nil, List.replicate, List.cons_append, List.nil_append, List.getElem?_cons_zero, List.getElem?_cons_succ, List.set_cons_zero, List.set_cons_succ, Nat.add_sub_cancel, Nat.sub_self, Nat.zero_add, Nat.reduceAdd, Nat.reduceSub, if_true, if_false, true_and, and_true, Bool.false_eq_true, reduceIte, ↓reduceIte, min_ii, max_ii, add_ii, add_tt, add_ss, add_ll, len_tup, len_lst, len_scr, len_str, int_int, int_bl, tup_lst, tup_tup, see_non, see_bl, see_int, see_str, see_tup, see_lst, see_dic, see_adr, see_scr, see_kup, ty_non, ty_bl, ty_int, ty_str, ty_tup, ty_lst, ty_kup, reduceCtorEq, nn_non, nn_bl, nn_int, nn_str, nn_tup, nn_lst, nn_dic, wFrz, wSl, oSome, oNone, ixT0, ixT1, ixT2, ixT3, ixL0, ixL1, ixL2, ixL3, eqII, neII, eqBB, neBB, eqPP, nePP, sz0, sz1, sz2, sz3, sz4, sz5, sz6, sz7, sz8, sz9, sz10, sz12, sz1b, sz2b, sz3b, sz4b, Option.bind_some, Bool.not_true, Bool.not_false, decide_eq_true_eq, beq_iff_eq, Bool.not_eq_true', beq_eq_false_iff_ne, ne_eq, kII, kIB, kIT, kIS, kIL, kBI, kBB, kBT, kBS, kBL, kSI, kSB, kST, kSS, kSL, kNI, kNB, kNT, kNS, kNL, kTI, kTB, kTT, kTS, kTL, kLI, kLB, kLT, kLS, kLL]
      rw [if_pos (by omega)]
      exact h
  · have hn : ∀ ds, v ≠ .tup ds := fun ds e => ht ⟨ds, e⟩
    have e : isWishD v = false := by cases v <;> first | rfl | exact absurd rfl (hn _)
    rw [e] at h
    have it : isTupD v = false := by cases v <;> first | rfl | exact absurd rfl (hn _)
    simp only [Cq_is_wish, bis_wish, bis_wish_s1, bis_wish_s2, sSeq, sSet, sIf, sRet, sDrop, sNil, sRaise, sAsg, sPar2, sPar3, gSet, gTupD, gsCons, gsNil, gSub, wVar, wC, wOp, wB, wTup, wFz, wSt, fLst, fCat, zNil, zCons, wAnd, wOr, wNot, wIf, wTst, uAnd, uOr, uNot, tstOp, wLeLe, uLtLt, wNeg, oSub, oMul, oDiv, oMod, oPow, oLt, oLe, oGt, oGe, oCmp, oAbs, wIsi, wCall, wIsN, uIsN, startD, lenD, viewL, List.map_cons, List.map_nil, List.length_cons, List.length_nil, List.replicate, List.cons_append, List.nil_append, List.getElem?_cons_zero, List.getElem?_cons_succ, List.set_cons_zero, List.set_cons_succ, Nat.add_sub_cancel, Nat.sub_self, Nat.zero_add, Nat.reduceAdd, Nat.reduceSub, if_true, if_false, true_and, and_true, Bool.false_eq_true, reduceIte, ↓reduceIte, min_ii, max_ii, add_ii, add_tt, add_ss, add_ll, len_tup, len_lst, len_scr, len_str, int_int, int_bl, tup_lst, tup_tup, see_non, see_bl, see_int, see_str, see_tup, see_lst, see_dic, see_adr, see_scr, see_kup, ty_non, ty_bl, ty_int, ty_str, ty_tup, ty_lst, ty_kup, reduceCtorEq, nn_non, nn_bl, nn_int, nn_str, nn_tup, nn_lst, nn_dic, wFrz, wSl, oSome, oNone, ixT0, ixT1, ixT2, ixT3, ixL0, ixL1, ixL2, ixL3, eqII, neII, eqBB, neBB, eqPP, nePP, sz0, sz1, sz2, sz3, sz4, sz5, sz6, sz7, sz8, sz9, sz10, sz12, sz1b, sz2b, sz3b, sz4b, Option.bind_some, Bool.not_true, Bool.not_false, decide_eq_true_eq, beq_iff_eq, Bool.not_eq_true', beq_eq_false_iff_ne, ne_eq, kII, kIB, kIT, kIS, kIL, kBI, kBB, kBT, kBS, kBL, kSI, kSB, kST, kSS, kSL, kNI, kNB, kNT, kNS, kNL, kTI, kTB, kTT, kTS, kTL, kLI, kLB, kLT, kLS, kLL, isi_tup hv, it]
    exact h
def areWishesD : D → Bool
  | .tup ds => decide (ds.length ≤ 4) && ds.all isWishD
  | _ => false
theorem pures_mem : ∀ {ds : List D} {d : D}, D.pures ds = true → d ∈ ds → d.pure = true
  | x :: xs, d, h, hm => by
    have h : (x.pure && D.pures xs) = true := h
    rw [Bool.and_eq_true] at h
    rcases List.mem_cons.mp hm with e | e
    · rw [e]; exact h.1
    · exact pures_mem h.2 e
theorem blsD_bl {α : Type} (p : α → Bool) : ∀ xs : List α, blsD (xs.map fun x => D.bl (p x)) = some (xs.map p)
  | [] => rfl
  | x :: xs => by
    show (blsD (xs.map fun x => D.bl (p x))).map (p x :: ·) = _
    rw [blsD_bl p xs]; rfl
theorem all_map {α : Type} (p : α → Bool) : ∀ xs : List α, (xs.map p).all id = xs.all p
  | [] => rfl
  | x :: xs => by rw [List.map_cons, List.all_cons, List.all_cons, all_map p xs]; rfl
end L3.K01
set_option maxRecDepth 100000
set_option maxHeartbeats 1000000
/-! S2: shifts, least places. -/
namespace L3.K01
open PySem PySem.Spec PyProof.Rows L2 L3 Gl
theorem pure_wish (x : Wish) : (wishD x).pure = true := rfl
theorem pure_pl (p : Pl) : (plD p).pure = true := rfl
theorem pure_ring (l : Ring) : l.d.pure = true := rfl
theorem pure_wishes (ws : List Wish) : (wishesD ws).pure = true := pures_map wishD pure_wish ws
theorem isInt_le {i lo hi : Int} (h1 : lo ≤ i) (h2 : i ≤ hi) : isIntD (.int i) lo hi = true := decide_eq_true ⟨h1, h2⟩
theorem loop_ok {l : Ring} (hl : l.ok) : isLoopD l.d = true := by
  obtain ⟨h1, h2, h3⟩ := hl
  show (isIntD (.int l.r) 1 4 && isIntD (.int l.f) 1 4 && !(isIntD (.int l.f) 3 3) && true) = true
  rw [isInt_le (by omega) (by omega), isInt_le (i := l.f) (by omega) (by omega)]
  have : isIntD (.int l.f) 3 3 = false := decide_eq_false (by omega)
  rw [this]; rfl
theorem wish_ok {x : Wish} (h : WishOk x) : isWishD (wishD x) = true := by
  show (isIntD (.int x.late) (-12) 12 && true && true) = true
  rw [isInt_le h.1 h.2]; rfl
theorem wishes_ok {ws : List Wish} (h : WsOk ws) : areWishesD (wishesD ws) = true := by
  show (decide ((ws.map wishD).length ≤ 4) && (ws.map wishD).all isWishD) = true
  rw [List.length_map, decide_eq_true h.1, Bool.true_and, List.all_eq_true]
  intro d hd
  obtain ⟨x, hx, rfl⟩ := List.mem_map.mp hd
  exact wish_ok (h.2 x hx)
section
variable {M : Mem} {Q : KD} {E : ExK} {u v c : D}
def isCellD (l : Ring) (n : Int) : D → Bool
  | .tup [a, b] => isIntD a 0 (l.f * n - 1) && isIntD b 0 (l.r - 1)
  | _ => false
theorem isCellD_ne {l : Ring} {n : Int} {ds : List D} (h : ds.length ≠ 2) : isCellD l n (.tup ds) = false := by
  match ds, h with
  | [], _ => rfl
  | [_], _ => rfl
  | [_, _], h => exact absurd rfl h
  | _ :: _ :: _ :: _, _ => rfl
theorem mul_fn {l : Ring} (hl : l.ok) {n : Int} (hn : 0 ≤ n) (hb : n ≤ 1000000000000000000000000000000) : CMulW (l.f : Int) n := by
  obtain ⟨h1, h2, h3⟩ := hl
  exact mul_sm (.of (by omega) (by omega)) (.of (by omega) (by omega))
theorem fn_le {l : Ring} (hl : l.ok) {n : Int} (hn : 0 ≤ n) : n ≤ (l.f : Int) * n ∧ (l.f : Int) * n ≤ 4 * n := by
  obtain ⟨_, _, h3⟩ := hl
  rcases h3 with e | e | e <;> rw [e] <;> omega
end
/-! ### with_shift -/
def BB : Int := 10000000000000000000000000000000000000000
theorem BB_eq : BB = 10000000000000000000000000000000000000000 := rfl
theorem wsLoop_bd : ∀ (k : Nat) (l s t o B : Int), 0 ≤ l → l ≤ B → -B ≤ t → t ≤ B → (0 ≤ (wsLoop k l s t o).1 ∧ (wsLoop k l s t o).1 ≤ B) ∧ -B ≤ (wsLoop k l s t o).2.2.1 ∧ (wsLoop k l s t o).2.2.1 ≤ B
  | 0, l, s, t, o, B, h1, h2, h3, h4 => ⟨⟨h1, h2⟩, h3, h4⟩
  | k + 1, l, s, t, o, B, h1, h2, h3, h4 => by
    unfold wsLoop
    split
    · rename_i hc
      have hl : 0 < l := by omega
      have e0 : t - t / l * l = t % l := by have := Int.mul_ediv_add_emod t l; rw [Int.mul_comm] at this; omega
      have e1 := Int.emod_nonneg t (show l ≠ 0 by omega)
      have e2 := Int.emod_lt_of_pos t hl
      split
      · exact wsLoop_bd k _ _ _ _ B (by omega) (by omega) (by omega) (by omega)
      · exact wsLoop_bd k _ _ _ _ B (by omega) (by omega) (by omega) (by omega)
    · exact ⟨⟨h1, h2⟩, h3, h4⟩
theorem ediv_bd {t l : Int} (hl : 0 < l) : -(t.natAbs : Int) - 1 ≤ t / l ∧ t / l ≤ t.natAbs := by
  constructor
  · have a := Int.mul_ediv_add_emod t l
    have b := Int.emod_lt_of_pos t hl
    have c := Int.emod_nonneg t (show l ≠ 0 by omega)
    by_cases h : t / l < -(t.natAbs : Int) - 1
    · exfalso
      have := Int.mul_le_mul_of_nonneg_left (show t / l ≤ -(t.natAbs : Int) - 2 by omega) (show 0 ≤ l by omega)
      have d := Int.mul_le_mul_of_nonneg_right (show 1 ≤ l by omega) (show 0 ≤ (t.natAbs : Int) + 2 by omega)
      rw [Int.one_mul] at d
      have e : l * (-(t.natAbs : Int) - 2) = -(l * ((t.natAbs : Int) + 2)) := by rw [← Int.mul_neg]; congr 1; omega
      have f : l * ((t.natAbs : Int) + 2) = l * (t.natAbs : Int) + l * 2 := Int.mul_add _ _ _
      have g := Int.mul_le_mul_of_nonneg_right (show 1 ≤ l by omega) (show 0 ≤ (t.natAbs : Int) by omega)
      rw [Int.one_mul] at g
      omega
    · omega
  · by_cases h : 0 ≤ t
    · have := Int.ediv_le_self l h
      omega
    · have : t / l < 0 := Int.ediv_neg_of_neg_of_pos (by omega) hl
      omega
end L3.K01
set_option maxRecDepth 100000
set_option maxHeartbeats 1000000
/-! S3: shifts of wishes, least places. -/
namespace L3.K01
open PySem PySem.Spec PyProof.Rows L2 L3 Gl
theorem ok_pls : ∀ (n : Nat) (ps : List Pl), D.oks (n + 1) (ps.map plD) = true
  | _, [] => rfl
  | n, p :: ps => by
    show (D.ok (n + 1) (plD p) && D.oks (n + 1) (ps.map plD)) = true
    rw [ok_pls n ps]; rfl
theorem atPl0 {l : List Pl} {p : Pl} : oIx (.lst ((p :: l).map plD)) (.int 0) = fun (M : Mem) (Q : D → Prop) => Q (plD p) := by
  funext M Q
  rw [List.map_cons]
  exact ixL0
end L3.K01
set_option maxRecDepth 100000
set_option maxHeartbeats 1000000
/-! S4: ways, least places. -/
namespace L3.K01
open PySem PySem.Spec PyProof.Rows L2 L3 Gl
end L3.K01
set_option maxRecDepth 100000
set_option maxHeartbeats 1000000
/-! S5: free holes, wishes that follow. -/
namespace L3.K01
open PySem PySem.Spec PyProof.Rows L2 L3 Gl
theorem rangeD0 (n : Nat) : rangeD 0 n = (List.range n).map fun (i : Nat) => D.int (i : Int) := by
  unfold rangeD
  refine List.map_congr_left fun i _ => ?_
  rw [Int.zero_add]
theorem mul_len {a : Int} {n : Nat} (h : 0 ≤ a) (h' : a ≤ BB) (hn : n ≤ 1000) : CMulW a (n : Int) := by
  rw [BB_eq] at h'
  exact mul_sm (.of (by omega) (by omega)) (.of (by omega) (by omega))
theorem eq_pl {neg : Bool} {p q : Pl} {M : Mem} {Q : D → Prop} (h : Q (.bl (if neg then !decide (p = q) else decide (p = q)))) : oEq neg (plD p) (plD q) M Q := by
  refine eq_pure rfl rfl ?_
  have e : eqD (plD p) (plD q) = decide (p = q) := by
    show (p.1 == q.1 && (p.2 == q.2 && true)) = _
    obtain ⟨a, b⟩ := p
    obtain ⟨c, d⟩ := q
    rw [Bool.eq_iff_iff]
    simp [Prod.mk.injEq]
  rw [e]; exact h
section
variable {M : Mem} {Q : KD} {E : ExK}
theorem lines_len (R : Nat) (T : Tri) : (Gl.linesOf R T).length ≤ R := by
  unfold Gl.linesOf
  exact Nat.le_trans (List.length_filter_le _ _) (by simp)
/-- is the place at a tick and a line at the middle? -/
def midHit (R : Nat) (T : Tri) (m p : Pl) : Bool := decide (LS R T (m.1 - p.1, if m.2 = 1 then (R : Int) - 1 - p.2 else p.2) = p)
/-! ### is_kept -/
end
end L3.K01
set_option maxRecDepth 100000
set_option maxHeartbeats 1000000
/-! C1: the crank and what is made of it. -/
namespace L3.K01
open PySem PySem.Spec PyProof.Rows L2 L3 Gl
theorem div_ok {i j : Int} {k : Nat} (h0 : 0 < j) (h : j.natAbs < 2 ^ (k + 1)) (hk : k < 9000) : CDivW i j := ⟨h0, Nat.lt_of_le_of_lt (log2_le h) hk⟩
theorem at2_0 {a b : D} : atI [a, b] 0 = some a := rfl
theorem at2_1 {a b : D} : atI [a, b] 1 = some b := rfl
theorem spin_ok {i : Nat} {a b many : Int} {M : Mem} (hM : M[i]? = some (.lst [.int a, .int b])) (hm : 1 ≤ many) (hmb : many ≤ 10000000000000000000000000000000000000000) (ha : 0 ≤ a) (hb : 0 ≤ b) (hb2 : b ≤ 2147483033) {Q : KD} {E : ExK}
    (h : ∀ v a' b' : Int, 0 ≤ v → v < many → 0 ≤ a' → a' ≤ a → 0 ≤ b' → b' ≤ 2147483033 → Q (.int v) (M.set i (.lst [.int a', .int b']))) : C__law_spin [.ref i, .int many] M Q E := by
  have hil : i < M.length := (List.getElem?_eq_some_iff.mp hM).1
  simp only [Cq__law_spin, b_law_spin, b_law_spin_s1, b_law_spin_s2, b_law_spin_s3, b_law_spin_s7, b_law_spin_s8, b_law_spin_s9, b_law_spin_s10, sSeq, sSet, sIf, sRet, sDrop, sNil, sRaise, sAsg, sPar2, sPar3, gSet, gTupD, gsCons, gsNil, gSub, wVar, wC, wOp, wB, wTup, wFz, wSt, fLst, fCat, zNil, zCons, wAnd, wOr, wNot, wIf, wTst, uAnd, uOr, uNot, tstOp, wLeLe, uLtLt, wNeg, oAdd, oSub, oMul, oDiv, oMod, oPow, oLt, oLe, oGt, oGe, oCmp, oLen, oAbs, oInt, oMax2, oMin2, oTuple, wIsi, wCall, wIsN, uIsN, startD, lenD, seeD, viewL, List.map_cons, List.map_nil, List.length_cons, List.length_nil, List.replicate, List.cons_append, List.nil_append, List.getElem?_cons_zero, List.getElem?_cons_succ, List.set_cons_zero, List.set_cons_succ, Nat.add_sub_cancel, Nat.sub_self, Nat.zero_add, Nat.reduceAdd, Nat.reduceSub, if_true, if_false, true_and, and_true, Bool.false_eq_true, reduceIte, ↓reduceIte]
  refine ix_ref hM at2_0 ?_
  by_cases h0 : a > 0
  · simp only [decide_eq_true h0, sSeq, sSet, sIf, sRet, sDrop, sNil, sRaise, sAsg, sPar2, sPar3, gSet, gTupD, gsCons, gsNil, gSub, wVar, wC, wOp, wB, wTup, wFz, wSt, fLst, fCat, zNil, zCons, wAnd, wOr, wNot, wIf, wTst, uAnd, uOr, uNot, tstOp, wLeLe, uLtLt, wNeg, oAdd, oSub, oMul, oDiv, oMod, oPow, oLt, oLe, oGt, oGe, oCmp, oLen, oAbs, oInt, oMax2, oMin2, oTuple, wIsi, wCall, wIsN, uIsN, startD, lenD, seeD, viewL, List.map_cons, List.map_nil, List.length_cons, List.length_nil, List.replicate, List.cons_append, List.nil_append, List.getElem?_cons_zero, List.getElem?_cons_succ, List.set_cons_zero, List.set_cons_succ, Nat.add_sub_cancel, Nat.sub_self, Nat.zero_add, Nat.reduceAdd, Nat.reduceSub, if_true, if_false, true_and, and_true, Bool.false_eq_true, reduceIte, ↓reduceIte]
    refine ix_ref hM at2_0 ?_
    refine ⟨by omega, ?_⟩
    refine ix_ref hM at2_0 ?_
    refine ⟨div_ok (k := 140) (by omega) (by omega) (by decide), ?_⟩
    simp only [hM, sSeq, sSet, sIf, sRet, sDrop, sNil, sRaise, sAsg, sPar2, sPar3, gSet, gTupD, gsCons, gsNil, gSub, wVar, wC, wOp, wB, wTup, wFz, wSt, fLst, fCat, zNil, zCons, wAnd, wOr, wNot, wIf, wTst, uAnd, uOr, uNot, tstOp, wLeLe, uLtLt, wNeg, oAdd, oSub, oMul, oDiv, oMod, oPow, oLt, oLe, oGt, oGe, oCmp, oLen, oAbs, oInt, oMax2, oMin2, oTuple, wIsi, wCall, wIsN, uIsN, startD, lenD, seeD, viewL, List.map_cons, List.map_nil, List.length_cons, List.length_nil, List.replicate, List.cons_append, List.nil_append, List.getElem?_cons_zero, List.getElem?_cons_succ, List.set_cons_zero, List.set_cons_succ, Nat.add_sub_cancel, Nat.sub_self, Nat.zero_add, Nat.reduceAdd, Nat.reduceSub, if_true, if_false, true_and, and_true, Bool.false_eq_true, reduceIte, ↓reduceIte]
    exact h (a % many) (a / many) b (Int.emod_nonneg _ (by omega)) (Int.emod_lt_of_pos _ (by omega)) (Int.ediv_nonneg ha (by omega)) (Int.ediv_le_self _ ha) hb hb2
  · simp only [decide_eq_false h0, sSeq, sSet, sIf, sRet, sDrop, sNil, sRaise, sAsg, sPar2, sPar3, gSet, gTupD, gsCons, gsNil, gSub, wVar, wC, wOp, wB, wTup, wFz, wSt, fLst, fCat, zNil, zCons, wAnd, wOr, wNot, wIf, wTst, uAnd, uOr, uNot, tstOp, wLeLe, uLtLt, wNeg, oAdd, oSub, oMul, oDiv, oMod, oPow, oLt, oLe, oGt, oGe, oCmp, oLen, oAbs, oInt, oMax2, oMin2, oTuple, wIsi, wCall, wIsN, uIsN, startD, lenD, seeD, viewL, List.map_cons, List.map_nil, List.length_cons, List.length_nil, List.replicate, List.cons_append, List.nil_append, List.getElem?_cons_zero, List.getElem?_cons_succ, List.set_cons_zero, List.set_cons_succ, Nat.add_sub_cancel, Nat.sub_self, Nat.zero_add, Nat.reduceAdd, Nat.reduceSub, if_true, if_false, true_and, and_true, Bool.false_eq_true, reduceIte, ↓reduceIte]
    refine ⟨sz_le (by decide), ?_⟩
    have hMs : M = M.set i (.lst [.int a, .int b]) := by
      obtain ⟨hl, e⟩ := List.getElem?_eq_some_iff.mp hM
      rw [← e, List.set_getElem_self]
    refine ⟨fun m env M' => ∃ found wide b' : Int, env = [some (.ref i), some (.int many), some (.int found), some (.int wide)] ∧ M' = M.set i (.lst [.int a, .int b']) ∧ 0 ≤ b' ∧ b' ≤ 2147483033 ∧ 1 ≤ wide ∧ wide ≤ 8192 * many ∧ 0 ≤ found ∧ found < wide ∧ m = (8192 * many - wide).toNat,
      ⟨_, 0, 1, b, rfl, hMs, hb, hb2, by omega, by omega, by omega, by omega, rfl⟩, ?_⟩
    rintro m env M' ⟨found, wide, b', rfl, rfl, c1, c2, c3, c4, c5, c6, rfl⟩
    have hM' : (M.set i (.lst [.int a, .int b']))[i]? = some (.lst [.int a, .int b']) := List.getElem?_set_self hil
    have turn : ∀ (bk ct : Envd → Mem → Prop), wide < many ∨ wide = 1 → sSeq b_law_spin_s4 (sSeq b_law_spin_s5 b_law_spin_s6) [some (.ref i), some (.int many), some (.int found), some (.int wide)] (M.set i (.lst [.int a, .int b'])) { nx := fun e' M' => ∃ k, k < (8192 * many - wide).toNat ∧ ∃ found wide b' : Int, e' = [some (.ref i), some (.int many), some (.int found), some (.int wide)] ∧ M' = M.set i (.lst [.int a, .int b']) ∧ 0 ≤ b' ∧ b' ≤ 2147483033 ∧ 1 ≤ wide ∧ wide ≤ 8192 * many ∧ 0 ≤ found ∧ found < wide ∧ k = (8192 * many - wide).toNat, rt := Q, bk := bk, ct := ct } E := by
      intro bk ct hw
      simp only [b_law_spin_s4, b_law_spin_s5, b_law_spin_s6, sSeq, sSet, sIf, sRet, sDrop, sNil, sRaise, sAsg, sPar2, sPar3, gSet, gTupD, gsCons, gsNil, gSub, wVar, wC, wOp, wB, wTup, wFz, wSt, fLst, fCat, zNil, zCons, wAnd, wOr, wNot, wIf, wTst, uAnd, uOr, uNot, tstOp, wLeLe, uLtLt, wNeg, oAdd, oSub, oMul, oDiv, oMod, oPow, oLt, oLe, oGt, oGe, oCmp, oLen, oAbs, oInt, oMax2, oMin2, oTuple, wIsi, wCall, wIsN, uIsN, startD, lenD, seeD, viewL, List.map_cons, List.map_nil, List.length_cons, List.length_nil, List.replicate, List.cons_append, List.nil_append, List.getElem?_cons_zero, List.getElem?_cons_succ, List.set_cons_zero, List.set_cons_succ, Nat.add_sub_cancel, Nat.sub_self, Nat.zero_add, Nat.reduceAdd, Nat.reduceSub, if_true, if_false, true_and, and_true, Bool.false_eq_true, reduceIte, ↓reduceIte]
      refine ix_ref hM' at2_1 ?_
      refine ⟨mul_ok (k := 40) (m := 20) (by omega) (by decide) (by decide), ?_⟩
      refine ⟨by decide, ?_⟩
      simp only [hM', sSeq, sSet, sIf, sRet, sDrop, sNil, sRaise, sAsg, sPar2, sPar3, gSet, gTupD, gsCons, gsNil, gSub, wVar, wC, wOp, wB, wTup, wFz, wSt, fLst, fCat, zNil, zCons, wAnd, wOr, wNot, wIf, wTst, uAnd, uOr, uNot, tstOp, wLeLe, uLtLt, wNeg, oAdd, oSub, oMul, oDiv, oMod, oPow, oLt, oLe, oGt, oGe, oCmp, oLen, oAbs, oInt, oMax2, oMin2, oTuple, wIsi, wCall, wIsN, uIsN, startD, lenD, seeD, viewL, List.map_cons, List.map_nil, List.length_cons, List.length_nil, List.replicate, List.cons_append, List.nil_append, List.getElem?_cons_zero, List.getElem?_cons_succ, List.set_cons_zero, List.set_cons_succ, Nat.add_sub_cancel, Nat.sub_self, Nat.zero_add, Nat.reduceAdd, Nat.reduceSub, if_true, if_false, true_and, and_true, Bool.false_eq_true, reduceIte, ↓reduceIte]
      rw [show ixN 2 1 = some 1 from rfl]
      simp only [List.set_set, sSeq, sSet, sIf, sRet, sDrop, sNil, sRaise, sAsg, sPar2, sPar3, gSet, gTupD, gsCons, gsNil, gSub, wVar, wC, wOp, wB, wTup, wFz, wSt, fLst, fCat, zNil, zCons, wAnd, wOr, wNot, wIf, wTst, uAnd, uOr, uNot, tstOp, wLeLe, uLtLt, wNeg, oAdd, oSub, oMul, oDiv, oMod, oPow, oLt, oLe, oGt, oGe, oCmp, oLen, oAbs, oInt, oMax2, oMin2, oTuple, wIsi, wCall, wIsN, uIsN, startD, lenD, seeD, viewL, List.map_cons, List.map_nil, List.length_cons, List.length_nil, List.replicate, List.cons_append, List.nil_append, List.getElem?_cons_zero, List.getElem?_cons_succ, List.set_cons_zero, List.set_cons_succ, Nat.add_sub_cancel, Nat.sub_self, Nat.zero_add, Nat.reduceAdd, Nat.reduceSub, if_true, if_false, true_and, and_true, Bool.false_eq_true, reduceIte, ↓reduceIte]
      refine ⟨mul_ok (k := 150) (m := 20) (by omega) (by decide) (by decide), ?_⟩
      have hM2 : (M.set i (.lst [.int a, .int ((b' * 24137 + 83) % 2147483033)]))[i]? = some (.lst [.int a, .int ((b' * 24137 + 83) % 2147483033)]) := List.getElem?_set_self hil
      refine ix_ref hM2 at2_1 ?_
      have q1 := Int.emod_nonneg (b' * 24137 + 83) (show (2147483033 : Int) ≠ 0 by decide)
      have q2 := Int.emod_lt_of_pos (b' * 24137 + 83) (show (0 : Int) < 2147483033 by decide)
      have q3 := Int.emod_nonneg ((b' * 24137 + 83) % 2147483033 / 65617) (show (8192 : Int) ≠ 0 by decide)
      have q4 := Int.emod_lt_of_pos ((b' * 24137 + 83) % 2147483033 / 65617) (show (0 : Int) < 8192 by decide)
      refine ⟨div_ok (k := 30) (by decide) (by decide) (by decide), by decide, mul_ok (k := 150) (m := 20) (by omega) (by decide) (by decide), _, ?_, _, _, _, rfl, rfl, q1, by omega, ?_, ?_, ?_, ?_, rfl⟩
      all_goals omega
    generalize sSeq b_law_spin_s4 (sSeq b_law_spin_s5 b_law_spin_s6) = body at turn ⊢
    have last : ¬ (wide < many ∨ wide = 1) → Q (.int (found % many)) (M.set i (.lst [.int a, .int b'])) := fun _ => h _ a b' (Int.emod_nonneg _ (by omega)) (Int.emod_lt_of_pos _ (by omega)) ha (by omega) c1 c2
    simp only [sSeq, sSet, sIf, sRet, sDrop, sNil, sRaise, sAsg, sPar2, sPar3, gSet, gTupD, gsCons, gsNil, gSub, wVar, wC, wOp, wB, wTup, wFz, wSt, fLst, fCat, zNil, zCons, wAnd, wOr, wNot, wIf, wTst, uAnd, uOr, uNot, tstOp, wLeLe, uLtLt, wNeg, oAdd, oSub, oMul, oDiv, oMod, oPow, oLt, oLe, oGt, oGe, oCmp, oLen, oAbs, oInt, oMax2, oMin2, oTuple, wIsi, wCall, wIsN, uIsN, startD, lenD, seeD, viewL, List.map_cons, List.map_nil, List.length_cons, List.length_nil, List.replicate, List.cons_append, List.nil_append, List.getElem?_cons_zero, List.getElem?_cons_succ, List.set_cons_zero, List.set_cons_succ, Nat.add_sub_cancel, Nat.sub_self, Nat.zero_add, Nat.reduceAdd, Nat.reduceSub, if_true, if_false, true_and, and_true, Bool.false_eq_true, reduceIte, ↓reduceIte]
    by_cases w1 : wide < many
    · simp only [decide_eq_true w1, sSeq, sSet, sIf, sRet, sDrop, sNil, sRaise, sAsg, sPar2, sPar3, gSet, gTupD, gsCons, gsNil, gSub, wVar, wC, wOp, wB, wTup, wFz, wSt, fLst, fCat, zNil, zCons, wAnd, wOr, wNot, wIf, wTst, uAnd, uOr, uNot, tstOp, wLeLe, uLtLt, wNeg, oAdd, oSub, oMul, oDiv, oMod, oPow, oLt, oLe, oGt, oGe, oCmp, oLen, oAbs, oInt, oMax2, oMin2, oTuple, wIsi, wCall, wIsN, uIsN, startD, lenD, seeD, viewL, List.map_cons, List.map_nil, List.length_cons, List.length_nil, List.replicate, List.cons_append, List.nil_append, List.getElem?_cons_zero, List.getElem?_cons_succ, List.set_cons_zero, List.set_cons_succ, Nat.add_sub_cancel, Nat.sub_self, Nat.zero_add, Nat.reduceAdd, Nat.reduceSub, if_true, if_false, true_and, and_true, Bool.false_eq_true, reduceIte, ↓reduceIte]
      exact turn _ _ (.inl w1)
    · simp only [decide_eq_false w1, sSeq, sSet, sIf, sRet, sDrop, sNil, sRaise, sAsg, sPar2, sPar3, gSet, gTupD, gsCons, gsNil, gSub, wVar, wC, wOp, wB, wTup, wFz, wSt, fLst, fCat, zNil, zCons, wAnd, wOr, wNot, wIf, wTst, uAnd, uOr, uNot, tstOp, wLeLe, uLtLt, wNeg, oAdd, oSub, oMul, oDiv, oMod, oPow, oLt, oLe, oGt, oGe, oCmp, oLen, oAbs, oInt, oMax2, oMin2, oTuple, wIsi, wCall, wIsN, uIsN, startD, lenD, seeD, viewL, List.map_cons, List.map_nil, List.length_cons, List.length_nil, List.replicate, List.cons_append, List.nil_append, List.getElem?_cons_zero, List.getElem?_cons_succ, List.set_cons_zero, List.set_cons_succ, Nat.add_sub_cancel, Nat.sub_self, Nat.zero_add, Nat.reduceAdd, Nat.reduceSub, if_true, if_false, true_and, and_true, Bool.false_eq_true, reduceIte, ↓reduceIte]
      refine eq_int ?_
      by_cases w2 : wide = 1
      · simp only [show (wide == 1) = true by simp [w2], sSeq, sSet, sIf, sRet, sDrop, sNil, sRaise, sAsg, sPar2, sPar3, gSet, gTupD, gsCons, gsNil, gSub, wVar, wC, wOp, wB, wTup, wFz, wSt, fLst, fCat, zNil, zCons, wAnd, wOr, wNot, wIf, wTst, uAnd, uOr, uNot, tstOp, wLeLe, uLtLt, wNeg, oAdd, oSub, oMul, oDiv, oMod, oPow, oLt, oLe, oGt, oGe, oCmp, oLen, oAbs, oInt, oMax2, oMin2, oTuple, wIsi, wCall, wIsN, uIsN, startD, lenD, seeD, viewL, List.map_cons, List.map_nil, List.length_cons, List.length_nil, List.replicate, List.cons_append, List.nil_append, List.getElem?_cons_zero, List.getElem?_cons_succ, List.set_cons_zero, List.set_cons_succ, Nat.add_sub_cancel, Nat.sub_self, Nat.zero_add, Nat.reduceAdd, Nat.reduceSub, if_true, if_false, true_and, and_true, Bool.false_eq_true, reduceIte, ↓reduceIte]
        exact turn _ _ (.inr w2)
      · simp only [show (wide == 1) = false by simp [w2], sSeq, sSet, sIf, sRet, sDrop, sNil, sRaise, sAsg, sPar2, sPar3, gSet, gTupD, gsCons, gsNil, gSub, wVar, wC, wOp, wB, wTup, wFz, wSt, fLst, fCat, zNil, zCons, wAnd, wOr, wNot, wIf, wTst, uAnd, uOr, uNot, tstOp, wLeLe, uLtLt, wNeg, oAdd, oSub, oMul, oDiv, oMod, oPow, oLt, oLe, oGt, oGe, oCmp, oLen, oAbs, oInt, oMax2, oMin2, oTuple, wIsi, wCall, wIsN, uIsN, startD, lenD, seeD, viewL, List.map_cons, List.map_nil, List.length_cons, List.length_nil, List.replicate, List.cons_append, List.nil_append, List.getElem?_cons_zero, List.getElem?_cons_succ, List.set_cons_zero, List.set_cons_succ, Nat.add_sub_cancel, Nat.sub_self, Nat.zero_add, Nat.reduceAdd, Nat.reduceSub, if_true, if_false, true_and, and_true, Bool.false_eq_true, reduceIte, ↓reduceIte]
        exact ⟨by omega, last (fun z => z.elim w1 w2)⟩
/-- a crank stands at i: the numbers are in bounds -/
def Crank (M : Mem) (i : Nat) : Prop := ∃ a b : Int, M[i]? = some (.lst [.int a, .int b]) ∧ 0 ≤ a ∧ 0 ≤ b ∧ b ≤ 2147483033
/-- the store is as before but for the crank at i -/
def Turned (i : Nat) (M M' : Mem) : Prop := Crank M' i ∧ M'.length = M.length ∧ ∀ j, j ≠ i → M'[j]? = M[j]?
theorem Turned.refl {i : Nat} {M : Mem} (c : Crank M i) : Turned i M M := ⟨c, rfl, fun _ _ => rfl⟩
theorem Turned.trans {i : Nat} {M M1 M2 : Mem} (a : Turned i M M1) (b : Turned i M1 M2) : Turned i M M2 := ⟨b.1, b.2.1.trans a.2.1, fun j h => (b.2.2 j h).trans (a.2.2 j h)⟩
theorem spin_ok' {i : Nat} {many : Int} {M : Mem} (c : Crank M i) (hm : 1 ≤ many) (hmb : many ≤ 10000000000000000000000000000000000000000) {Q : KD} {E : ExK} (h : ∀ (v : Int) (M' : Mem), 0 ≤ v → v < many → Turned i M M' → Q (.int v) M') : C__law_spin [.ref i, .int many] M Q E := by
  obtain ⟨a, b, hM, c1, c2, c3⟩ := c
  have hil : i < M.length := (List.getElem?_eq_some_iff.mp hM).1
  refine spin_ok hM hm hmb c1 c2 c3 fun v a' b' h1 h2 h3 h4 h5 h6 => h v _ h1 h2 ⟨⟨a', b', List.getElem?_set_self hil, h3, h5, h6⟩, List.length_set, fun j hj => List.getElem?_set_ne (fun z => hj z.symm)⟩
theorem any_ok {i : Nat} {ds : List D} {M : Mem} (c : Crank M i) (h1 : 1 ≤ ds.length) (h2 : ds.length ≤ 1000) {Q : KD} {E : ExK} (h : ∀ (d : D) (M' : Mem), d ∈ ds → Turned i M M' → Q d M') : C__law_any [.ref i, .lst ds] M Q E := by
  simp only [Cq__law_any, b_law_any, b_law_any_s1, sSeq, sSet, sIf, sRet, sDrop, sNil, sRaise, sAsg, sPar2, sPar3, gSet, gTupD, gsCons, gsNil, gSub, wVar, wC, wOp, wB, wTup, wFz, wSt, fLst, fCat, zNil, zCons, wAnd, wOr, wNot, wIf, wTst, uAnd, uOr, uNot, tstOp, wLeLe, uLtLt, wNeg, oAdd, oSub, oMul, oDiv, oMod, oPow, oLt, oLe, oGt, oGe, oCmp, oLen, oAbs, oInt, oMax2, oMin2, oTuple, wIsi, wCall, wIsN, uIsN, startD, lenD, seeD, viewL, List.map_cons, List.map_nil, List.length_cons, List.length_nil, List.replicate, List.cons_append, List.nil_append, List.getElem?_cons_zero, List.getElem?_cons_succ, List.set_cons_zero, List.set_cons_succ, Nat.add_sub_cancel, Nat.sub_self, Nat.zero_add, Nat.reduceAdd, Nat.reduceSub, if_true, if_false, true_and, and_true, Bool.false_eq_true, reduceIte, ↓reduceIte]
  refine spin_ok' c (by omega) (by omega) fun v M' v1 v2 t => ?_
  have hv : v.toNat < ds.length := by omega
  refine ix_lst (d := ds[v.toNat]) ?_ (h _ M' (List.getElem_mem hv) t)
  have := atI_nat (xs := ds) (i := v.toNat) (List.getElem?_eq_getElem hv)
  rwa [Int.toNat_of_nonneg v1] at this
theorem cpow_ok {j : Int} (h1 : 0 ≤ j) (h2 : j ≤ 1000000) : CPow 10 j := ⟨h1, h2, by decide⟩
theorem crank_tail {ns : List Int} {k : Nat} (hk : k ≤ 100) {M : Mem} {Q : KD} {E : ExK} {nx bk ct : Envd → Mem → Prop} {c : Int} (hc : 0 ≤ c) (h : ∀ M', M'.length = M.length + 1 → (∀ j, j < M.length → M'[j]? = M[j]?) → Crank M' M.length → Q (.ref M.length) M') :
    b_law_crank_s6 [some (.scr ns), some (.int k), some (.int c)] M { nx := nx, rt := Q, bk := bk, ct := ct } E := by
  have q1 := Int.emod_nonneg c (show (2147483033 : Int) ≠ 0 by decide)
  have q2 := Int.emod_lt_of_pos c (show (0 : Int) < 2147483033 by decide)
  have q3 := Int.emod_nonneg (c % 2147483033 * 7 + 73 * (k : Int) + 31) (show (2147483033 : Int) ≠ 0 by decide)
  have q4 := Int.emod_lt_of_pos (c % 2147483033 * 7 + 73 * (k : Int) + 31) (show (0 : Int) < 2147483033 by decide)
  have fin : ∀ a : Int, 0 ≤ a → CMulW (c % 2147483033) 7 ∧ CMulW 73 (k : Int) ∧ Q (.ref M.length) (M ++ [.lst [.int a, .int ((c % 2147483033 * 7 + 73 * (k : Int) + 31) % 2147483033 + 1)]]) := fun a ha =>
    ⟨mul_ok (k := 40) (m := 10) (by omega) (by decide) (by decide), mul_ok (k := 10) (m := 20) (by decide) (by omega) (by decide), h _ (by simp) (fun j hj => List.getElem?_append_left hj) ⟨a, (c % 2147483033 * 7 + 73 * (k : Int) + 31) % 2147483033 + 1, by simp, ha, by omega, by omega⟩⟩
  simp only [b_law_crank_s6, sSeq, sSet, sIf, sRet, sDrop, sNil, sRaise, sAsg, sPar2, sPar3, gSet, gTupD, gsCons, gsNil, gSub, wVar, wC, wOp, wB, wTup, wFz, wSt, fLst, fCat, zNil, zCons, wAnd, wOr, wNot, wIf, wTst, uAnd, uOr, uNot, tstOp, wLeLe, uLtLt, wNeg, oAdd, oSub, oMul, oDiv, oMod, oPow, oLt, oLe, oGt, oGe, oCmp, oLen, oAbs, oInt, oMax2, oMin2, oTuple, wIsi, wCall, wIsN, uIsN, startD, lenD, seeD, viewL, List.map_cons, List.map_nil, List.length_cons, List.length_nil, List.replicate, List.cons_append, List.nil_append, List.getElem?_cons_zero, List.getElem?_cons_succ, List.set_cons_zero, List.set_cons_succ, Nat.add_sub_cancel, Nat.sub_self, Nat.zero_add, Nat.reduceAdd, Nat.reduceSub, if_true, if_false, true_and, and_true, Bool.false_eq_true, reduceIte, ↓reduceIte]
  refine ⟨cpow_ok (by decide) (by decide), ?_⟩
  by_cases hb : c ≥ 10 ^ Int.toNat 18
  · obtain ⟨f1, f2, f3⟩ := fin c hc
    simp only [decide_eq_true hb, sSeq, sSet, sIf, sRet, sDrop, sNil, sRaise, sAsg, sPar2, sPar3, gSet, gTupD, gsCons, gsNil, gSub, wVar, wC, wOp, wB, wTup, wFz, wSt, fLst, fCat, zNil, zCons, wAnd, wOr, wNot, wIf, wTst, uAnd, uOr, uNot, tstOp, wLeLe, uLtLt, wNeg, oAdd, oSub, oMul, oDiv, oMod, oPow, oLt, oLe, oGt, oGe, oCmp, oLen, oAbs, oInt, oMax2, oMin2, oTuple, wIsi, wCall, wIsN, uIsN, startD, lenD, seeD, viewL, List.map_cons, List.map_nil, List.length_cons, List.length_nil, List.replicate, List.cons_append, List.nil_append, List.getElem?_cons_zero, List.getElem?_cons_succ, List.set_cons_zero, List.set_cons_succ, Nat.add_sub_cancel, Nat.sub_self, Nat.zero_add, Nat.reduceAdd, Nat.reduceSub, if_true, if_false, true_and, and_true, Bool.false_eq_true, reduceIte, ↓reduceIte]
    exact ⟨by decide, f1, f2, by decide, sz_le (by decide), f3⟩
  · obtain ⟨f1, f2, f3⟩ := fin 0 (by decide)
    simp only [decide_eq_false hb, sSeq, sSet, sIf, sRet, sDrop, sNil, sRaise, sAsg, sPar2, sPar3, gSet, gTupD, gsCons, gsNil, gSub, wVar, wC, wOp, wB, wTup, wFz, wSt, fLst, fCat, zNil, zCons, wAnd, wOr, wNot, wIf, wTst, uAnd, uOr, uNot, tstOp, wLeLe, uLtLt, wNeg, oAdd, oSub, oMul, oDiv, oMod, oPow, oLt, oLe, oGt, oGe, oCmp, oLen, oAbs, oInt, oMax2, oMin2, oTuple, wIsi, wCall, wIsN, uIsN, startD, lenD, seeD, viewL, List.map_cons, List.map_nil, List.length_cons, List.length_nil, List.replicate, List.cons_append, List.nil_append, List.getElem?_cons_zero, List.getElem?_cons_succ, List.set_cons_zero, List.set_cons_succ, Nat.add_sub_cancel, Nat.sub_self, Nat.zero_add, Nat.reduceAdd, Nat.reduceSub, if_true, if_false, true_and, and_true, Bool.false_eq_true, reduceIte, ↓reduceIte]
    exact ⟨by decide, f1, f2, by decide, sz_le (by decide), f3⟩
theorem crank_ok {ns : List Int} {k : Nat} (hk : k ≤ 100) {M : Mem} {Q : KD} {E : ExK} (h : ∀ M', M'.length = M.length + 1 → (∀ j, j < M.length → M'[j]? = M[j]?) → Crank M' M.length → Q (.ref M.length) M') : C__law_crank [.scr ns, .int k] M Q E := by
  simp only [Cq__law_crank, b_law_crank, b_law_crank_s1, b_law_crank_s2, b_law_crank_s3, b_law_crank_s4, b_law_crank_s5, sSeq, sSet, sIf, sRet, sDrop, sNil, sRaise, sAsg, sPar2, sPar3, gSet, gTupD, gsCons, gsNil, gSub, wVar, wC, wOp, wB, wTup, wFz, wSt, fLst, fCat, zNil, zCons, wAnd, wOr, wNot, wIf, wTst, uAnd, uOr, uNot, tstOp, wLeLe, uLtLt, wNeg, oAdd, oSub, oMul, oDiv, oMod, oPow, oLt, oLe, oGt, oGe, oCmp, oLen, oAbs, oInt, oMax2, oMin2, oTuple, wIsi, wCall, wIsN, uIsN, startD, lenD, seeD, viewL, List.map_cons, List.map_nil, List.length_cons, List.length_nil, List.replicate, List.cons_append, List.nil_append, List.getElem?_cons_zero, List.getElem?_cons_succ, List.set_cons_zero, List.set_cons_succ, Nat.add_sub_cancel, Nat.sub_self, Nat.zero_add, Nat.reduceAdd, Nat.reduceSub, if_true, if_false, true_and, and_true, Bool.false_eq_true, reduceIte, ↓reduceIte]
  refine ⟨mul_ok (k := 20) (m := 20) (by decide) (by omega) (by decide), ?_⟩
  by_cases h1 : k < ns.length
  · simp only [show decide ((k : Int) < (ns.length : Int)) = true from decide_eq_true (by omega), sSeq, sSet, sIf, sRet, sDrop, sNil, sRaise, sAsg, sPar2, sPar3, gSet, gTupD, gsCons, gsNil, gSub, wVar, wC, wOp, wB, wTup, wFz, wSt, fLst, fCat, zNil, zCons, wAnd, wOr, wNot, wIf, wTst, uAnd, uOr, uNot, tstOp, wLeLe, uLtLt, wNeg, oAdd, oSub, oMul, oDiv, oMod, oPow, oLt, oLe, oGt, oGe, oCmp, oLen, oAbs, oInt, oMax2, oMin2, oTuple, wIsi, wCall, wIsN, uIsN, startD, lenD, seeD, viewL, List.map_cons, List.map_nil, List.length_cons, List.length_nil, List.replicate, List.cons_append, List.nil_append, List.getElem?_cons_zero, List.getElem?_cons_succ, List.set_cons_zero, List.set_cons_succ, Nat.add_sub_cancel, Nat.sub_self, Nat.zero_add, Nat.reduceAdd, Nat.reduceSub, if_true, if_false, true_and, and_true, Bool.false_eq_true, reduceIte, ↓reduceIte]
    refine ix_scr (atI_nat (List.getElem?_eq_getElem h1)) ?_
    simp only [sSeq, sSet, sIf, sRet, sDrop, sNil, sRaise, sAsg, sPar2, sPar3, gSet, gTupD, gsCons, gsNil, gSub, wVar, wC, wOp, wB, wTup, wFz, wSt, fLst, fCat, zNil, zCons, wAnd, wOr, wNot, wIf, wTst, uAnd, uOr, uNot, tstOp, wLeLe, uLtLt, wNeg, oAdd, oSub, oMul, oDiv, oMod, oPow, oLt, oLe, oGt, oGe, oCmp, oLen, oAbs, oInt, oMax2, oMin2, oTuple, wIsi, wCall, wIsN, uIsN, startD, lenD, seeD, viewL, List.map_cons, List.map_nil, List.length_cons, List.length_nil, List.replicate, List.cons_append, List.nil_append, List.getElem?_cons_zero, List.getElem?_cons_succ, List.set_cons_zero, List.set_cons_succ, Nat.add_sub_cancel, Nat.sub_self, Nat.zero_add, Nat.reduceAdd, Nat.reduceSub, if_true, if_false, true_and, and_true, Bool.false_eq_true, reduceIte, ↓reduceIte]
    have m1 : CMulW (10 ^ Int.toNat 60) (10 ^ Int.toNat 60) := mul_ok (k := 300) (m := 300) (by decide +kernel) (by decide +kernel) (by decide)
    have m2 : CMulW (10 ^ Int.toNat 60 * 10 ^ Int.toNat 60) (10 ^ Int.toNat 60) := mul_ok (k := 500) (m := 300) (by decide +kernel) (by decide +kernel) (by decide)
    have m3 : CMulW (10 ^ Int.toNat 60 * 10 ^ Int.toNat 60 * 10 ^ Int.toNat 60) (10 ^ Int.toNat 60) := mul_ok (k := 700) (m := 300) (by decide +kernel) (by decide +kernel) (by decide)
    have p0 : (0 : Int) < 10 ^ Int.toNat 60 * 10 ^ Int.toNat 60 * 10 ^ Int.toNat 60 * 10 ^ Int.toNat 60 := by decide +kernel
    have pw : CPow 10 60 := cpow_ok (by decide) (by decide)
    exact ⟨pw, pw, m1, pw, m2, pw, m3, p0, crank_tail hk (Int.emod_nonneg _ (by omega)) h⟩
  · simp only [show decide ((k : Int) < (ns.length : Int)) = false from decide_eq_false (by omega), sSeq, sSet, sIf, sRet, sDrop, sNil, sRaise, sAsg, sPar2, sPar3, gSet, gTupD, gsCons, gsNil, gSub, wVar, wC, wOp, wB, wTup, wFz, wSt, fLst, fCat, zNil, zCons, wAnd, wOr, wNot, wIf, wTst, uAnd, uOr, uNot, tstOp, wLeLe, uLtLt, wNeg, oAdd, oSub, oMul, oDiv, oMod, oPow, oLt, oLe, oGt, oGe, oCmp, oLen, oAbs, oInt, oMax2, oMin2, oTuple, wIsi, wCall, wIsN, uIsN, startD, lenD, seeD, viewL, List.map_cons, List.map_nil, List.length_cons, List.length_nil, List.replicate, List.cons_append, List.nil_append, List.getElem?_cons_zero, List.getElem?_cons_succ, List.set_cons_zero, List.set_cons_succ, Nat.add_sub_cancel, Nat.sub_self, Nat.zero_add, Nat.reduceAdd, Nat.reduceSub, if_true, if_false, true_and, and_true, Bool.false_eq_true, reduceIte, ↓reduceIte]
    by_cases h2 : 0 < ns.length
    · simp only [show decide ((ns.length : Int) > 0) = true from decide_eq_true (by omega), sSeq, sSet, sIf, sRet, sDrop, sNil, sRaise, sAsg, sPar2, sPar3, gSet, gTupD, gsCons, gsNil, gSub, wVar, wC, wOp, wB, wTup, wFz, wSt, fLst, fCat, zNil, zCons, wAnd, wOr, wNot, wIf, wTst, uAnd, uOr, uNot, tstOp, wLeLe, uLtLt, wNeg, oAdd, oSub, oMul, oDiv, oMod, oPow, oLt, oLe, oGt, oGe, oCmp, oLen, oAbs, oInt, oMax2, oMin2, oTuple, wIsi, wCall, wIsN, uIsN, startD, lenD, seeD, viewL, List.map_cons, List.map_nil, List.length_cons, List.length_nil, List.replicate, List.cons_append, List.nil_append, List.getElem?_cons_zero, List.getElem?_cons_succ, List.set_cons_zero, List.set_cons_succ, Nat.add_sub_cancel, Nat.sub_self, Nat.zero_add, Nat.reduceAdd, Nat.reduceSub, if_true, if_false, true_and, and_true, Bool.false_eq_true, reduceIte, ↓reduceIte]
      refine ix_scr (n := ns[0]) (atI_nat (i := 0) (List.getElem?_eq_getElem h2)) ?_
      simp only [sSeq, sSet, sIf, sRet, sDrop, sNil, sRaise, sAsg, sPar2, sPar3, gSet, gTupD, gsCons, gsNil, gSub, wVar, wC, wOp, wB, wTup, wFz, wSt, fLst, fCat, zNil, zCons, wAnd, wOr, wNot, wIf, wTst, uAnd, uOr, uNot, tstOp, wLeLe, uLtLt, wNeg, oAdd, oSub, oMul, oDiv, oMod, oPow, oLt, oLe, oGt, oGe, oCmp, oLen, oAbs, oInt, oMax2, oMin2, oTuple, wIsi, wCall, wIsN, uIsN, startD, lenD, seeD, viewL, List.map_cons, List.map_nil, List.length_cons, List.length_nil, List.replicate, List.cons_append, List.nil_append, List.getElem?_cons_zero, List.getElem?_cons_succ, List.set_cons_zero, List.set_cons_succ, Nat.add_sub_cancel, Nat.sub_self, Nat.zero_add, Nat.reduceAdd, Nat.reduceSub, if_true, if_false, true_and, and_true, Bool.false_eq_true, reduceIte, ↓reduceIte]
      refine ⟨by decide, crank_tail hk ?_ h⟩
      have := Int.emod_nonneg (if ns[0] < 0 then -ns[0] else ns[0]) (show (1000357 : Int) ≠ 0 by decide)
      omega
    · simp only [show decide ((ns.length : Int) > 0) = false from decide_eq_false (by omega), sSeq, sSet, sIf, sRet, sDrop, sNil, sRaise, sAsg, sPar2, sPar3, gSet, gTupD, gsCons, gsNil, gSub, wVar, wC, wOp, wB, wTup, wFz, wSt, fLst, fCat, zNil, zCons, wAnd, wOr, wNot, wIf, wTst, uAnd, uOr, uNot, tstOp, wLeLe, uLtLt, wNeg, oAdd, oSub, oMul, oDiv, oMod, oPow, oLt, oLe, oGt, oGe, oCmp, oLen, oAbs, oInt, oMax2, oMin2, oTuple, wIsi, wCall, wIsN, uIsN, startD, lenD, seeD, viewL, List.map_cons, List.map_nil, List.length_cons, List.length_nil, List.replicate, List.cons_append, List.nil_append, List.getElem?_cons_zero, List.getElem?_cons_succ, List.set_cons_zero, List.set_cons_succ, Nat.add_sub_cancel, Nat.sub_self, Nat.zero_add, Nat.reduceAdd, Nat.reduceSub, if_true, if_false, true_and, and_true, Bool.false_eq_true, reduceIte, ↓reduceIte]
      exact crank_tail hk (by omega) h
theorem ring_ok {i : Nat} {M : Mem} (c : Crank M i) {Q : KD} {E : ExK} (h : ∀ (l : Ring) (M' : Mem), l.ok → Turned i M M' → Q l.d M') : C__law_ring [.ref i] M Q E := by
  simp only [Cq__law_ring, b_law_ring, b_law_ring_s1, sSeq, sSet, sIf, sRet, sDrop, sNil, sRaise, sAsg, sPar2, sPar3, gSet, gTupD, gsCons, gsNil, gSub, wVar, wC, wOp, wB, wTup, wFz, wSt, fLst, fCat, zNil, zCons, wAnd, wOr, wNot, wIf, wTst, uAnd, uOr, uNot, tstOp, wLeLe, uLtLt, wNeg, oAdd, oSub, oMul, oDiv, oMod, oPow, oLt, oLe, oGt, oGe, oCmp, oLen, oAbs, oInt, oMax2, oMin2, oTuple, wIsi, wCall, wIsN, uIsN, startD, lenD, seeD, viewL, List.map_cons, List.map_nil, List.length_cons, List.length_nil, List.replicate, List.cons_append, List.nil_append, List.getElem?_cons_zero, List.getElem?_cons_succ, List.set_cons_zero, List.set_cons_succ, Nat.add_sub_cancel, Nat.sub_self, Nat.zero_add, Nat.reduceAdd, Nat.reduceSub, if_true, if_false, true_and, and_true, Bool.false_eq_true, reduceIte, ↓reduceIte]
  refine spin_ok' c (by decide) (by decide) fun v M1 v1 v2 t1 => ?_
  try simp only [sSeq, sSet, sIf, sRet, sDrop, sNil, sRaise, sAsg, sPar2, sPar3, gSet, gTupD, gsCons, gsNil, gSub, wVar, wC, wOp, wB, wTup, wFz, wSt, fLst, fCat, zNil, zCons, wAnd, wOr, wNot, wIf, wTst, uAnd, uOr, uNot, tstOp, wLeLe, uLtLt, wNeg, oAdd, oSub, oMul, oDiv, oMod, oPow, oLt, oLe, oGt, oGe, oCmp, oLen, oAbs, oInt, oMax2, oMin2, oTuple, wIsi, wCall, wIsN, uIsN, startD, lenD, seeD, viewL, List.map_cons, List.map_nil, List.length_cons, List.length_nil, List.replicate, List.cons_append, List.nil_append, List.getElem?_cons_zero, List.getElem?_cons_succ, List.set_cons_zero, List.set_cons_succ, Nat.add_sub_cancel, Nat.sub_self, Nat.zero_add, Nat.reduceAdd, Nat.reduceSub, if_true, if_false, true_and, and_true, Bool.false_eq_true, reduceIte, ↓reduceIte]
  refine ⟨sz_le (by decide), any_ok t1.1 (by decide) (by decide) fun d M2 hd t2 => ?_⟩
  try simp only [sSeq, sSet, sIf, sRet, sDrop, sNil, sRaise, sAsg, sPar2, sPar3, gSet, gTupD, gsCons, gsNil, gSub, wVar, wC, wOp, wB, wTup, wFz, wSt, fLst, fCat, zNil, zCons, wAnd, wOr, wNot, wIf, wTst, uAnd, uOr, uNot, tstOp, wLeLe, uLtLt, wNeg, oAdd, oSub, oMul, oDiv, oMod, oPow, oLt, oLe, oGt, oGe, oCmp, oLen, oAbs, oInt, oMax2, oMin2, oTuple, wIsi, wCall, wIsN, uIsN, startD, lenD, seeD, viewL, List.map_cons, List.map_nil, List.length_cons, List.length_nil, List.replicate, List.cons_append, List.nil_append, List.getElem?_cons_zero, List.getElem?_cons_succ, List.set_cons_zero, List.set_cons_succ, Nat.add_sub_cancel, Nat.sub_self, Nat.zero_add, Nat.reduceAdd, Nat.reduceSub, if_true, if_false, true_and, and_true, Bool.false_eq_true, reduceIte, ↓reduceIte]
  refine spin_ok' t2.1 (by decide) (by decide) fun u M3 u1 u2 t3 => ?_
  refine eq_int ?_
  try simp only [sSeq, sSet, sIf, sRet, sDrop, sNil, sRaise, sAsg, sPar2, sPar3, gSet, gTupD, gsCons, gsNil, gSub, wVar, wC, wOp, wB, wTup, wFz, wSt, fLst, fCat, zNil, zCons, wAnd, wOr, wNot, wIf, wTst, uAnd, uOr, uNot, tstOp, wLeLe, uLtLt, wNeg, oAdd, oSub, oMul, oDiv, oMod, oPow, oLt, oLe, oGt, oGe, oCmp, oLen, oAbs, oInt, oMax2, oMin2, oTuple, wIsi, wCall, wIsN, uIsN, startD, lenD, seeD, viewL, List.map_cons, List.map_nil, List.length_cons, List.length_nil, List.replicate, List.cons_append, List.nil_append, List.getElem?_cons_zero, List.getElem?_cons_succ, List.set_cons_zero, List.set_cons_succ, Nat.add_sub_cancel, Nat.sub_self, Nat.zero_add, Nat.reduceAdd, Nat.reduceSub, if_true, if_false, true_and, and_true, Bool.false_eq_true, reduceIte, ↓reduceIte]
  refine ⟨sz_le (by decide), ?_⟩
  obtain ⟨f, rfl, hf⟩ : ∃ f : Nat, d = .int f ∧ (f = 1 ∨ f = 2 ∨ f = 4) := by
    simp only [List.mem_cons, List.not_mem_nil, or_false] at hd
    rcases hd with h | h | h | h | h
    · exact ⟨1, h, .inl rfl⟩
    · exact ⟨1, h, .inl rfl⟩
    · exact ⟨1, h, .inl rfl⟩
    · exact ⟨2, h, .inr (.inl rfl)⟩
    · exact ⟨4, h, .inr (.inr rfl)⟩
  have e := h ⟨(1 + v).toNat, f, u == 0⟩ M3 ⟨by show 1 ≤ (1 + v).toNat; omega, by show (1 + v).toNat ≤ 4; omega, hf⟩ ((t1.trans t2).trans t3)
  unfold Ring.d at e
  rw [show (((1 + v).toNat : Nat) : Int) = 1 + v by omega] at e
  exact e
end L3.K01
set_option maxRecDepth 100000
set_option maxHeartbeats 1000000
/-! C2: wishes drawn, pairs, cells. -/
namespace L3.K01
open PySem PySem.Spec PyProof.Rows L2 L3 Gl
theorem pure_pair (pq : Pl × Pl) : (D.tup [plD pq.1, plD pq.2]).pure = true := rfl
def pairD (pq : Pl × Pl) : D := .tup [plD pq.1, plD pq.2]
theorem ix_pair0 {p : Pl × Pl} {M : Mem} {Q : D → Prop} : oIx (pairD p) (.int 0) M Q = Q (plD p.1) := rfl
theorem ix_pair1 {p : Pl × Pl} {M : Mem} {Q : D → Prop} : oIx (pairD p) (.int 1) M Q = Q (plD p.2) := rfl
theorem ix_w0 {x : Wish} {M : Mem} {Q : D → Prop} : oIx (wishD x) (.int 0) M Q = Q (.int x.late) := rfl
theorem ix_w1 {x : Wish} {M : Mem} {Q : D → Prop} : oIx (wishD x) (.int 1) M Q = Q (.bl x.back) := rfl
theorem ix_w2 {x : Wish} {M : Mem} {Q : D → Prop} : oIx (wishD x) (.int 2) M Q = Q (.bl x.over) := rfl
theorem ix_r0 {l : Ring} {M : Mem} {Q : D → Prop} : oIx l.d (.int 0) M Q = Q (.int l.r) := rfl
theorem ix_r1 {l : Ring} {M : Mem} {Q : D → Prop} : oIx l.d (.int 1) M Q = Q (.int l.f) := rfl
theorem ix_r2 {l : Ring} {M : Mem} {Q : D → Prop} : oIx l.d (.int 2) M Q = Q (.bl l.t) := rfl
theorem natFn {l : Ring} {n : Nat} : ((l.f * n : Nat) : Int) = (l.f : Int) * (n : Int) := by push_cast; rfl
section
variable {M : Mem} {Q : KD} {E : ExK} {i : Nat}
theorem hope_ok (c : Crank M i) (h : ∀ x M', WishOk x → Turned i M M' → Q (wishD x) M') : C__law_hope [.ref i] M Q E := by
  simp only [Cq__law_hope, b_law_hope, b_law_hope_s1, b_law_hope_s2, sSeq, sSet, sIf, sRet, sDrop, sNil, sRaise, sAsg, sPar2, sPar3, gSet, gTupD, gsCons, gsNil, gSub, wVar, wC, wOp, wB, wTup, wFz, wSt, fLst, fCat, zNil, zCons, wAnd, wOr, wNot, wIf, wTst, uAnd, uOr, uNot, tstOp, wLeLe, uLtLt, wNeg, oSub, oMul, oDiv, oMod, oPow, oLt, oLe, oGt, oGe, oCmp, oAbs, wIsi, wCall, wIsN, uIsN, startD, lenD, viewL, List.map_cons, List.map_nil, List.length_cons, List.length_nil, List.replicate, List.cons_append, List.nil_append, List.getElem?_cons_zero, List.getElem?_cons_succ, List.set_cons_zero, List.set_cons_succ, Nat.add_sub_cancel, Nat.sub_self, Nat.zero_add, Nat.reduceAdd, Nat.reduceSub, if_true, if_false, true_and, and_true, Bool.false_eq_true, reduceIte, ↓reduceIte, min_ii, max_ii, add_ii, add_tt, add_ss, add_ll, len_tup, len_lst, len_scr, len_str, int_int, int_bl, tup_lst, tup_tup, see_non, see_bl, see_int, see_str, see_tup, see_lst, see_dic, see_adr, see_scr, see_kup, ty_non, ty_bl, ty_int, ty_str, ty_tup, ty_lst, ty_kup, reduceCtorEq, nn_non, nn_bl, nn_int, nn_str, nn_tup, nn_lst, nn_dic, wFrz, wSl, oSome, oNone, ixT0, ixT1, ixT2, ixT3, ixL0, ixL1, ixL2, ixL3, eqII, neII, eqBB, neBB, eqPP, nePP, sz0, sz1, sz2, sz3, sz4, sz5, sz6, sz7, sz8, sz9, sz10, sz12, sz1b, sz2b, sz3b, sz4b, Option.bind_some, Bool.not_true, Bool.not_false, decide_eq_true_eq, beq_iff_eq, Bool.not_eq_true', beq_eq_false_iff_ne, ne_eq, kII, kIB, kIT, kIS, kIL, kBI, kBB, kBT, kBS, kBL, kSI, kSB, kST, kSS, kSL, kNI, kNB, kNT, kNS, kNL, kTI, kTB, kTT, kTS, kTL, kLI, kLB, kLT, kLS, kLL]
  refine spin_ok' c (by decide) (by decide) fun v1 M1 v1a v1b t1 => ?_
  try simp only [sSeq, sSet, sIf, sRet, sDrop, sNil, sRaise, sAsg, sPar2, sPar3, gSet, gTupD, gsCons, gsNil, gSub, wVar, wC, wOp, wB, wTup, wFz, wSt, fLst, fCat, zNil, zCons, wAnd, wOr, wNot, wIf, wTst, uAnd, uOr, uNot, tstOp, wLeLe, uLtLt, wNeg, oSub, oMul, oDiv, oMod, oPow, oLt, oLe, oGt, oGe, oCmp, oAbs, wIsi, wCall, wIsN, uIsN, startD, lenD, viewL, List.map_cons, List.map_nil, List.length_cons, List.length_nil, List.replicate, List.cons_append, List.nil_append, List.getElem?_cons_zero, List.getElem?_cons_succ, List.set_cons_zero, List.set_cons_succ, Nat.add_sub_cancel, Nat.sub_self, Nat.zero_add, Nat.reduceAdd, Nat.reduceSub, if_true, if_false, true_and, and_true, Bool.false_eq_true, reduceIte, ↓reduceIte, min_ii, max_ii, add_ii, add_tt, add_ss, add_ll, len_tup, len_lst, len_scr, len_str, int_int, int_bl, tup_lst, tup_tup, see_non, see_bl, see_int, see_str, see_tup, see_lst, see_dic, see_adr, see_scr, see_kup, ty_non, ty_bl, ty_int, ty_str, ty_tup, ty_lst, ty_kup, reduceCtorEq, nn_non, nn_bl, nn_int, nn_str, nn_tup, nn_lst, nn_dic, wFrz, wSl, oSome, oNone, ixT0, ixT1, ixT2, ixT3, ixL0, ixL1, ixL2, ixL3, eqII, neII, eqBB, neBB, eqPP, nePP, sz0, sz1, sz2, sz3, sz4, sz5, sz6, sz7, sz8, sz9, sz10, sz12, sz1b, sz2b, sz3b, sz4b, Option.bind_some, Bool.not_true, Bool.not_false, decide_eq_true_eq, beq_iff_eq, Bool.not_eq_true', beq_eq_false_iff_ne, ne_eq, kII, kIB, kIT, kIS, kIL, kBI, kBB, kBT, kBS, kBL, kSI, kSB, kST, kSS, kSL, kNI, kNB, kNT, kNS, kNL, kTI, kTB, kTT, kTS, kTL, kLI, kLB, kLT, kLS, kLL]
  refine spin_ok' t1.1 (by decide) (by decide) fun v2 M2 v2a v2b t2 => ?_
  try simp only [sSeq, sSet, sIf, sRet, sDrop, sNil, sRaise, sAsg, sPar2, sPar3, gSet, gTupD, gsCons, gsNil, gSub, wVar, wC, wOp, wB, wTup, wFz, wSt, fLst, fCat, zNil, zCons, wAnd, wOr, wNot, wIf, wTst, uAnd, uOr, uNot, tstOp, wLeLe, uLtLt, wNeg, oSub, oMul, oDiv, oMod, oPow, oLt, oLe, oGt, oGe, oCmp, oAbs, wIsi, wCall, wIsN, uIsN, startD, lenD, viewL, List.map_cons, List.map_nil, List.length_cons, List.length_nil, List.replicate, List.cons_append, List.nil_append, List.getElem?_cons_zero, List.getElem?_cons_succ, List.set_cons_zero, List.set_cons_succ, Nat.add_sub_cancel, Nat.sub_self, Nat.zero_add, Nat.reduceAdd, Nat.reduceSub, if_true, if_false, true_and, and_true, Bool.false_eq_true, reduceIte, ↓reduceIte, min_ii, max_ii, add_ii, add_tt, add_ss, add_ll, len_tup, len_lst, len_scr, len_str, int_int, int_bl, tup_lst, tup_tup, see_non, see_bl, see_int, see_str, see_tup, see_lst, see_dic, see_adr, see_scr, see_kup, ty_non, ty_bl, ty_int, ty_str, ty_tup, ty_lst, ty_kup, reduceCtorEq, nn_non, nn_bl, nn_int, nn_str, nn_tup, nn_lst, nn_dic, wFrz, wSl, oSome, oNone, ixT0, ixT1, ixT2, ixT3, ixL0, ixL1, ixL2, ixL3, eqII, neII, eqBB, neBB, eqPP, nePP, sz0, sz1, sz2, sz3, sz4, sz5, sz6, sz7, sz8, sz9, sz10, sz12, sz1b, sz2b, sz3b, sz4b, Option.bind_some, Bool.not_true, Bool.not_false, decide_eq_true_eq, beq_iff_eq, Bool.not_eq_true', beq_eq_false_iff_ne, ne_eq, kII, kIB, kIT, kIS, kIL, kBI, kBB, kBT, kBS, kBL, kSI, kSB, kST, kSS, kSL, kNI, kNB, kNT, kNS, kNL, kTI, kTB, kTT, kTS, kTL, kLI, kLB, kLT, kLS, kLL]
  refine spin_ok' t2.1 (by decide) (by decide) fun v3 M3 v3a v3b t3 => ?_
  try simp only [sSeq, sSet, sIf, sRet, sDrop, sNil, sRaise, sAsg, sPar2, sPar3, gSet, gTupD, gsCons, gsNil, gSub, wVar, wC, wOp, wB, wTup, wFz, wSt, fLst, fCat, zNil, zCons, wAnd, wOr, wNot, wIf, wTst, uAnd, uOr, uNot, tstOp, wLeLe, uLtLt, wNeg, oSub, oMul, oDiv, oMod, oPow, oLt, oLe, oGt, oGe, oCmp, oAbs, wIsi, wCall, wIsN, uIsN, startD, lenD, viewL, List.map_cons, List.map_nil, List.length_cons, List.length_nil, List.replicate, List.cons_append, List.nil_append, List.getElem?_cons_zero, List.getElem?_cons_succ, List.set_cons_zero, List.set_cons_succ, Nat.add_sub_cancel, Nat.sub_self, Nat.zero_add, Nat.reduceAdd, Nat.reduceSub, if_true, if_false, true_and, and_true, Bool.false_eq_true, reduceIte, ↓reduceIte, min_ii, max_ii, add_ii, add_tt, add_ss, add_ll, len_tup, len_lst, len_scr, len_str, int_int, int_bl, tup_lst, tup_tup, see_non, see_bl, see_int, see_str, see_tup, see_lst, see_dic, see_adr, see_scr, see_kup, ty_non, ty_bl, ty_int, ty_str, ty_tup, ty_lst, ty_kup, reduceCtorEq, nn_non, nn_bl, nn_int, nn_str, nn_tup, nn_lst, nn_dic, wFrz, wSl, oSome, oNone, ixT0, ixT1, ixT2, ixT3, ixL0, ixL1, ixL2, ixL3, eqII, neII, eqBB, neBB, eqPP, nePP, sz0, sz1, sz2, sz3, sz4, sz5, sz6, sz7, sz8, sz9, sz10, sz12, sz1b, sz2b, sz3b, sz4b, Option.bind_some, Bool.not_true, Bool.not_false, decide_eq_true_eq, beq_iff_eq, Bool.not_eq_true', beq_eq_false_iff_ne, ne_eq, kII, kIB, kIT, kIS, kIL, kBI, kBB, kBT, kBS, kBL, kSI, kSB, kST, kSS, kSL, kNI, kNB, kNT, kNS, kNL, kTI, kTB, kTT, kTS, kTL, kLI, kLB, kLT, kLS, kLL]
  refine ⟨mul_sm (.of (by decide) (by decide)) (.of (by omega) (by omega)), ?_⟩
  refine any_ok t3.1 (by simp) (by simp) fun d M4 hd t4 => ?_
  obtain ⟨late, rfl, hlate⟩ : ∃ late : Int, d = .int late ∧ (-12 ≤ late ∧ late ≤ 12) := by
    simp only [List.mem_cons, List.not_mem_nil, or_false] at hd
    rcases hd with e | e | e | e | e
    · exact ⟨_, e, by omega, by omega⟩
    · exact ⟨_, e, by omega, by omega⟩
    · exact ⟨_, e, by omega, by omega⟩
    · exact ⟨_, e, by omega, by omega⟩
    · exact ⟨_, e, by omega, by omega⟩
  try simp only [sSeq, sSet, sIf, sRet, sDrop, sNil, sRaise, sAsg, sPar2, sPar3, gSet, gTupD, gsCons, gsNil, gSub, wVar, wC, wOp, wB, wTup, wFz, wSt, fLst, fCat, zNil, zCons, wAnd, wOr, wNot, wIf, wTst, uAnd, uOr, uNot, tstOp, wLeLe, uLtLt, wNeg, oSub, oMul, oDiv, oMod, oPow, oLt, oLe, oGt, oGe, oCmp, oAbs, wIsi, wCall, wIsN, uIsN, startD, lenD, viewL, List.map_cons, List.map_nil, List.length_cons, List.length_nil, List.replicate, List.cons_append, List.nil_append, List.getElem?_cons_zero, List.getElem?_cons_succ, List.set_cons_zero, List.set_cons_succ, Nat.add_sub_cancel, Nat.sub_self, Nat.zero_add, Nat.reduceAdd, Nat.reduceSub, if_true, if_false, true_and, and_true, Bool.false_eq_true, reduceIte, ↓reduceIte, min_ii, max_ii, add_ii, add_tt, add_ss, add_ll, len_tup, len_lst, len_scr, len_str, int_int, int_bl, tup_lst, tup_tup, see_non, see_bl, see_int, see_str, see_tup, see_lst, see_dic, see_adr, see_scr, see_kup, ty_non, ty_bl, ty_int, ty_str, ty_tup, ty_lst, ty_kup, reduceCtorEq, nn_non, nn_bl, nn_int, nn_str, nn_tup, nn_lst, nn_dic, wFrz, wSl, oSome, oNone, ixT0, ixT1, ixT2, ixT3, ixL0, ixL1, ixL2, ixL3, eqII, neII, eqBB, neBB, eqPP, nePP, sz0, sz1, sz2, sz3, sz4, sz5, sz6, sz7, sz8, sz9, sz10, sz12, sz1b, sz2b, sz3b, sz4b, Option.bind_some, Bool.not_true, Bool.not_false, decide_eq_true_eq, beq_iff_eq, Bool.not_eq_true', beq_eq_false_iff_ne, ne_eq, kII, kIB, kIT, kIS, kIL, kBI, kBB, kBT, kBS, kBL, kSI, kSB, kST, kSS, kSL, kNI, kNB, kNT, kNS, kNL, kTI, kTB, kTT, kTS, kTL, kLI, kLB, kLT, kLS, kLL]
  refine spin_ok' t4.1 (by decide) (by decide) fun v5 M5 _ _ t5 => ?_
  try simp only [sSeq, sSet, sIf, sRet, sDrop, sNil, sRaise, sAsg, sPar2, sPar3, gSet, gTupD, gsCons, gsNil, gSub, wVar, wC, wOp, wB, wTup, wFz, wSt, fLst, fCat, zNil, zCons, wAnd, wOr, wNot, wIf, wTst, uAnd, uOr, uNot, tstOp, wLeLe, uLtLt, wNeg, oSub, oMul, oDiv, oMod, oPow, oLt, oLe, oGt, oGe, oCmp, oAbs, wIsi, wCall, wIsN, uIsN, startD, lenD, viewL, List.map_cons, List.map_nil, List.length_cons, List.length_nil, List.replicate, List.cons_append, List.nil_append, List.getElem?_cons_zero, List.getElem?_cons_succ, List.set_cons_zero, List.set_cons_succ, Nat.add_sub_cancel, Nat.sub_self, Nat.zero_add, Nat.reduceAdd, Nat.reduceSub, if_true, if_false, true_and, and_true, Bool.false_eq_true, reduceIte, ↓reduceIte, min_ii, max_ii, add_ii, add_tt, add_ss, add_ll, len_tup, len_lst, len_scr, len_str, int_int, int_bl, tup_lst, tup_tup, see_non, see_bl, see_int, see_str, see_tup, see_lst, see_dic, see_adr, see_scr, see_kup, ty_non, ty_bl, ty_int, ty_str, ty_tup, ty_lst, ty_kup, reduceCtorEq, nn_non, nn_bl, nn_int, nn_str, nn_tup, nn_lst, nn_dic, wFrz, wSl, oSome, oNone, ixT0, ixT1, ixT2, ixT3, ixL0, ixL1, ixL2, ixL3, eqII, neII, eqBB, neBB, eqPP, nePP, sz0, sz1, sz2, sz3, sz4, sz5, sz6, sz7, sz8, sz9, sz10, sz12, sz1b, sz2b, sz3b, sz4b, Option.bind_some, Bool.not_true, Bool.not_false, decide_eq_true_eq, beq_iff_eq, Bool.not_eq_true', beq_eq_false_iff_ne, ne_eq, kII, kIB, kIT, kIS, kIL, kBI, kBB, kBT, kBS, kBL, kSI, kSB, kST, kSS, kSL, kNI, kNB, kNT, kNS, kNL, kTI, kTB, kTT, kTS, kTL, kLI, kLB, kLT, kLS, kLL]
  refine spin_ok' t5.1 (by decide) (by decide) fun v6 M6 _ _ t6 => ?_
  try simp only [sSeq, sSet, sIf, sRet, sDrop, sNil, sRaise, sAsg, sPar2, sPar3, gSet, gTupD, gsCons, gsNil, gSub, wVar, wC, wOp, wB, wTup, wFz, wSt, fLst, fCat, zNil, zCons, wAnd, wOr, wNot, wIf, wTst, uAnd, uOr, uNot, tstOp, wLeLe, uLtLt, wNeg, oSub, oMul, oDiv, oMod, oPow, oLt, oLe, oGt, oGe, oCmp, oAbs, wIsi, wCall, wIsN, uIsN, startD, lenD, viewL, List.map_cons, List.map_nil, List.length_cons, List.length_nil, List.replicate, List.cons_append, List.nil_append, List.getElem?_cons_zero, List.getElem?_cons_succ, List.set_cons_zero, List.set_cons_succ, Nat.add_sub_cancel, Nat.sub_self, Nat.zero_add, Nat.reduceAdd, Nat.reduceSub, if_true, if_false, true_and, and_true, Bool.false_eq_true, reduceIte, ↓reduceIte, min_ii, max_ii, add_ii, add_tt, add_ss, add_ll, len_tup, len_lst, len_scr, len_str, int_int, int_bl, tup_lst, tup_tup, see_non, see_bl, see_int, see_str, see_tup, see_lst, see_dic, see_adr, see_scr, see_kup, ty_non, ty_bl, ty_int, ty_str, ty_tup, ty_lst, ty_kup, reduceCtorEq, nn_non, nn_bl, nn_int, nn_str, nn_tup, nn_lst, nn_dic, wFrz, wSl, oSome, oNone, ixT0, ixT1, ixT2, ixT3, ixL0, ixL1, ixL2, ixL3, eqII, neII, eqBB, neBB, eqPP, nePP, sz0, sz1, sz2, sz3, sz4, sz5, sz6, sz7, sz8, sz9, sz10, sz12, sz1b, sz2b, sz3b, sz4b, Option.bind_some, Bool.not_true, Bool.not_false, decide_eq_true_eq, beq_iff_eq, Bool.not_eq_true', beq_eq_false_iff_ne, ne_eq, kII, kIB, kIT, kIS, kIL, kBI, kBB, kBT, kBS, kBL, kSI, kSB, kST, kSS, kSL, kNI, kNB, kNT, kNS, kNL, kTI, kTB, kTT, kTS, kTL, kLI, kLB, kLT, kLS, kLL]
  exact h ⟨late, v5 == 0, v6 == 0⟩ M6 hlate (((((t1.trans t2).trans t3).trans t4).trans t5).trans t6)
theorem is_told_ok {a b : Bool} (h : Q (.bl (a == b)) M) : C__law_is_told [.bl a, .bl b] M Q E := by
  simp only [Cq__law_is_told, b_law_is_told, b_law_is_told_s1, sSeq, sSet, sIf, sRet, sDrop, sNil, sRaise, sAsg, sPar2, sPar3, gSet, gTupD, gsCons, gsNil, gSub, wVar, wC, wOp, wB, wTup, wFz, wSt, fLst, fCat, zNil, zCons, wAnd, wOr, wNot, wIf, wTst, uAnd, uOr, uNot, tstOp, wLeLe, uLtLt, wNeg, oSub, oMul, oDiv, oMod, oPow, oLt, oLe, oGt, oGe, oCmp, oAbs, wIsi, wCall, wIsN, uIsN, startD, lenD, viewL, List.map_cons, List.map_nil, List.length_cons, List.length_nil, List.replicate, List.cons_append, List.nil_append, List.getElem?_cons_zero, List.getElem?_cons_succ, List.set_cons_zero, List.set_cons_succ, Nat.add_sub_cancel, Nat.sub_self, Nat.zero_add, Nat.reduceAdd, Nat.reduceSub, if_true, if_false, true_and, and_true, Bool.false_eq_true, reduceIte, ↓reduceIte, min_ii, max_ii, add_ii, add_tt, add_ss, add_ll, len_tup, len_lst, len_scr, len_str, int_int, int_bl, tup_lst, tup_tup, see_non, see_bl, see_int, see_str, see_tup, see_lst, see_dic, see_adr, see_scr, see_kup, ty_non, ty_bl, ty_int, ty_str, ty_tup, ty_lst, ty_kup, reduceCtorEq, nn_non, nn_bl, nn_int, nn_str, nn_tup, nn_lst, nn_dic, wFrz, wSl, oSome, oNone, ixT0, ixT1, ixT2, ixT3, ixL0, ixL1, ixL2, ixL3, eqII, neII, eqBB, neBB, eqPP, nePP, sz0, sz1, sz2, sz3, sz4, sz5, sz6, sz7, sz8, sz9, sz10, sz12, sz1b, sz2b, sz3b, sz4b, Option.bind_some, Bool.not_true, Bool.not_false, decide_eq_true_eq, beq_iff_eq, Bool.not_eq_true', beq_eq_false_iff_ne, ne_eq, kII, kIB, kIT, kIS, kIL, kBI, kBB, kBT, kBS, kBL, kSI, kSB, kST, kSS, kSL, kNI, kNB, kNT, kNS, kNL, kTI, kTB, kTT, kTS, kTL, kLI, kLB, kLT, kLS, kLL]
  exact h
end
end L3.K01
set_option maxRecDepth 100000
set_option maxHeartbeats 1000000
/-! Z1: any values. -/
namespace L3.K01
open PySem PySem.Spec PyProof.Rows L2 L3 Gl
mutual
/-- data with rows of at most N items, of numbers to B -/
def thB (N : Nat) (B : Int) : D → Bool
  | .non => true
  | .bl _ => true
  | .int i => decide (-B ≤ i ∧ i ≤ B)
  | .str _ => true
  | .tup ds => decide (ds.length ≤ N) && thBs N B ds
  | .lst ds => decide (ds.length ≤ N) && thBs N B ds
  | .dic _ => false
  | .ref _ => false
  | .adr _ => false
  | .scr _ => false
  | .kup _ => false
def thBs (N : Nat) (B : Int) : List D → Bool
  | [] => true
  | d :: ds => thB N B d && thBs N B ds
end
theorem ths_iff {N : Nat} {B : Int} : ∀ {ds : List D}, thBs N B ds = true ↔ ∀ d ∈ ds, thB N B d = true
  | [] => ⟨fun _ d h => (by cases h), fun _ => rfl⟩
  | d :: ds => by
    show (thB N B d && thBs N B ds) = true ↔ _
    rw [Bool.and_eq_true, ths_iff (ds := ds)]
    constructor
    · rintro ⟨h1, h2⟩ x hx
      rcases List.mem_cons.mp hx with rfl | hx
      · exact h1
      · exact h2 x hx
    · exact fun h => ⟨h d List.mem_cons_self, fun x hx => h x (List.mem_cons_of_mem _ hx)⟩
theorem th_tup {N : Nat} {B : Int} {ds : List D} : thB N B (.tup ds) = true ↔ ds.length ≤ N ∧ ∀ d ∈ ds, thB N B d = true := by
  show (decide (ds.length ≤ N) && thBs N B ds) = true ↔ _
  rw [Bool.and_eq_true, decide_eq_true_eq, ths_iff]
theorem th_lst {N : Nat} {B : Int} {ds : List D} : thB N B (.lst ds) = true ↔ ds.length ≤ N ∧ ∀ d ∈ ds, thB N B d = true := by
  show (decide (ds.length ≤ N) && thBs N B ds) = true ↔ _
  rw [Bool.and_eq_true, decide_eq_true_eq, ths_iff]
theorem th_int {N : Nat} {B i : Int} : thB N B (.int i) = true ↔ -B ≤ i ∧ i ≤ B := decide_eq_true_iff
mutual
theorem th_pure {N : Nat} {B : Int} : ∀ (d : D), thB N B d = true → d.pure = true
  | .non, _ => rfl
  | .bl _, _ => rfl
  | .int _, _ => rfl
  | .str _, _ => rfl
  | .tup ds, h => by
    have h : (decide (ds.length ≤ N) && thBs N B ds) = true := h
    rw [Bool.and_eq_true] at h
    exact ths_pure ds h.2
  | .lst ds, h => by
    have h : (decide (ds.length ≤ N) && thBs N B ds) = true := h
    rw [Bool.and_eq_true] at h
    exact ths_pure ds h.2
  | .dic _, h => nomatch h
  | .ref _, h => nomatch h
  | .adr _, h => nomatch h
  | .scr _, h => nomatch h
  | .kup _, h => nomatch h
theorem ths_pure {N : Nat} {B : Int} : ∀ (ds : List D), thBs N B ds = true → D.pures ds = true
  | [], _ => rfl
  | d :: ds, h => by
    have h : (thB N B d && thBs N B ds) = true := h
    rw [Bool.and_eq_true] at h
    show (d.pure && D.pures ds) = true
    rw [th_pure d h.1, ths_pure ds h.2]; rfl
end
mutual
theorem th_mono {N N' : Nat} {B B' : Int} (hN : N ≤ N') (hB : B ≤ B') : ∀ (d : D), thB N B d = true → thB N' B' d = true
  | .non, _ => rfl
  | .bl _, _ => rfl
  | .int i, h => by rw [th_int] at h ⊢; omega
  | .str _, _ => rfl
  | .tup ds, h => by
    have h : (decide (ds.length ≤ N) && thBs N B ds) = true := h
    rw [Bool.and_eq_true, decide_eq_true_eq] at h
    show (decide (ds.length ≤ N') && thBs N' B' ds) = true
    rw [decide_eq_true (by omega), ths_mono hN hB ds h.2]; rfl
  | .lst ds, h => by
    have h : (decide (ds.length ≤ N) && thBs N B ds) = true := h
    rw [Bool.and_eq_true, decide_eq_true_eq] at h
    show (decide (ds.length ≤ N') && thBs N' B' ds) = true
    rw [decide_eq_true (by omega), ths_mono hN hB ds h.2]; rfl
  | .dic _, h => nomatch h
  | .ref _, h => nomatch h
  | .adr _, h => nomatch h
  | .scr _, h => nomatch h
  | .kup _, h => nomatch h
theorem ths_mono {N N' : Nat} {B B' : Int} (hN : N ≤ N') (hB : B ≤ B') : ∀ (ds : List D), thBs N B ds = true → thBs N' B' ds = true
  | [], _ => rfl
  | d :: ds, h => by
    have h : (thB N B d && thBs N B ds) = true := h
    rw [Bool.and_eq_true] at h
    show (thB N' B' d && thBs N' B' ds) = true
    rw [th_mono hN hB d h.1, ths_mono hN hB ds h.2]; rfl
end
abbrev B38 : Int := 100000000000000000000000000000000000000
theorem p38 : (10 : Int) ^ Int.toNat 38 = B38 := by decide +kernel
section
variable {M : Mem} {Q : KD} {E : ExK} {i : Nat}
def stuffs : List D := [.int 0, .int 1, .int 2, .int 3, .int 4, .int 5, .int (-1), .int 12, .int 13, .bl true, .bl false, .non, .str "", .str "loop", .int B38, .tup [], .lst [], .tup [.int 2, .int 1, .bl false], .tup [.int 3, .bl false, .bl false], .tup [.int 0, .int 0], .tup [.int 1, .int 1]]
theorem stuffs_th : ∀ d ∈ stuffs, thB 20 B38 d = true := by
  have h : stuffs.all (thB 20 B38) = true := by decide +kernel
  exact fun d hd => List.all_eq_true.mp h d hd
theorem stuff_one {rc : CtD} {deep : Int} {x2 x3 x4 : Option L3.D} (c : Crank M i) {D : EndsD} (h : ∀ d M', thB 20 B38 d = true → Turned i M M' → D.rt d M') : (sSeq (b_law_stuff_s1 rc) (b_law_stuff_s2 rc)) [some (.ref i), some (.int deep), x2, x3, x4] M D E := by
  simp only [b_law_stuff_s1, b_law_stuff_s2, sSeq, sSet, sIf, sRet, sDrop, sNil, sRaise, sAsg, sPar2, sPar3, gSet, gTupD, gsCons, gsNil, gSub, wVar, wC, wOp, wB, wTup, wFz, wSt, fLst, fCat, zNil, zCons, wAnd, wOr, wNot, wIf, wTst, uAnd, uOr, uNot, tstOp, wLeLe, uLtLt, wNeg, oSub, oMul, oDiv, oMod, oPow, oLt, oLe, oGt, oGe, oCmp, oAbs, wIsi, wCall, wIsN, uIsN, startD, lenD, viewL, List.map_cons, List.map_nil, List.length_cons, List.length_nil, List.replicate, List.cons_append, List.nil_append, List.getElem?_cons_zero, List.getElem?_cons_succ, List.set_cons_zero, List.set_cons_succ, Nat.add_sub_cancel, Nat.sub_self, Nat.zero_add, Nat.reduceAdd, Nat.reduceSub, if_true, if_false, true_and, and_true, Bool.false_eq_true, reduceIte, ↓reduceIte, min_ii, max_ii, add_ii, add_tt, add_ss, add_ll, len_tup, len_lst, len_scr, len_str, int_int, int_bl, tup_lst, tup_tup, see_non, see_bl, see_int, see_str, see_tup, see_lst, see_dic, see_adr, see_scr, see_kup, ty_non, ty_bl, ty_int, ty_str, ty_tup, ty_lst, ty_kup, reduceCtorEq, nn_non, nn_bl, nn_int, nn_str, nn_tup, nn_lst, nn_dic, wFrz, wSl, oSome, oNone, ixT0, ixT1, ixT2, ixT3, ixL0, ixL1, ixL2, ixL3, eqII, neII, eqBB, neBB, eqPP, nePP, sz0, sz1, sz2, sz3, sz4, sz5, sz6, sz7, sz8, sz9, sz10, sz12, sz1b, sz2b, sz3b, sz4b, Option.bind_some, Bool.not_true, Bool.not_false, decide_eq_true_eq, beq_iff_eq, Bool.not_eq_true', beq_eq_false_iff_ne, ne_eq, kII, kIB, kIT, kIS, kIL, kBI, kBB, kBT, kBS, kBL, kSI, kSB, kST, kSS, kSL, kNI, kNB, kNT, kNS, kNL, kTI, kTB, kTT, kTS, kTL, kLI, kLB, kLT, kLS, kLL]
  refine ⟨cpow_ok (by decide) (by decide), ?_⟩
  rw [p38]
  refine ⟨sz_le (by decide), sz_le (by decide), ?_⟩
  refine any_ok c (by decide) (by decide) fun d M' hd t => h d M' (stuffs_th d ?_) t
  exact hd
theorem stuff_turns {rc : CtD} {deep : Int} (ih : ∀ (M : Mem) (Q : KD) (E : ExK), Crank M i → (∀ d M', thB 20 B38 d = true → Turned i M M' → Q d M') → rc [.ref i, .int (deep - 1)] M Q E) {x2 x3 x4 : Option L3.D} {Q' : List L3.D → Mem → Prop} : ∀ (items acc : List L3.D) (M : Mem), Crank M i → acc.length + items.length ≤ 100 → (∀ x ∈ acc, thB 20 B38 x = true) →
    (∀ (ds : List L3.D) (M' : Mem), ds.length = acc.length + items.length → (∀ x ∈ ds, thB 20 B38 x = true) → Turned i M M' → Q' ds M') →
    cTurns (cSet 4) uYes (wCall 2 rc (zCons (wVar 0) (zCons (wOp oSub (wVar 1) (wC (.int 1))) zNil))) items acc [some (.ref i), some (.int deep), x2, x3, x4] M Q'
  | [], acc, M, c, _, ha, h => h acc M (by simp) ha (.refl c)
  | d :: items, acc, M, c, hz, ha, h => by
    show wCall 2 rc (zCons (wVar 0) (zCons (wOp oSub (wVar 1) (wC (.int 1))) zNil)) [some (.ref i), some (.int deep), x2, x3, some d] M _ noE
    simp only [sSeq, sSet, sIf, sRet, sDrop, sNil, sRaise, sAsg, sPar2, sPar3, gSet, gTupD, gsCons, gsNil, gSub, wVar, wC, wOp, wB, wTup, wFz, wSt, fLst, fCat, zNil, zCons, wAnd, wOr, wNot, wIf, wTst, uAnd, uOr, uNot, tstOp, wLeLe, uLtLt, wNeg, oSub, oMul, oDiv, oMod, oPow, oLt, oLe, oGt, oGe, oCmp, oAbs, wIsi, wCall, wIsN, uIsN, startD, lenD, viewL, List.map_cons, List.map_nil, List.length_cons, List.length_nil, List.replicate, List.cons_append, List.nil_append, List.getElem?_cons_zero, List.getElem?_cons_succ, List.set_cons_zero, List.set_cons_succ, Nat.add_sub_cancel, Nat.sub_self, Nat.zero_add, Nat.reduceAdd, Nat.reduceSub, if_true, if_false, true_and, and_true, Bool.false_eq_true, reduceIte, ↓reduceIte, min_ii, max_ii, add_ii, add_tt, add_ss, add_ll, len_tup, len_lst, len_scr, len_str, int_int, int_bl, tup_lst, tup_tup, see_non, see_bl, see_int, see_str, see_tup, see_lst, see_dic, see_adr, see_scr, see_kup, ty_non, ty_bl, ty_int, ty_str, ty_tup, ty_lst, ty_kup, reduceCtorEq, nn_non, nn_bl, nn_int, nn_str, nn_tup, nn_lst, nn_dic, wFrz, wSl, oSome, oNone, ixT0, ixT1, ixT2, ixT3, ixL0, ixL1, ixL2, ixL3, eqII, neII, eqBB, neBB, eqPP, nePP, sz0, sz1, sz2, sz3, sz4, sz5, sz6, sz7, sz8, sz9, sz10, sz12, sz1b, sz2b, sz3b, sz4b, Option.bind_some, Bool.not_true, Bool.not_false, decide_eq_true_eq, beq_iff_eq, Bool.not_eq_true', beq_eq_false_iff_ne, ne_eq, kII, kIB, kIT, kIS, kIL, kBI, kBB, kBT, kBS, kBL, kSI, kSB, kST, kSS, kSL, kNI, kNB, kNT, kNS, kNL, kTI, kTB, kTT, kTS, kTL, kLI, kLB, kLT, kLS, kLL]
    refine ih _ _ _ c fun x M1 hx t => ⟨sz_lt (by simp at hz; omega), ?_⟩
    refine stuff_turns ih items (acc ++ [x]) M1 t.1 (by simp at hz ⊢; omega) (fun y hy => ?_) fun ds M' h1 h2 t' => h ds M' (by rw [h1]; simp; omega) h2 (t.trans t')
    rcases List.mem_append.mp hy with z | z
    · exact ha y z
    · rw [List.mem_singleton.mp z]; exact hx
theorem stuff_all : ∀ (n deep : Nat), deep < n → ∀ (M : Mem) (Q : KD) (E : ExK), Crank M i → (∀ d M', thB 20 B38 d = true → Turned i M M' → Q d M') → R__law_stuff n [.ref i, .int (deep : Nat)] M Q E
  | 0, deep, hd, _, _, _, _, _ => absurd hd (by omega)
  | n + 1, deep, hd, M, Q, E, c, h => by
    rw [Rs__law_stuff]
    show b_law_stuff (R__law_stuff n) [some (.ref i), some (.int (deep : Nat)), none, none, none] M _ E
    have one := fun {M : Mem} {D : EndsD} c h => stuff_one (M := M) (E := E) (D := D) (i := i) (rc := R__law_stuff n) (deep := (deep : Nat)) (x2 := none) (x3 := none) (x4 := none) c h
    have rest : deep ≠ 0 → ∀ (M1 : Mem) (D : EndsD), Crank M1 i → (∀ d M', thB 20 B38 d = true → Turned i M1 M' → D.rt d M') → (sSeq (b_law_stuff_s4 (R__law_stuff n)) (b_law_stuff_s5 (R__law_stuff n))) [some (.ref i), some (.int (deep : Nat)), none, none, none] M1 D E := fun h0 M1 D c1 h1 => by
      have ih := stuff_all n (deep - 1) (by omega)
      rw [show ((deep - 1 : Nat) : Int) = (deep : Int) - 1 by omega] at ih
      simp only [b_law_stuff_s4, fLc, iRange1, wipeD, sSeq, sSet, sIf, sRet, sDrop, sNil, sRaise, sAsg, sPar2, sPar3, gSet, gTupD, gsCons, gsNil, gSub, wVar, wC, wOp, wB, wTup, wFz, wSt, fLst, fCat, zNil, zCons, wAnd, wOr, wNot, wIf, wTst, uAnd, uOr, uNot, tstOp, wLeLe, uLtLt, wNeg, oSub, oMul, oDiv, oMod, oPow, oLt, oLe, oGt, oGe, oCmp, oAbs, wIsi, wCall, wIsN, uIsN, startD, lenD, viewL, List.map_cons, List.map_nil, List.length_cons, List.length_nil, List.replicate, List.cons_append, List.nil_append, List.getElem?_cons_zero, List.getElem?_cons_succ, List.set_cons_zero, List.set_cons_succ, Nat.add_sub_cancel, Nat.sub_self, Nat.zero_add, Nat.reduceAdd, Nat.reduceSub, if_true, if_false, true_and, and_true, Bool.false_eq_true, reduceIte, ↓reduceIte, min_ii, max_ii, add_ii, add_tt, add_ss, add_ll, len_tup, len_lst, len_scr, len_str, int_int, int_bl, tup_lst, tup_tup, see_non, see_bl, see_int, see_str, see_tup, see_lst, see_dic, see_adr, see_scr, see_kup, ty_non, ty_bl, ty_int, ty_str, ty_tup, ty_lst, ty_kup, reduceCtorEq, nn_non, nn_bl, nn_int, nn_str, nn_tup, nn_lst, nn_dic, wFrz, wSl, oSome, oNone, ixT0, ixT1, ixT2, ixT3, ixL0, ixL1, ixL2, ixL3, eqII, neII, eqBB, neBB, eqPP, nePP, sz0, sz1, sz2, sz3, sz4, sz5, sz6, sz7, sz8, sz9, sz10, sz12, sz1b, sz2b, sz3b, sz4b, Option.bind_some, Bool.not_true, Bool.not_false, decide_eq_true_eq, beq_iff_eq, Bool.not_eq_true', beq_eq_false_iff_ne, ne_eq, kII, kIB, kIT, kIS, kIL, kBI, kBB, kBT, kBS, kBL, kSI, kSB, kST, kSS, kSL, kNI, kNB, kNT, kNS, kNL, kTI, kTB, kTT, kTS, kTL, kLI, kLB, kLT, kLS, kLL]
      refine spin_ok' c1 (by decide) (by decide) fun v M2 v1 v2 t2 => ?_
      refine ⟨by omega, by omega, ?_⟩
      refine stuff_turns ih (rangeD 0 v.toNat) [] M2 t2.1 (by unfold rangeD; simp; omega) (fun x hx => by cases hx) fun ds M3 d1 d2 t3 => ?_
      have d3 : ds.length ≤ 4 := by rw [d1]; unfold rangeD; simp; omega
      simp only [b_law_stuff_s5, sSeq, sSet, sIf, sRet, sDrop, sNil, sRaise, sAsg, sPar2, sPar3, gSet, gTupD, gsCons, gsNil, gSub, wVar, wC, wOp, wB, wTup, wFz, wSt, fLst, fCat, zNil, zCons, wAnd, wOr, wNot, wIf, wTst, uAnd, uOr, uNot, tstOp, wLeLe, uLtLt, wNeg, oSub, oMul, oDiv, oMod, oPow, oLt, oLe, oGt, oGe, oCmp, oAbs, wIsi, wCall, wIsN, uIsN, startD, lenD, viewL, List.map_cons, List.map_nil, List.length_cons, List.length_nil, List.replicate, List.cons_append, List.nil_append, List.getElem?_cons_zero, List.getElem?_cons_succ, List.set_cons_zero, List.set_cons_succ, Nat.add_sub_cancel, Nat.sub_self, Nat.zero_add, Nat.reduceAdd, Nat.reduceSub, if_true, if_false, true_and, and_true, Bool.false_eq_true, reduceIte, ↓reduceIte, min_ii, max_ii, add_ii, add_tt, add_ss, add_ll, len_tup, len_lst, len_scr, len_str, int_int, int_bl, tup_lst, tup_tup, see_non, see_bl, see_int, see_str, see_tup, see_lst, see_dic, see_adr, see_scr, see_kup, ty_non, ty_bl, ty_int, ty_str, ty_tup, ty_lst, ty_kup, reduceCtorEq, nn_non, nn_bl, nn_int, nn_str, nn_tup, nn_lst, nn_dic, wFrz, wSl, oSome, oNone, ixT0, ixT1, ixT2, ixT3, ixL0, ixL1, ixL2, ixL3, eqII, neII, eqBB, neBB, eqPP, nePP, sz0, sz1, sz2, sz3, sz4, sz5, sz6, sz7, sz8, sz9, sz10, sz12, sz1b, sz2b, sz3b, sz4b, Option.bind_some, Bool.not_true, Bool.not_false, decide_eq_true_eq, beq_iff_eq, Bool.not_eq_true', beq_eq_false_iff_ne, ne_eq, kII, kIB, kIT, kIS, kIL, kBI, kBB, kBT, kBS, kBL, kSI, kSB, kST, kSS, kSL, kNI, kNB, kNT, kNS, kNL, kTI, kTB, kTT, kTS, kTL, kLI, kLB, kLT, kLS, kLL]
      refine spin_ok' t3.1 (by decide) (by decide) fun u M4 u1 u2 t4 => ?_
      try simp only [sSeq, sSet, sIf, sRet, sDrop, sNil, sRaise, sAsg, sPar2, sPar3, gSet, gTupD, gsCons, gsNil, gSub, wVar, wC, wOp, wB, wTup, wFz, wSt, fLst, fCat, zNil, zCons, wAnd, wOr, wNot, wIf, wTst, uAnd, uOr, uNot, tstOp, wLeLe, uLtLt, wNeg, oSub, oMul, oDiv, oMod, oPow, oLt, oLe, oGt, oGe, oCmp, oAbs, wIsi, wCall, wIsN, uIsN, startD, lenD, viewL, List.map_cons, List.map_nil, List.length_cons, List.length_nil, List.replicate, List.cons_append, List.nil_append, List.getElem?_cons_zero, List.getElem?_cons_succ, List.set_cons_zero, List.set_cons_succ, Nat.add_sub_cancel, Nat.sub_self, Nat.zero_add, Nat.reduceAdd, Nat.reduceSub, if_true, if_false, true_and, and_true, Bool.false_eq_true, reduceIte, ↓reduceIte, min_ii, max_ii, add_ii, add_tt, add_ss, add_ll, len_tup, len_lst, len_scr, len_str, int_int, int_bl, tup_lst, tup_tup, see_non, see_bl, see_int, see_str, see_tup, see_lst, see_dic, see_adr, see_scr, see_kup, ty_non, ty_bl, ty_int, ty_str, ty_tup, ty_lst, ty_kup, reduceCtorEq, nn_non, nn_bl, nn_int, nn_str, nn_tup, nn_lst, nn_dic, wFrz, wSl, oSome, oNone, ixT0, ixT1, ixT2, ixT3, ixL0, ixL1, ixL2, ixL3, eqII, neII, eqBB, neBB, eqPP, nePP, sz0, sz1, sz2, sz3, sz4, sz5, sz6, sz7, sz8, sz9, sz10, sz12, sz1b, sz2b, sz3b, sz4b, Option.bind_some, Bool.not_true, Bool.not_false, decide_eq_true_eq, beq_iff_eq, Bool.not_eq_true', beq_eq_false_iff_ne, ne_eq, kII, kIB, kIT, kIS, kIL, kBI, kBB, kBT, kBS, kBL, kSI, kSB, kST, kSS, kSL, kNI, kNB, kNT, kNS, kNL, kTI, kTB, kTT, kTS, kTL, kLI, kLB, kLT, kLS, kLL]
      have tt := (t2.trans t3).trans t4
      split
      · exact h1 _ M4 (th_lst.mpr ⟨by omega, d2⟩) tt
      · exact h1 _ M4 (th_tup.mpr ⟨by omega, d2⟩) tt
    generalize hA : (sSeq (b_law_stuff_s1 (R__law_stuff n)) (b_law_stuff_s2 (R__law_stuff n))) = A at one
    generalize hR : (sSeq (b_law_stuff_s4 (R__law_stuff n)) (b_law_stuff_s5 (R__law_stuff n))) = R' at rest
    simp only [b_law_stuff, b_law_stuff_s3, hA, hR]
    simp only [sSeq, sSet, sIf, sRet, sDrop, sNil, sRaise, sAsg, sPar2, sPar3, gSet, gTupD, gsCons, gsNil, gSub, wVar, wC, wOp, wB, wTup, wFz, wSt, fLst, fCat, zNil, zCons, wAnd, wOr, wNot, wIf, wTst, uAnd, uOr, uNot, tstOp, wLeLe, uLtLt, wNeg, oSub, oMul, oDiv, oMod, oPow, oLt, oLe, oGt, oGe, oCmp, oAbs, wIsi, wCall, wIsN, uIsN, startD, lenD, viewL, List.map_cons, List.map_nil, List.length_cons, List.length_nil, List.replicate, List.cons_append, List.nil_append, List.getElem?_cons_zero, List.getElem?_cons_succ, List.set_cons_zero, List.set_cons_succ, Nat.add_sub_cancel, Nat.sub_self, Nat.zero_add, Nat.reduceAdd, Nat.reduceSub, if_true, if_false, true_and, and_true, Bool.false_eq_true, reduceIte, ↓reduceIte, min_ii, max_ii, add_ii, add_tt, add_ss, add_ll, len_tup, len_lst, len_scr, len_str, int_int, int_bl, tup_lst, tup_tup, see_non, see_bl, see_int, see_str, see_tup, see_lst, see_dic, see_adr, see_scr, see_kup, ty_non, ty_bl, ty_int, ty_str, ty_tup, ty_lst, ty_kup, reduceCtorEq, nn_non, nn_bl, nn_int, nn_str, nn_tup, nn_lst, nn_dic, wFrz, wSl, oSome, oNone, ixT0, ixT1, ixT2, ixT3, ixL0, ixL1, ixL2, ixL3, eqII, neII, eqBB, neBB, eqPP, nePP, sz0, sz1, sz2, sz3, sz4, sz5, sz6, sz7, sz8, sz9, sz10, sz12, sz1b, sz2b, sz3b, sz4b, Option.bind_some, Bool.not_true, Bool.not_false, decide_eq_true_eq, beq_iff_eq, Bool.not_eq_true', beq_eq_false_iff_ne, ne_eq, kII, kIB, kIT, kIS, kIL, kBI, kBB, kBT, kBS, kBL, kSI, kSB, kST, kSS, kSL, kNI, kNB, kNT, kNS, kNL, kTI, kTB, kTT, kTS, kTL, kLI, kLB, kLT, kLS, kLL]
    by_cases h0 : deep = 0
    · rw [if_pos (by rw [h0]; rfl)]
      refine one c ?_
      exact h
    · rw [if_neg (by omega)]
      refine spin_ok' c (by decide) (by decide) fun v M1 v1 v2 t1 => ?_
      try simp only [sSeq, sSet, sIf, sRet, sDrop, sNil, sRaise, sAsg, sPar2, sPar3, gSet, gTupD, gsCons, gsNil, gSub, wVar, wC, wOp, wB, wTup, wFz, wSt, fLst, fCat, zNil, zCons, wAnd, wOr, wNot, wIf, wTst, uAnd, uOr, uNot, tstOp, wLeLe, uLtLt, wNeg, oSub, oMul, oDiv, oMod, oPow, oLt, oLe, oGt, oGe, oCmp, oAbs, wIsi, wCall, wIsN, uIsN, startD, lenD, viewL, List.map_cons, List.map_nil, List.length_cons, List.length_nil, List.replicate, List.cons_append, List.nil_append, List.getElem?_cons_zero, List.getElem?_cons_succ, List.set_cons_zero, List.set_cons_succ, Nat.add_sub_cancel, Nat.sub_self, Nat.zero_add, Nat.reduceAdd, Nat.reduceSub, if_true, if_false, true_and, and_true, Bool.false_eq_true, reduceIte, ↓reduceIte, min_ii, max_ii, add_ii, add_tt, add_ss, add_ll, len_tup, len_lst, len_scr, len_str, int_int, int_bl, tup_lst, tup_tup, see_non, see_bl, see_int, see_str, see_tup, see_lst, see_dic, see_adr, see_scr, see_kup, ty_non, ty_bl, ty_int, ty_str, ty_tup, ty_lst, ty_kup, reduceCtorEq, nn_non, nn_bl, nn_int, nn_str, nn_tup, nn_lst, nn_dic, wFrz, wSl, oSome, oNone, ixT0, ixT1, ixT2, ixT3, ixL0, ixL1, ixL2, ixL3, eqII, neII, eqBB, neBB, eqPP, nePP, sz0, sz1, sz2, sz3, sz4, sz5, sz6, sz7, sz8, sz9, sz10, sz12, sz1b, sz2b, sz3b, sz4b, Option.bind_some, Bool.not_true, Bool.not_false, decide_eq_true_eq, beq_iff_eq, Bool.not_eq_true', beq_eq_false_iff_ne, ne_eq, kII, kIB, kIT, kIS, kIL, kBI, kBB, kBT, kBS, kBL, kSI, kSB, kST, kSS, kSL, kNI, kNB, kNT, kNS, kNL, kTI, kTB, kTT, kTS, kTL, kLI, kLB, kLT, kLS, kLL]
      split
      · refine one t1.1 ?_
        exact fun d M' hd t => h d M' hd (t1.trans t)
      · refine rest h0 M1 _ t1.1 ?_
        exact fun d M' hd t => h d M' hd (t1.trans t)
theorem stuff_ok {deep : Nat} (hd : deep < 4) (c : Crank M i) (h : ∀ d M', thB 20 B38 d = true → Turned i M M' → Q d M') : C__law_stuff [.ref i, .int (deep : Nat)] M Q E := stuff_all 4 deep hd M Q E c h
end
end L3.K01
set_option maxRecDepth 100000
set_option maxHeartbeats 1000000
/-! Z2: a thing with one place otherwise. -/
namespace L3.K01
open PySem PySem.Spec PyProof.Rows L2 L3 Gl
abbrev B45 : Int := 1000000000000000000000000000000000000000000000
/-- the store is as before but for the crank, and what was laid behind -/
def Aft (M : Mem) (i : Nat) (M' : Mem) : Prop := M.length ≤ M'.length ∧ Crank M' i ∧ ∀ j, j < M.length → j ≠ i → M'[j]? = M[j]?
theorem Crank.lt {M : Mem} {i : Nat} (c : Crank M i) : i < M.length := by
  obtain ⟨a, b, e, _⟩ := c
  exact (List.getElem?_eq_some_iff.mp e).1
theorem Turned.aft {M M' : Mem} {i : Nat} (t : Turned i M M') : Aft M i M' := ⟨by rw [t.2.1]; exact Nat.le_refl _, t.1, fun j _ hj => t.2.2 j hj⟩
theorem Aft.trans {M M1 M2 : Mem} {i : Nat} (a : Aft M i M1) (b : Aft M1 i M2) : Aft M i M2 := ⟨Nat.le_trans a.1 b.1, b.2.1, fun j h h' => (b.2.2 j (Nat.lt_of_lt_of_le h a.1) h').trans (a.2.2 j h h')⟩
theorem Crank.app {M : Mem} {i : Nat} (c : Crank M i) (r : Mem) : Crank (M ++ r) i := by
  have hi := c.lt
  obtain ⟨a, b, e, h⟩ := c
  exact ⟨a, b, by rw [List.getElem?_append_left hi]; exact e, h⟩
theorem Crank.aft {M : Mem} {i : Nat} (c : Crank M i) (r : Mem) : Aft M i (M ++ r) := ⟨by rw [List.length_append]; omega, c.app r, fun j h _ => List.getElem?_append_left h⟩
theorem Aft.set {M M1 : Mem} {i p : Nat} (a : Aft M i M1) (c : i < M.length) (hp : M.length ≤ p) (o : MObj) : Aft M i (M1.set p o) := by
  refine ⟨by rw [List.length_set]; exact a.1, ?_, fun j h h' => ?_⟩
  · obtain ⟨x, y, e, h⟩ := a.2.1
    exact ⟨x, y, by rw [List.getElem?_set_ne (by omega)]; exact e, h⟩
  · rw [List.getElem?_set_ne (by omega)]
    exact a.2.2 j h h'
theorem Aft.gc {M M' : Mem} {i : Nat} (a : Aft M i M') (c : i < M.length) {d : D} {Q : KD} (hd : d.pure = true) (q : ∀ M2, Turned i M M2 → Q d M2) : GcOk M M' ∧ d.under M.length = true ∧ Q d (M'.take M.length) := by
  obtain ⟨x, y, e, h⟩ := a.2.1
  refine ⟨⟨a.1, fun j m hj hm => ?_⟩, under_pure _ d hd, q _ ⟨⟨x, y, by rw [List.getElem?_take_of_lt c]; exact e, h⟩, by rw [List.length_take]; have := a.1; omega, fun j hj => ?_⟩⟩
  · by_cases ji : j = i
    · subst ji
      rw [e] at hm
      cases hm
      exact .inr rfl
    · exact .inl ((a.2.2 j hj ji).symm.trans hm)
  · by_cases hl : j < M.length
    · rw [List.getElem?_take_of_lt hl]
      exact a.2.2 j hl hj
    · rw [List.getElem?_eq_none (by rw [List.length_take]; omega), List.getElem?_eq_none (by omega)]
theorem cut_sub {ds : List D} {lo hi : Option Int} : ∀ d ∈ cutD ds lo hi, d ∈ ds := fun d h => List.mem_of_mem_drop (List.mem_of_mem_take h)
theorem cut_len {ds : List D} {lo hi : Option Int} : (cutD ds lo hi).length ≤ ds.length := by
  unfold cutD
  rw [List.length_take, List.length_drop]
  omega
section
variable {M : Mem} {Q : KD} {E : ExK} {i : Nat} {N : Nat} {B : Int}
theorem int_log {j : Int} (hB : B ≤ B45) (h : -B ≤ j ∧ j ≤ B) : j.natAbs.log2 < 1920 := by
  have h1 : (B45.natAbs : Nat) < 2 ^ (199 + 1) := by decide +kernel
  have h2 : (0 : Int) ≤ B45 := by decide +kernel
  refine Nat.lt_of_le_of_lt (log2_le (k := 199) (Nat.lt_of_le_of_lt ?_ h1)) (by decide)
  generalize B45 = b at *
  omega
def isIB : D → Bool
  | .int _ => true
  | .bl _ => true
  | _ => false
/-- what stands near a thing -/
theorem near_ok {rc : CtD} {v : D} (hN : 20 ≤ N) (h38 : B38 ≤ B) (hB : B ≤ B45) (hv : thB N B v = true) {deep : Int} {x3 x4 x5 x6 : Option L3.D} (c : Crank M i) {D : EndsD} (h : ∀ d M', thB (2 * N) (B + 12) d = true → Turned i M M' → D.rt d M') :
    (sSeq (b_law_shaken_s2 rc) (sSeq (b_law_shaken_s3 rc) (b_law_shaken_s4 rc))) [some (.ref i), some v, some (.int deep), x3, x4, x5, x6] M D E := by
  have vp := th_pure v hv
  have hb0 : 100 ≤ B := Int.le_trans (by decide : (100 : Int) ≤ B38) h38
  simp only [b_law_shaken_s2, sSeq, sSet, sIf, sRet, sDrop, sNil, sRaise, sAsg, sPar2, sPar3, gSet, gTupD, gsCons, gsNil, gSub, wVar, wC, wOp, wB, wTup, wFz, wSt, fLst, fCat, zNil, zCons, wAnd, wOr, wNot, wIf, wTst, uAnd, uOr, uNot, tstOp, wLeLe, uLtLt, wNeg, oSub, oMul, oDiv, oMod, oPow, oLt, oLe, oGt, oGe, oCmp, oAbs, wIsi, wCall, wIsN, uIsN, startD, lenD, viewL, List.map_cons, List.map_nil, List.length_cons, List.length_nil, List.replicate, List.cons_append, List.nil_append, List.getElem?_cons_zero, List.getElem?_cons_succ, List.set_cons_zero, List.set_cons_succ, Nat.add_sub_cancel, Nat.sub_self, Nat.zero_add, Nat.reduceAdd, Nat.reduceSub, if_true, if_false, true_and, and_true, Bool.false_eq_true, reduceIte, ↓reduceIte, min_ii, max_ii, add_ii, add_tt, add_ss, add_ll, len_tup, len_lst, len_scr, len_str, int_int, int_bl, tup_lst, tup_tup, see_non, see_bl, see_int, see_str, see_tup, see_lst, see_dic, see_adr, see_scr, see_kup, ty_non, ty_bl, ty_int, ty_str, ty_tup, ty_lst, ty_kup, reduceCtorEq, nn_non, nn_bl, nn_int, nn_str, nn_tup, nn_lst, nn_dic, wFrz, wSl, oSome, oNone, ixT0, ixT1, ixT2, ixT3, ixL0, ixL1, ixL2, ixL3, eqII, neII, eqBB, neBB, eqPP, nePP, sz0, sz1, sz2, sz3, sz4, sz5, sz6, sz7, sz8, sz9, sz10, sz12, sz1b, sz2b, sz3b, sz4b, Option.bind_some, Bool.not_true, Bool.not_false, decide_eq_true_eq, beq_iff_eq, Bool.not_eq_true', beq_eq_false_iff_ne, ne_eq, kII, kIB, kIT, kIS, kIL, kBI, kBB, kBT, kBS, kBL, kSI, kSB, kST, kSS, kSL, kNI, kNB, kNT, kNS, kNL, kTI, kTB, kTT, kTS, kTL, kLI, kLB, kLT, kLS, kLL]
  refine stuff_ok (deep := 2) (by decide) c fun d M1 hd t1 => ?_
  have hd' : thB (2 * N) (B + 12) d = true := th_mono (by omega) (by omega) d hd
  try simp only [sSeq, sSet, sIf, sRet, sDrop, sNil, sRaise, sAsg, sPar2, sPar3, gSet, gTupD, gsCons, gsNil, gSub, wVar, wC, wOp, wB, wTup, wFz, wSt, fLst, fCat, zNil, zCons, wAnd, wOr, wNot, wIf, wTst, uAnd, uOr, uNot, tstOp, wLeLe, uLtLt, wNeg, oSub, oMul, oDiv, oMod, oPow, oLt, oLe, oGt, oGe, oCmp, oAbs, wIsi, wCall, wIsN, uIsN, startD, lenD, viewL, List.map_cons, List.map_nil, List.length_cons, List.length_nil, List.replicate, List.cons_append, List.nil_append, List.getElem?_cons_zero, List.getElem?_cons_succ, List.set_cons_zero, List.set_cons_succ, Nat.add_sub_cancel, Nat.sub_self, Nat.zero_add, Nat.reduceAdd, Nat.reduceSub, if_true, if_false, true_and, and_true, Bool.false_eq_true, reduceIte, ↓reduceIte, min_ii, max_ii, add_ii, add_tt, add_ss, add_ll, len_tup, len_lst, len_scr, len_str, int_int, int_bl, tup_lst, tup_tup, see_non, see_bl, see_int, see_str, see_tup, see_lst, see_dic, see_adr, see_scr, see_kup, ty_non, ty_bl, ty_int, ty_str, ty_tup, ty_lst, ty_kup, reduceCtorEq, nn_non, nn_bl, nn_int, nn_str, nn_tup, nn_lst, nn_dic, wFrz, wSl, oSome, oNone, ixT0, ixT1, ixT2, ixT3, ixL0, ixL1, ixL2, ixL3, eqII, neII, eqBB, neBB, eqPP, nePP, sz0, sz1, sz2, sz3, sz4, sz5, sz6, sz7, sz8, sz9, sz10, sz12, sz1b, sz2b, sz3b, sz4b, Option.bind_some, Bool.not_true, Bool.not_false, decide_eq_true_eq, beq_iff_eq, Bool.not_eq_true', beq_eq_false_iff_ne, ne_eq, kII, kIB, kIT, kIS, kIL, kBI, kBB, kBT, kBS, kBL, kSI, kSB, kST, kSS, kSL, kNI, kNB, kNT, kNS, kNL, kTI, kTB, kTT, kTS, kTL, kLI, kLB, kLT, kLS, kLL]
  have last : ∀ (ds : List L3.D) (M2 : Mem), Turned i M M2 → 1 ≤ ds.length → ds.length ≤ 1000 → (∀ x ∈ ds, thB (2 * N) (B + 12) x = true) → b_law_shaken_s4 rc [some (.ref i), some v, some (.int deep), some (.lst ds), x4, x5, x6] M2 D E := fun ds M2 t2 l1 l2 hds => by
    simp only [b_law_shaken_s4, sSeq, sSet, sIf, sRet, sDrop, sNil, sRaise, sAsg, sPar2, sPar3, gSet, gTupD, gsCons, gsNil, gSub, wVar, wC, wOp, wB, wTup, wFz, wSt, fLst, fCat, zNil, zCons, wAnd, wOr, wNot, wIf, wTst, uAnd, uOr, uNot, tstOp, wLeLe, uLtLt, wNeg, oSub, oMul, oDiv, oMod, oPow, oLt, oLe, oGt, oGe, oCmp, oAbs, wIsi, wCall, wIsN, uIsN, startD, lenD, viewL, List.map_cons, List.map_nil, List.length_cons, List.length_nil, List.replicate, List.cons_append, List.nil_append, List.getElem?_cons_zero, List.getElem?_cons_succ, List.set_cons_zero, List.set_cons_succ, Nat.add_sub_cancel, Nat.sub_self, Nat.zero_add, Nat.reduceAdd, Nat.reduceSub, if_true, if_false, true_and, and_true, Bool.false_eq_true, reduceIte, ↓reduceIte, min_ii, max_ii, add_ii, add_tt, add_ss, add_ll, len_tup, len_lst, len_scr, len_str, int_int, int_bl, tup_lst, tup_tup, see_non, see_bl, see_int, see_str, see_tup, see_lst, see_dic, see_adr, see_scr, see_kup, ty_non, ty_bl, ty_int, ty_str, ty_tup, ty_lst, ty_kup, reduceCtorEq, nn_non, nn_bl, nn_int, nn_str, nn_tup, nn_lst, nn_dic, wFrz, wSl, oSome, oNone, ixT0, ixT1, ixT2, ixT3, ixL0, ixL1, ixL2, ixL3, eqII, neII, eqBB, neBB, eqPP, nePP, sz0, sz1, sz2, sz3, sz4, sz5, sz6, sz7, sz8, sz9, sz10, sz12, sz1b, sz2b, sz3b, sz4b, Option.bind_some, Bool.not_true, Bool.not_false, decide_eq_true_eq, beq_iff_eq, Bool.not_eq_true', beq_eq_false_iff_ne, ne_eq, kII, kIB, kIT, kIS, kIL, kBI, kBB, kBT, kBS, kBL, kSI, kSB, kST, kSS, kSL, kNI, kNB, kNT, kNS, kNL, kTI, kTB, kTT, kTS, kTL, kLI, kLB, kLT, kLS, kLL]
    refine any_ok t2.1 l1 l2 fun d M' hd t => h d M' (hds d hd) (t2.trans t)
  have one : ∀ x ∈ [d], thB (2 * N) (B + 12) x = true := fun x hx => by rw [List.mem_singleton.mp hx]; exact hd'
  generalize hs4 : b_law_shaken_s4 rc = s4 at last ⊢
  simp only [b_law_shaken_s3, sIf, wTst, wIsi, wVar, List.getElem?_cons_zero, List.getElem?_cons_succ, isi_int vp]
  by_cases e : isIntOrBoolD v = true
  · rw [e]
    rw [if_pos rfl]
    have fin : ∀ (a : L3.D) (a1 a2 a3 a4 a5 : L3.D), (∀ x ∈ [a1, a2, a3, a4, a5], thB (2 * N) (B + 12) x = true) → s4 [some (.ref i), some v, some (.int deep), some (.lst [d, a1, a2, a3, a4, a5]), x4, x5, x6] M1 D E := fun a a1 a2 a3 a4 a5 ha => last _ _ t1 (by simp) (by simp) fun x hx => by
      rcases List.mem_cons.mp hx with rfl | hx
      · exact hd'
      · exact ha x hx
    cases v with
    | bl b =>
      cases b <;>
        (simp only [b_law_shaken_s1, wNotB, oAddB, oSubB, oStrB, sSeq, sSet, sIf, sRet, sDrop, sNil, sRaise, sAsg, sPar2, sPar3, gSet, gTupD, gsCons, gsNil, gSub, wVar, wC, wOp, wB, wTup, wFz, wSt, fLst, fCat, zNil, zCons, wAnd, wOr, wNot, wIf, wTst, uAnd, uOr, uNot, tstOp, wLeLe, uLtLt, wNeg, oSub, oMul, oDiv, oMod, oPow, oLt, oLe, oGt, oGe, oCmp, oAbs, wIsi, wCall, wIsN, uIsN, startD, lenD, viewL, List.map_cons, List.map_nil, List.length_cons, List.length_nil, List.replicate, List.cons_append, List.nil_append, List.getElem?_cons_zero, List.getElem?_cons_succ, List.set_cons_zero, List.set_cons_succ, Nat.add_sub_cancel, Nat.sub_self, Nat.zero_add, Nat.reduceAdd, Nat.reduceSub, if_true, if_false, true_and, and_true, Bool.false_eq_true, reduceIte, ↓reduceIte, min_ii, max_ii, add_ii, add_tt, add_ss, add_ll, len_tup, len_lst, len_scr, len_str, int_int, int_bl, tup_lst, tup_tup, see_non, see_bl, see_int, see_str, see_tup, see_lst, see_dic, see_adr, see_scr, see_kup, ty_non, ty_bl, ty_int, ty_str, ty_tup, ty_lst, ty_kup, reduceCtorEq, nn_non, nn_bl, nn_int, nn_str, nn_tup, nn_lst, nn_dic, wFrz, wSl, oSome, oNone, ixT0, ixT1, ixT2, ixT3, ixL0, ixL1, ixL2, ixL3, eqII, neII, eqBB, neBB, eqPP, nePP, sz0, sz1, sz2, sz3, sz4, sz5, sz6, sz7, sz8, sz9, sz10, sz12, sz1b, sz2b, sz3b, sz4b, Option.bind_some, Bool.not_true, Bool.not_false, decide_eq_true_eq, beq_iff_eq, Bool.not_eq_true', beq_eq_false_iff_ne, ne_eq, kII, kIB, kIT, kIS, kIL, kBI, kBB, kBT, kBS, kBL, kSI, kSB, kST, kSS, kSL, kNI, kNB, kNT, kNS, kNL, kTI, kTB, kTT, kTS, kTL, kLI, kLB, kLT, kLS, kLL]
         refine fin .non _ _ _ _ _ fun x hx => ?_
         simp only [List.mem_cons, List.not_mem_nil, or_false] at hx
         rcases hx with rfl | rfl | rfl | rfl | rfl <;> first | rfl | (rw [th_int]; omega))
    | int j =>
      have hj := th_int.mp hv
      simp only [b_law_shaken_s1, wNotB, oAddB, oSubB, oStrB, sSeq, sSet, sIf, sRet, sDrop, sNil, sRaise, sAsg, sPar2, sPar3, gSet, gTupD, gsCons, gsNil, gSub, wVar, wC, wOp, wB, wTup, wFz, wSt, fLst, fCat, zNil, zCons, wAnd, wOr, wNot, wIf, wTst, uAnd, uOr, uNot, tstOp, wLeLe, uLtLt, wNeg, oSub, oMul, oDiv, oMod, oPow, oLt, oLe, oGt, oGe, oCmp, oAbs, wIsi, wCall, wIsN, uIsN, startD, lenD, viewL, List.map_cons, List.map_nil, List.length_cons, List.length_nil, List.replicate, List.cons_append, List.nil_append, List.getElem?_cons_zero, List.getElem?_cons_succ, List.set_cons_zero, List.set_cons_succ, Nat.add_sub_cancel, Nat.sub_self, Nat.zero_add, Nat.reduceAdd, Nat.reduceSub, if_true, if_false, true_and, and_true, Bool.false_eq_true, reduceIte, ↓reduceIte, min_ii, max_ii, add_ii, add_tt, add_ss, add_ll, len_tup, len_lst, len_scr, len_str, int_int, int_bl, tup_lst, tup_tup, see_non, see_bl, see_int, see_str, see_tup, see_lst, see_dic, see_adr, see_scr, see_kup, ty_non, ty_bl, ty_int, ty_str, ty_tup, ty_lst, ty_kup, reduceCtorEq, nn_non, nn_bl, nn_int, nn_str, nn_tup, nn_lst, nn_dic, wFrz, wSl, oSome, oNone, ixT0, ixT1, ixT2, ixT3, ixL0, ixL1, ixL2, ixL3, eqII, neII, eqBB, neBB, eqPP, nePP, sz0, sz1, sz2, sz3, sz4, sz5, sz6, sz7, sz8, sz9, sz10, sz12, sz1b, sz2b, sz3b, sz4b, Option.bind_some, Bool.not_true, Bool.not_false, decide_eq_true_eq, beq_iff_eq, Bool.not_eq_true', beq_eq_false_iff_ne, ne_eq, kII, kIB, kIT, kIS, kIL, kBI, kBB, kBT, kBS, kBL, kSI, kSB, kST, kSS, kSL, kNI, kNB, kNT, kNS, kNL, kTI, kTB, kTT, kTS, kTL, kLI, kLB, kLT, kLS, kLL]
      refine ⟨int_log hB hj, ?_⟩
      refine fin .non _ _ _ _ _ fun x hx => ?_
      simp only [List.mem_cons, List.not_mem_nil, or_false] at hx
      rcases hx with rfl | rfl | rfl | rfl | rfl <;> first | rfl | (rw [th_int]; omega)
    | _ => exact (Bool.false_ne_true e).elim
  · rw [show isIntOrBoolD v = false by simpa using e]
    rw [if_neg (by decide)]
    exact last _ _ t1 (by simp) (by simp) one
/-- the last row -/
theorem sh16 {rc : CtD} {M0 : Mem} {v : D} {row : List D} {p : Nat} {deep : Int} {x3 x5 x6 : Option L3.D} (hv : v.pure = true) (c : i < M0.length) (a : Aft M0 i M) (hp : M0.length ≤ p) (e : M[p]? = some (.lst row)) (hr : thB N B (.lst row) = true) {D : EndsD} (h : ∀ d M', thB N B d = true → Aft M0 i M' → D.rt d M') :
    b_law_shaken_s16 rc [some (.ref i), some v, some (.int deep), x3, some (.ref p), x5, x6] M D E := by
  have hr2 : thB N B (.tup row) = true := hr
  simp only [b_law_shaken_s16, sRet, wIf, wTst, wIsi, wVar, sSeq, sSet, sIf, sRet, sDrop, sNil, sRaise, sAsg, sPar2, sPar3, gSet, gTupD, gsCons, gsNil, gSub, wVar, wC, wOp, wB, wTup, wFz, wSt, fLst, fCat, zNil, zCons, wAnd, wOr, wNot, wIf, wTst, uAnd, uOr, uNot, tstOp, wLeLe, uLtLt, wNeg, oSub, oMul, oDiv, oMod, oPow, oLt, oLe, oGt, oGe, oCmp, oAbs, wIsi, wCall, wIsN, uIsN, startD, lenD, viewL, List.map_cons, List.map_nil, List.length_cons, List.length_nil, List.replicate, List.cons_append, List.nil_append, List.getElem?_cons_zero, List.getElem?_cons_succ, List.set_cons_zero, List.set_cons_succ, Nat.add_sub_cancel, Nat.sub_self, Nat.zero_add, Nat.reduceAdd, Nat.reduceSub, if_true, if_false, true_and, and_true, Bool.false_eq_true, reduceIte, ↓reduceIte, min_ii, max_ii, add_ii, add_tt, add_ss, add_ll, len_tup, len_lst, len_scr, len_str, int_int, int_bl, tup_lst, tup_tup, see_non, see_bl, see_int, see_str, see_tup, see_lst, see_dic, see_adr, see_scr, see_kup, ty_non, ty_bl, ty_int, ty_str, ty_tup, ty_lst, ty_kup, reduceCtorEq, nn_non, nn_bl, nn_int, nn_str, nn_tup, nn_lst, nn_dic, wFrz, wSl, oSome, oNone, ixT0, ixT1, ixT2, ixT3, ixL0, ixL1, ixL2, ixL3, eqII, neII, eqBB, neBB, eqPP, nePP, sz0, sz1, sz2, sz3, sz4, sz5, sz6, sz7, sz8, sz9, sz10, sz12, sz1b, sz2b, sz3b, sz4b, Option.bind_some, Bool.not_true, Bool.not_false, decide_eq_true_eq, beq_iff_eq, Bool.not_eq_true', beq_eq_false_iff_ne, ne_eq, kII, kIB, kIT, kIS, kIL, kBI, kBB, kBT, kBS, kBL, kSI, kSB, kST, kSS, kSL, kNI, kNB, kNT, kNS, kNL, kTI, kTB, kTT, kTS, kTL, kLI, kLB, kLT, kLS, kLL]
  rw [isi_tup hv]
  cases isTupD v with
  | true =>
    simp only [wB, oTuple, wFrz, see_ref e, e, sSeq, sSet, sIf, sRet, sDrop, sNil, sRaise, sAsg, sPar2, sPar3, gSet, gTupD, gsCons, gsNil, gSub, wVar, wC, wOp, wB, wTup, wFz, wSt, fLst, fCat, zNil, zCons, wAnd, wOr, wNot, wIf, wTst, uAnd, uOr, uNot, tstOp, wLeLe, uLtLt, wNeg, oSub, oMul, oDiv, oMod, oPow, oLt, oLe, oGt, oGe, oCmp, oAbs, wIsi, wCall, wIsN, uIsN, startD, lenD, viewL, List.map_cons, List.map_nil, List.length_cons, List.length_nil, List.replicate, List.cons_append, List.nil_append, List.getElem?_cons_zero, List.getElem?_cons_succ, List.set_cons_zero, List.set_cons_succ, Nat.add_sub_cancel, Nat.sub_self, Nat.zero_add, Nat.reduceAdd, Nat.reduceSub, if_true, if_false, true_and, and_true, Bool.false_eq_true, reduceIte, ↓reduceIte, min_ii, max_ii, add_ii, add_tt, add_ss, add_ll, len_tup, len_lst, len_scr, len_str, int_int, int_bl, tup_lst, tup_tup, see_non, see_bl, see_int, see_str, see_tup, see_lst, see_dic, see_adr, see_scr, see_kup, ty_non, ty_bl, ty_int, ty_str, ty_tup, ty_lst, ty_kup, reduceCtorEq, nn_non, nn_bl, nn_int, nn_str, nn_tup, nn_lst, nn_dic, wFrz, wSl, oSome, oNone, ixT0, ixT1, ixT2, ixT3, ixL0, ixL1, ixL2, ixL3, eqII, neII, eqBB, neBB, eqPP, nePP, sz0, sz1, sz2, sz3, sz4, sz5, sz6, sz7, sz8, sz9, sz10, sz12, sz1b, sz2b, sz3b, sz4b, Option.bind_some, Bool.not_true, Bool.not_false, decide_eq_true_eq, beq_iff_eq, Bool.not_eq_true', beq_eq_false_iff_ne, ne_eq, kII, kIB, kIT, kIS, kIL, kBI, kBB, kBT, kBS, kBL, kSI, kSB, kST, kSS, kSL, kNI, kNB, kNT, kNS, kNL, kTI, kTB, kTT, kTS, kTL, kLI, kLB, kLT, kLS, kLL]
    exact h _ _ hr2 a
  | false =>
    simp only [wB, oTuple, wFrz, see_ref e, e, sSeq, sSet, sIf, sRet, sDrop, sNil, sRaise, sAsg, sPar2, sPar3, gSet, gTupD, gsCons, gsNil, gSub, wVar, wC, wOp, wB, wTup, wFz, wSt, fLst, fCat, zNil, zCons, wAnd, wOr, wNot, wIf, wTst, uAnd, uOr, uNot, tstOp, wLeLe, uLtLt, wNeg, oSub, oMul, oDiv, oMod, oPow, oLt, oLe, oGt, oGe, oCmp, oAbs, wIsi, wCall, wIsN, uIsN, startD, lenD, viewL, List.map_cons, List.map_nil, List.length_cons, List.length_nil, List.replicate, List.cons_append, List.nil_append, List.getElem?_cons_zero, List.getElem?_cons_succ, List.set_cons_zero, List.set_cons_succ, Nat.add_sub_cancel, Nat.sub_self, Nat.zero_add, Nat.reduceAdd, Nat.reduceSub, if_true, if_false, true_and, and_true, Bool.false_eq_true, reduceIte, ↓reduceIte, min_ii, max_ii, add_ii, add_tt, add_ss, add_ll, len_tup, len_lst, len_scr, len_str, int_int, int_bl, tup_lst, tup_tup, see_non, see_bl, see_int, see_str, see_tup, see_lst, see_dic, see_adr, see_scr, see_kup, ty_non, ty_bl, ty_int, ty_str, ty_tup, ty_lst, ty_kup, reduceCtorEq, nn_non, nn_bl, nn_int, nn_str, nn_tup, nn_lst, nn_dic, wFrz, wSl, oSome, oNone, ixT0, ixT1, ixT2, ixT3, ixL0, ixL1, ixL2, ixL3, eqII, neII, eqBB, neBB, eqPP, nePP, sz0, sz1, sz2, sz3, sz4, sz5, sz6, sz7, sz8, sz9, sz10, sz12, sz1b, sz2b, sz3b, sz4b, Option.bind_some, Bool.not_true, Bool.not_false, decide_eq_true_eq, beq_iff_eq, Bool.not_eq_true', beq_eq_false_iff_ne, ne_eq, kII, kIB, kIT, kIS, kIL, kBI, kBB, kBT, kBS, kBL, kSI, kSB, kST, kSS, kSL, kNI, kNB, kNT, kNS, kNL, kTI, kTB, kTT, kTS, kTL, kLI, kLB, kLT, kLS, kLL]
    exact h _ _ hr (a.set c hp _)
theorem sh8 {rc : CtD} {M0 : Mem} {v : D} {row : List D} {p : Nat} {deep : Int} {x3 x5 x6 : Option L3.D} (hv : v.pure = true) (c : i < M0.length) (a : Aft M0 i M) (hp : M0.length ≤ p) (e : M[p]? = some (.lst row)) (hr : thB N B (.lst row) = true) {D : EndsD} (h : ∀ d M', thB N B d = true → Aft M0 i M' → D.rt d M') :
    b_law_shaken_s8 rc [some (.ref i), some v, some (.int deep), x3, some (.ref p), x5, x6] M D E := by
  have hr2 : thB N B (.tup row) = true := hr
  simp only [b_law_shaken_s8, sRet, wIf, wTst, wIsi, wVar, sSeq, sSet, sIf, sRet, sDrop, sNil, sRaise, sAsg, sPar2, sPar3, gSet, gTupD, gsCons, gsNil, gSub, wVar, wC, wOp, wB, wTup, wFz, wSt, fLst, fCat, zNil, zCons, wAnd, wOr, wNot, wIf, wTst, uAnd, uOr, uNot, tstOp, wLeLe, uLtLt, wNeg, oSub, oMul, oDiv, oMod, oPow, oLt, oLe, oGt, oGe, oCmp, oAbs, wIsi, wCall, wIsN, uIsN, startD, lenD, viewL, List.map_cons, List.map_nil, List.length_cons, List.length_nil, List.replicate, List.cons_append, List.nil_append, List.getElem?_cons_zero, List.getElem?_cons_succ, List.set_cons_zero, List.set_cons_succ, Nat.add_sub_cancel, Nat.sub_self, Nat.zero_add, Nat.reduceAdd, Nat.reduceSub, if_true, if_false, true_and, and_true, Bool.false_eq_true, reduceIte, ↓reduceIte, min_ii, max_ii, add_ii, add_tt, add_ss, add_ll, len_tup, len_lst, len_scr, len_str, int_int, int_bl, tup_lst, tup_tup, see_non, see_bl, see_int, see_str, see_tup, see_lst, see_dic, see_adr, see_scr, see_kup, ty_non, ty_bl, ty_int, ty_str, ty_tup, ty_lst, ty_kup, reduceCtorEq, nn_non, nn_bl, nn_int, nn_str, nn_tup, nn_lst, nn_dic, wFrz, wSl, oSome, oNone, ixT0, ixT1, ixT2, ixT3, ixL0, ixL1, ixL2, ixL3, eqII, neII, eqBB, neBB, eqPP, nePP, sz0, sz1, sz2, sz3, sz4, sz5, sz6, sz7, sz8, sz9, sz10, sz12, sz1b, sz2b, sz3b, sz4b, Option.bind_some, Bool.not_true, Bool.not_false, decide_eq_true_eq, beq_iff_eq, Bool.not_eq_true', beq_eq_false_iff_ne, ne_eq, kII, kIB, kIT, kIS, kIL, kBI, kBB, kBT, kBS, kBL, kSI, kSB, kST, kSS, kSL, kNI, kNB, kNT, kNS, kNL, kTI, kTB, kTT, kTS, kTL, kLI, kLB, kLT, kLS, kLL]
  rw [isi_tup hv]
  cases isTupD v with
  | true =>
    simp only [wB, oTuple, wFrz, see_ref e, e, sSeq, sSet, sIf, sRet, sDrop, sNil, sRaise, sAsg, sPar2, sPar3, gSet, gTupD, gsCons, gsNil, gSub, wVar, wC, wOp, wB, wTup, wFz, wSt, fLst, fCat, zNil, zCons, wAnd, wOr, wNot, wIf, wTst, uAnd, uOr, uNot, tstOp, wLeLe, uLtLt, wNeg, oSub, oMul, oDiv, oMod, oPow, oLt, oLe, oGt, oGe, oCmp, oAbs, wIsi, wCall, wIsN, uIsN, startD, lenD, viewL, List.map_cons, List.map_nil, List.length_cons, List.length_nil, List.replicate, List.cons_append, List.nil_append, List.getElem?_cons_zero, List.getElem?_cons_succ, List.set_cons_zero, List.set_cons_succ, Nat.add_sub_cancel, Nat.sub_self, Nat.zero_add, Nat.reduceAdd, Nat.reduceSub, if_true, if_false, true_and, and_true, Bool.false_eq_true, reduceIte, ↓reduceIte, min_ii, max_ii, add_ii, add_tt, add_ss, add_ll, len_tup, len_lst, len_scr, len_str, int_int, int_bl, tup_lst, tup_tup, see_non, see_bl, see_int, see_str, see_tup, see_lst, see_dic, see_adr, see_scr, see_kup, ty_non, ty_bl, ty_int, ty_str, ty_tup, ty_lst, ty_kup, reduceCtorEq, nn_non, nn_bl, nn_int, nn_str, nn_tup, nn_lst, nn_dic, wFrz, wSl, oSome, oNone, ixT0, ixT1, ixT2, ixT3, ixL0, ixL1, ixL2, ixL3, eqII, neII, eqBB, neBB, eqPP, nePP, sz0, sz1, sz2, sz3, sz4, sz5, sz6, sz7, sz8, sz9, sz10, sz12, sz1b, sz2b, sz3b, sz4b, Option.bind_some, Bool.not_true, Bool.not_false, decide_eq_true_eq, beq_iff_eq, Bool.not_eq_true', beq_eq_false_iff_ne, ne_eq, kII, kIB, kIT, kIS, kIL, kBI, kBB, kBT, kBS, kBL, kSI, kSB, kST, kSS, kSL, kNI, kNB, kNT, kNS, kNL, kTI, kTB, kTT, kTS, kTL, kLI, kLB, kLT, kLS, kLL]
    exact h _ _ hr (a.set c hp _)
  | false =>
    simp only [wB, oTuple, wFrz, see_ref e, e, sSeq, sSet, sIf, sRet, sDrop, sNil, sRaise, sAsg, sPar2, sPar3, gSet, gTupD, gsCons, gsNil, gSub, wVar, wC, wOp, wB, wTup, wFz, wSt, fLst, fCat, zNil, zCons, wAnd, wOr, wNot, wIf, wTst, uAnd, uOr, uNot, tstOp, wLeLe, uLtLt, wNeg, oSub, oMul, oDiv, oMod, oPow, oLt, oLe, oGt, oGe, oCmp, oAbs, wIsi, wCall, wIsN, uIsN, startD, lenD, viewL, List.map_cons, List.map_nil, List.length_cons, List.length_nil, List.replicate, List.cons_append, List.nil_append, List.getElem?_cons_zero, List.getElem?_cons_succ, List.set_cons_zero, List.set_cons_succ, Nat.add_sub_cancel, Nat.sub_self, Nat.zero_add, Nat.reduceAdd, Nat.reduceSub, if_true, if_false, true_and, and_true, Bool.false_eq_true, reduceIte, ↓reduceIte, min_ii, max_ii, add_ii, add_tt, add_ss, add_ll, len_tup, len_lst, len_scr, len_str, int_int, int_bl, tup_lst, tup_tup, see_non, see_bl, see_int, see_str, see_tup, see_lst, see_dic, see_adr, see_scr, see_kup, ty_non, ty_bl, ty_int, ty_str, ty_tup, ty_lst, ty_kup, reduceCtorEq, nn_non, nn_bl, nn_int, nn_str, nn_tup, nn_lst, nn_dic, wFrz, wSl, oSome, oNone, ixT0, ixT1, ixT2, ixT3, ixL0, ixL1, ixL2, ixL3, eqII, neII, eqBB, neBB, eqPP, nePP, sz0, sz1, sz2, sz3, sz4, sz5, sz6, sz7, sz8, sz9, sz10, sz12, sz1b, sz2b, sz3b, sz4b, Option.bind_some, Bool.not_true, Bool.not_false, decide_eq_true_eq, beq_iff_eq, Bool.not_eq_true', beq_eq_false_iff_ne, ne_eq, kII, kIB, kIT, kIS, kIL, kBI, kBB, kBT, kBS, kBL, kSI, kSB, kST, kSS, kSL, kNI, kNB, kNT, kNS, kNL, kTI, kTB, kTT, kTS, kTL, kLI, kLB, kLT, kLS, kLL]
    exact h _ _ hr2 a
end
end L3.K01
set_option maxRecDepth 100000
set_option maxHeartbeats 1000000
/-! Z3: a thing with one place otherwise, further in. -/
namespace L3.K01
open PySem PySem.Spec PyProof.Rows L2 L3 Gl
section
variable {M : Mem} {Q : KD} {E : ExK} {i : Nat} {N : Nat} {B : Int}
theorem th_lst' {ds : List L3.D} (h1 : ds.length ≤ N) (h2 : ∀ d ∈ ds, thB N B d = true) : thB N B (.lst ds) = true := th_lst.mpr ⟨h1, h2⟩
/-- the row, changed -/
theorem sh15 {rc : CtD} {M0 : Mem} {v : D} {ds : List D} {p k : Nat} {deep w : Int} {x3 : Option L3.D} (hN : 20 ≤ N) (hN2 : N ≤ 1000000) (h38 : B38 ≤ B) (hB : B ≤ B45) (hd0 : 0 ≤ deep) (hd : deep < 4) (hv : v.pure = true) (c : i < M0.length) (a : Aft M0 i M) (hp : M0.length ≤ p) (e : M[p]? = some (.lst ds)) (hds : ds.length ≤ N) (hdt : ∀ d ∈ ds, thB N B d = true) (hk : k < ds.length) (hw : 0 ≤ w)
    (ih : 0 < deep → ∀ (x : L3.D) (M : Mem) (Q : KD) (E : ExK), Crank M i → thB N B x = true → (∀ d M', thB (2 * N) (B + 12) d = true → Turned i M M' → Q d M') → rc [.ref i, x, .int (deep - 1)] M Q E)
    {D : EndsD} (h : ∀ d M', thB (2 * N) (B + 12) d = true → Aft M0 i M' → D.rt d M') :
    (sSeq (b_law_shaken_s15 rc) (b_law_shaken_s16 rc)) [some (.ref i), some v, some (.int deep), x3, some (.ref p), some (.int (k : Nat)), some (.int w)] M D E := by
  have mono : ∀ d : L3.D, thB N B d = true → thB (2 * N) (B + 12) d = true := fun d hd => th_mono (by omega) (by omega) d hd
  have fin : ∀ (M1 : Mem) (q : Nat) (row : List L3.D), Aft M0 i M1 → M0.length ≤ q → M1[q]? = some (.lst row) → thB (2 * N) (B + 12) (.lst row) = true → b_law_shaken_s16 rc [some (.ref i), some v, some (.int deep), x3, some (.ref q), some (.int (k : Nat)), some (.int w)] M1 D E := fun M1 q row a1 hq e1 hr => sh16 hv c a1 hq e1 hr h
  have new : ∀ row : List L3.D, thB (2 * N) (B + 12) (.lst row) = true → b_law_shaken_s16 rc [some (.ref i), some v, some (.int deep), x3, some (.ref M.length), some (.int (k : Nat)), some (.int w)] (M ++ [.lst row]) D E := fun row hr => fin _ _ row (a.trans (a.2.1.aft _)) a.1 (by rw [List.getElem?_append_right (Nat.le_refl _)]; simp) hr
  have at' : atI ds (k : Nat) = some ds[k] := atI_nat (List.getElem?_eq_getElem hk)
  generalize hs16 : b_law_shaken_s16 rc = s16 at fin new ⊢
  rw [sSeq]
  simp only [b_law_shaken_s15, sIf, tstOp, wOp, wVar, wC, eqII, List.getElem?_cons_zero, List.getElem?_cons_succ]
  by_cases w0 : w = 0
  · subst w0
    rw [if_pos (by decide)]
    simp only [b_law_shaken_s5, see_ref e, sSeq, sSet, sIf, sRet, sDrop, sNil, sRaise, sAsg, sPar2, sPar3, gSet, gTupD, gsCons, gsNil, gSub, wVar, wC, wOp, wB, wTup, wFz, wSt, fLst, fCat, zNil, zCons, wAnd, wOr, wNot, wIf, wTst, uAnd, uOr, uNot, tstOp, wLeLe, uLtLt, wNeg, oSub, oMul, oDiv, oMod, oPow, oLt, oLe, oGt, oGe, oCmp, oAbs, wIsi, wCall, wIsN, uIsN, startD, lenD, viewL, List.map_cons, List.map_nil, List.length_cons, List.length_nil, List.replicate, List.cons_append, List.nil_append, List.getElem?_cons_zero, List.getElem?_cons_succ, List.set_cons_zero, List.set_cons_succ, Nat.add_sub_cancel, Nat.sub_self, Nat.zero_add, Nat.reduceAdd, Nat.reduceSub, if_true, if_false, true_and, and_true, Bool.false_eq_true, reduceIte, ↓reduceIte, min_ii, max_ii, add_ii, add_tt, add_ss, add_ll, len_tup, len_lst, len_scr, len_str, int_int, int_bl, tup_lst, tup_tup, see_non, see_bl, see_int, see_str, see_tup, see_lst, see_dic, see_adr, see_scr, see_kup, ty_non, ty_bl, ty_int, ty_str, ty_tup, ty_lst, ty_kup, reduceCtorEq, nn_non, nn_bl, nn_int, nn_str, nn_tup, nn_lst, nn_dic, wFrz, wSl, oSome, oNone, ixT0, ixT1, ixT2, ixT3, ixL0, ixL1, ixL2, ixL3, eqII, neII, eqBB, neBB, eqPP, nePP, sz0, sz1, sz2, sz3, sz4, sz5, sz6, sz7, sz8, sz9, sz10, sz12, sz1b, sz2b, sz3b, sz4b, Option.bind_some, Bool.not_true, Bool.not_false, decide_eq_true_eq, beq_iff_eq, Bool.not_eq_true', beq_eq_false_iff_ne, ne_eq, kII, kIB, kIT, kIS, kIL, kBI, kBB, kBT, kBS, kBL, kSI, kSB, kST, kSS, kSL, kNI, kNB, kNT, kNS, kNL, kTI, kTB, kTT, kTS, kTL, kLI, kLB, kLT, kLS, kLL]
    refine ⟨?_, ?_⟩
    · exact sz_le (by have := @cut_len ds none (some (k : Int)); have := @cut_len ds (some ((k : Int) + 1)) none; omega)
    · refine new _ (th_lst' ?_ fun d hd => ?_)
      · rw [List.length_append]
        have := @cut_len ds none (some (k : Int)); have := @cut_len ds (some ((k : Int) + 1)) none; omega
      · rcases List.mem_append.mp hd with z | z <;> exact mono d (hdt d (cut_sub d z))
  rw [if_neg (by simpa using w0)]
  simp only [b_law_shaken_s12, sIf, tstOp, wOp, wVar, wC, eqII, List.getElem?_cons_zero, List.getElem?_cons_succ]
  by_cases w1 : w = 1
  · subst w1
    rw [if_pos (by decide)]
    simp only [b_law_shaken_s6, see_ref e, sSeq, sSet, sIf, sRet, sDrop, sNil, sRaise, sAsg, sPar2, sPar3, gSet, gTupD, gsCons, gsNil, gSub, wVar, wC, wOp, wB, wTup, wFz, wSt, fLst, fCat, zNil, zCons, wAnd, wOr, wNot, wIf, wTst, uAnd, uOr, uNot, tstOp, wLeLe, uLtLt, wNeg, oSub, oMul, oDiv, oMod, oPow, oLt, oLe, oGt, oGe, oCmp, oAbs, wIsi, wCall, wIsN, uIsN, startD, lenD, viewL, List.map_cons, List.map_nil, List.length_cons, List.length_nil, List.replicate, List.cons_append, List.nil_append, List.getElem?_cons_zero, List.getElem?_cons_succ, List.set_cons_zero, List.set_cons_succ, Nat.add_sub_cancel, Nat.sub_self, Nat.zero_add, Nat.reduceAdd, Nat.reduceSub, if_true, if_false, true_and, and_true, Bool.false_eq_true, reduceIte, ↓reduceIte, min_ii, max_ii, add_ii, add_tt, add_ss, add_ll, len_tup, len_lst, len_scr, len_str, int_int, int_bl, tup_lst, tup_tup, see_non, see_bl, see_int, see_str, see_tup, see_lst, see_dic, see_adr, see_scr, see_kup, ty_non, ty_bl, ty_int, ty_str, ty_tup, ty_lst, ty_kup, reduceCtorEq, nn_non, nn_bl, nn_int, nn_str, nn_tup, nn_lst, nn_dic, wFrz, wSl, oSome, oNone, ixT0, ixT1, ixT2, ixT3, ixL0, ixL1, ixL2, ixL3, eqII, neII, eqBB, neBB, eqPP, nePP, sz0, sz1, sz2, sz3, sz4, sz5, sz6, sz7, sz8, sz9, sz10, sz12, sz1b, sz2b, sz3b, sz4b, Option.bind_some, Bool.not_true, Bool.not_false, decide_eq_true_eq, beq_iff_eq, Bool.not_eq_true', beq_eq_false_iff_ne, ne_eq, kII, kIB, kIT, kIS, kIL, kBI, kBB, kBT, kBS, kBL, kSI, kSB, kST, kSS, kSL, kNI, kNB, kNT, kNS, kNL, kTI, kTB, kTT, kTS, kTL, kLI, kLB, kLT, kLS, kLL]
    refine ⟨?_, ?_⟩
    · exact sz_le (by have := @cut_len ds none (some ((k : Int) + 1)); have := @cut_len ds (some (k : Int)) none; omega)
    · refine new _ (th_lst' ?_ fun d hd => ?_)
      · rw [List.length_append]
        have := @cut_len ds none (some ((k : Int) + 1)); have := @cut_len ds (some (k : Int)) none; omega
      · rcases List.mem_append.mp hd with z | z <;> exact mono d (hdt d (cut_sub d z))
  rw [if_neg (by simpa using w1)]
  simp only [b_law_shaken_s11, sIf, tstOp, wOp, wVar, wC, eqII, List.getElem?_cons_zero, List.getElem?_cons_succ]
  by_cases w2 : w = 2
  · subst w2
    rw [if_pos (by decide)]
    simp only [b_law_shaken_s7, fRevL, see_ref e, sSeq, sSet, sIf, sRet, sDrop, sNil, sRaise, sAsg, sPar2, sPar3, gSet, gTupD, gsCons, gsNil, gSub, wVar, wC, wOp, wB, wTup, wFz, wSt, fLst, fCat, zNil, zCons, wAnd, wOr, wNot, wIf, wTst, uAnd, uOr, uNot, tstOp, wLeLe, uLtLt, wNeg, oSub, oMul, oDiv, oMod, oPow, oLt, oLe, oGt, oGe, oCmp, oAbs, wIsi, wCall, wIsN, uIsN, startD, lenD, viewL, List.map_cons, List.map_nil, List.length_cons, List.length_nil, List.replicate, List.cons_append, List.nil_append, List.getElem?_cons_zero, List.getElem?_cons_succ, List.set_cons_zero, List.set_cons_succ, Nat.add_sub_cancel, Nat.sub_self, Nat.zero_add, Nat.reduceAdd, Nat.reduceSub, if_true, if_false, true_and, and_true, Bool.false_eq_true, reduceIte, ↓reduceIte, min_ii, max_ii, add_ii, add_tt, add_ss, add_ll, len_tup, len_lst, len_scr, len_str, int_int, int_bl, tup_lst, tup_tup, see_non, see_bl, see_int, see_str, see_tup, see_lst, see_dic, see_adr, see_scr, see_kup, ty_non, ty_bl, ty_int, ty_str, ty_tup, ty_lst, ty_kup, reduceCtorEq, nn_non, nn_bl, nn_int, nn_str, nn_tup, nn_lst, nn_dic, wFrz, wSl, oSome, oNone, ixT0, ixT1, ixT2, ixT3, ixL0, ixL1, ixL2, ixL3, eqII, neII, eqBB, neBB, eqPP, nePP, sz0, sz1, sz2, sz3, sz4, sz5, sz6, sz7, sz8, sz9, sz10, sz12, sz1b, sz2b, sz3b, sz4b, Option.bind_some, Bool.not_true, Bool.not_false, decide_eq_true_eq, beq_iff_eq, Bool.not_eq_true', beq_eq_false_iff_ne, ne_eq, kII, kIB, kIT, kIS, kIL, kBI, kBB, kBT, kBS, kBL, kSI, kSB, kST, kSS, kSL, kNI, kNB, kNT, kNS, kNL, kTI, kTB, kTT, kTS, kTL, kLI, kLB, kLT, kLS, kLL]
    refine new _ (th_lst' (by rw [List.length_reverse]; omega) fun d hd => ?_)
    exact mono d (hdt d (List.mem_reverse.mp hd))
  rw [if_neg (by simpa using w2)]
  simp only [b_law_shaken_s10, sIf, tstOp, wOp, wVar, wC, eqII, List.getElem?_cons_zero, List.getElem?_cons_succ]
  by_cases w3 : w = 3
  · subst w3
    rw [if_pos (by decide)]
    refine sh8 hv c a hp e (th_lst' hds hdt) fun d M' hd' ha => h d M' (mono d hd') ha
  rw [if_neg (by simpa using w3)]
  have put : ∀ (d : L3.D) (M1 : Mem), thB (2 * N) (B + 12) d = true → Turned i M M1 → ∃ ds', M1[p]? = some (.lst ds') ∧ ixN ds'.length (k : Nat) = some k ∧ s16 [some (.ref i), some v, some (.int deep), x3, some (.ref p), some (.int (k : Nat)), some (.int w)] (M1.set p (.lst (ds'.set k d))) D E := fun d M1 hd' t => by
    have pl : p < M.length := (List.getElem?_eq_some_iff.mp e).1
    have pl1 : p < M1.length := by rw [t.2.1]; exact pl
    refine ⟨ds, by rw [t.2.2 p (by omega)]; exact e, ?_, ?_⟩
    · unfold ixN
      rw [if_pos (by omega), if_pos (by omega)]
      simp
    · refine fin _ p (ds.set k d) ((a.trans t.aft).set c hp _) hp (List.getElem?_set_self pl1) (th_lst' (by rw [List.length_set]; omega) fun x hx => ?_)
      rcases List.mem_or_eq_of_mem_set hx with z | rfl
      · exact mono x (hdt x z)
      · exact hd'
  simp only [b_law_shaken_s9, sSeq, sSet, sIf, sRet, sDrop, sNil, sRaise, sAsg, sPar2, sPar3, gSet, gTupD, gsCons, gsNil, gSub, wVar, wC, wOp, wB, wTup, wFz, wSt, fLst, fCat, zNil, zCons, wAnd, wOr, wNot, wIf, wTst, uAnd, uOr, uNot, tstOp, wLeLe, uLtLt, wNeg, oSub, oMul, oDiv, oMod, oPow, oLt, oLe, oGt, oGe, oCmp, oAbs, wIsi, wCall, wIsN, uIsN, startD, lenD, viewL, List.map_cons, List.map_nil, List.length_cons, List.length_nil, List.replicate, List.cons_append, List.nil_append, List.getElem?_cons_zero, List.getElem?_cons_succ, List.set_cons_zero, List.set_cons_succ, Nat.add_sub_cancel, Nat.sub_self, Nat.zero_add, Nat.reduceAdd, Nat.reduceSub, if_true, if_false, true_and, and_true, Bool.false_eq_true, reduceIte, ↓reduceIte, min_ii, max_ii, add_ii, add_tt, add_ss, add_ll, len_tup, len_lst, len_scr, len_str, int_int, int_bl, tup_lst, tup_tup, see_non, see_bl, see_int, see_str, see_tup, see_lst, see_dic, see_adr, see_scr, see_kup, ty_non, ty_bl, ty_int, ty_str, ty_tup, ty_lst, ty_kup, reduceCtorEq, nn_non, nn_bl, nn_int, nn_str, nn_tup, nn_lst, nn_dic, wFrz, wSl, oSome, oNone, ixT0, ixT1, ixT2, ixT3, ixL0, ixL1, ixL2, ixL3, eqII, neII, eqBB, neBB, eqPP, nePP, sz0, sz1, sz2, sz3, sz4, sz5, sz6, sz7, sz8, sz9, sz10, sz12, sz1b, sz2b, sz3b, sz4b, Option.bind_some, Bool.not_true, Bool.not_false, decide_eq_true_eq, beq_iff_eq, Bool.not_eq_true', beq_eq_false_iff_ne, ne_eq, kII, kIB, kIT, kIS, kIL, kBI, kBB, kBT, kBS, kBL, kSI, kSB, kST, kSS, kSL, kNI, kNB, kNT, kNS, kNL, kTI, kTB, kTT, kTS, kTL, kLI, kLB, kLT, kLS, kLL]
  by_cases h0 : deep > 0
  · rw [if_pos (by simpa using h0)]
    refine ix_ref e at' ?_
    try simp only [sSeq, sSet, sIf, sRet, sDrop, sNil, sRaise, sAsg, sPar2, sPar3, gSet, gTupD, gsCons, gsNil, gSub, wVar, wC, wOp, wB, wTup, wFz, wSt, fLst, fCat, zNil, zCons, wAnd, wOr, wNot, wIf, wTst, uAnd, uOr, uNot, tstOp, wLeLe, uLtLt, wNeg, oSub, oMul, oDiv, oMod, oPow, oLt, oLe, oGt, oGe, oCmp, oAbs, wIsi, wCall, wIsN, uIsN, startD, lenD, viewL, List.map_cons, List.map_nil, List.length_cons, List.length_nil, List.replicate, List.cons_append, List.nil_append, List.getElem?_cons_zero, List.getElem?_cons_succ, List.set_cons_zero, List.set_cons_succ, Nat.add_sub_cancel, Nat.sub_self, Nat.zero_add, Nat.reduceAdd, Nat.reduceSub, if_true, if_false, true_and, and_true, Bool.false_eq_true, reduceIte, ↓reduceIte, min_ii, max_ii, add_ii, add_tt, add_ss, add_ll, len_tup, len_lst, len_scr, len_str, int_int, int_bl, tup_lst, tup_tup, see_non, see_bl, see_int, see_str, see_tup, see_lst, see_dic, see_adr, see_scr, see_kup, ty_non, ty_bl, ty_int, ty_str, ty_tup, ty_lst, ty_kup, reduceCtorEq, nn_non, nn_bl, nn_int, nn_str, nn_tup, nn_lst, nn_dic, wFrz, wSl, oSome, oNone, ixT0, ixT1, ixT2, ixT3, ixL0, ixL1, ixL2, ixL3, eqII, neII, eqBB, neBB, eqPP, nePP, sz0, sz1, sz2, sz3, sz4, sz5, sz6, sz7, sz8, sz9, sz10, sz12, sz1b, sz2b, sz3b, sz4b, Option.bind_some, Bool.not_true, Bool.not_false, decide_eq_true_eq, beq_iff_eq, Bool.not_eq_true', beq_eq_false_iff_ne, ne_eq, kII, kIB, kIT, kIS, kIL, kBI, kBB, kBT, kBS, kBL, kSI, kSB, kST, kSS, kSL, kNI, kNB, kNT, kNS, kNL, kTI, kTB, kTT, kTS, kTL, kLI, kLB, kLT, kLS, kLL]
    refine ih h0 _ M _ _ a.2.1 (hdt _ (List.getElem_mem hk)) fun d M1 hd' t => ?_
    obtain ⟨ds', e1, e2, e3⟩ := put d M1 hd' t
    simp only [e1, e2, sSeq, sSet, sIf, sRet, sDrop, sNil, sRaise, sAsg, sPar2, sPar3, gSet, gTupD, gsCons, gsNil, gSub, wVar, wC, wOp, wB, wTup, wFz, wSt, fLst, fCat, zNil, zCons, wAnd, wOr, wNot, wIf, wTst, uAnd, uOr, uNot, tstOp, wLeLe, uLtLt, wNeg, oSub, oMul, oDiv, oMod, oPow, oLt, oLe, oGt, oGe, oCmp, oAbs, wIsi, wCall, wIsN, uIsN, startD, lenD, viewL, List.map_cons, List.map_nil, List.length_cons, List.length_nil, List.replicate, List.cons_append, List.nil_append, List.getElem?_cons_zero, List.getElem?_cons_succ, List.set_cons_zero, List.set_cons_succ, Nat.add_sub_cancel, Nat.sub_self, Nat.zero_add, Nat.reduceAdd, Nat.reduceSub, if_true, if_false, true_and, and_true, Bool.false_eq_true, reduceIte, ↓reduceIte, min_ii, max_ii, add_ii, add_tt, add_ss, add_ll, len_tup, len_lst, len_scr, len_str, int_int, int_bl, tup_lst, tup_tup, see_non, see_bl, see_int, see_str, see_tup, see_lst, see_dic, see_adr, see_scr, see_kup, ty_non, ty_bl, ty_int, ty_str, ty_tup, ty_lst, ty_kup, reduceCtorEq, nn_non, nn_bl, nn_int, nn_str, nn_tup, nn_lst, nn_dic, wFrz, wSl, oSome, oNone, ixT0, ixT1, ixT2, ixT3, ixL0, ixL1, ixL2, ixL3, eqII, neII, eqBB, neBB, eqPP, nePP, sz0, sz1, sz2, sz3, sz4, sz5, sz6, sz7, sz8, sz9, sz10, sz12, sz1b, sz2b, sz3b, sz4b, Option.bind_some, Bool.not_true, Bool.not_false, decide_eq_true_eq, beq_iff_eq, Bool.not_eq_true', beq_eq_false_iff_ne, ne_eq, kII, kIB, kIT, kIS, kIL, kBI, kBB, kBT, kBS, kBL, kSI, kSB, kST, kSS, kSL, kNI, kNB, kNT, kNS, kNL, kTI, kTB, kTT, kTS, kTL, kLI, kLB, kLT, kLS, kLL]
    exact e3
  · rw [if_neg (by simpa using h0)]
    refine stuff_ok (deep := 1) (by decide) a.2.1 fun d M1 hd' t => ?_
    obtain ⟨ds', e1, e2, e3⟩ := put d M1 (th_mono (by omega) (by omega) d hd') t
    simp only [e1, e2, sSeq, sSet, sIf, sRet, sDrop, sNil, sRaise, sAsg, sPar2, sPar3, gSet, gTupD, gsCons, gsNil, gSub, wVar, wC, wOp, wB, wTup, wFz, wSt, fLst, fCat, zNil, zCons, wAnd, wOr, wNot, wIf, wTst, uAnd, uOr, uNot, tstOp, wLeLe, uLtLt, wNeg, oSub, oMul, oDiv, oMod, oPow, oLt, oLe, oGt, oGe, oCmp, oAbs, wIsi, wCall, wIsN, uIsN, startD, lenD, viewL, List.map_cons, List.map_nil, List.length_cons, List.length_nil, List.replicate, List.cons_append, List.nil_append, List.getElem?_cons_zero, List.getElem?_cons_succ, List.set_cons_zero, List.set_cons_succ, Nat.add_sub_cancel, Nat.sub_self, Nat.zero_add, Nat.reduceAdd, Nat.reduceSub, if_true, if_false, true_and, and_true, Bool.false_eq_true, reduceIte, ↓reduceIte, min_ii, max_ii, add_ii, add_tt, add_ss, add_ll, len_tup, len_lst, len_scr, len_str, int_int, int_bl, tup_lst, tup_tup, see_non, see_bl, see_int, see_str, see_tup, see_lst, see_dic, see_adr, see_scr, see_kup, ty_non, ty_bl, ty_int, ty_str, ty_tup, ty_lst, ty_kup, reduceCtorEq, nn_non, nn_bl, nn_int, nn_str, nn_tup, nn_lst, nn_dic, wFrz, wSl, oSome, oNone, ixT0, ixT1, ixT2, ixT3, ixL0, ixL1, ixL2, ixL3, eqII, neII, eqBB, neBB, eqPP, nePP, sz0, sz1, sz2, sz3, sz4, sz5, sz6, sz7, sz8, sz9, sz10, sz12, sz1b, sz2b, sz3b, sz4b, Option.bind_some, Bool.not_true, Bool.not_false, decide_eq_true_eq, beq_iff_eq, Bool.not_eq_true', beq_eq_false_iff_ne, ne_eq, kII, kIB, kIT, kIS, kIL, kBI, kBB, kBT, kBS, kBL, kSI, kSB, kST, kSS, kSL, kNI, kNB, kNT, kNS, kNL, kTI, kTB, kTT, kTS, kTL, kLI, kLB, kLT, kLS, kLL]
    exact e3
theorem shaken_all (hN : 20 ≤ N) (hN2 : N ≤ 1000000) (h38 : B38 ≤ B) (hB : B ≤ B45) : ∀ (n deep : Nat), deep < n → deep < 4 → ∀ (v : L3.D) (M : Mem) (Q : KD) (E : ExK), Crank M i → thB N B v = true → (∀ d M', thB (2 * N) (B + 12) d = true → Turned i M M' → Q d M') → R__law_shaken n [.ref i, v, .int (deep : Nat)] M Q E
  | 0, deep, hd, _, _, _, _, _, _, _, _ => absurd hd (by omega)
  | n + 1, deep, hd, hd3, v, M, Q, E, c, hv, h => by
    have vp := th_pure v hv
    have ci := c.lt
    rw [Rs__law_shaken]
    show sGc (b_law_shaken (R__law_shaken n)) [some (.ref i), some v, some (.int (deep : Nat)), none, none, none, none] M _ E
    unfold sGc
    generalize hE : (fun (x : Exn) (M' : Mem) => GcOk M M' ∧ _ ∧ E x (M'.take M.length)) = E'
    have hret : ∀ d M', thB (2 * N) (B + 12) d = true → Aft M i M' → GcOk M M' ∧ d.under M.length = true ∧ Q d (M'.take M.length) := fun d M' hd' a => a.gc ci (th_pure d hd') fun M2 t => h d M2 hd' t
    generalize hD : EndsD.mk _ _ _ _ = D'
    have hrt : ∀ d M', thB (2 * N) (B + 12) d = true → Aft M i M' → D'.rt d M' := by rw [← hD]; exact hret
    have near := fun {M1 : Mem} {D : EndsD} (c1 : Crank M1 i) h1 => near_ok (rc := R__law_shaken n) (deep := (deep : Nat)) (x3 := none) (x4 := none) (x5 := none) (x6 := none) (E := E') (D := D) hN h38 hB hv c1 h1
    have row := fun {M1 : Mem} {p k : Nat} {w : Int} {ds : List L3.D} a e hp h1 h2 h3 h4 => sh15 (rc := R__law_shaken n) (M0 := M) (M := M1) (v := v) (ds := ds) (p := p) (k := k) (deep := (deep : Nat)) (w := w) (x3 := none) (E := E') (D := D') hN hN2 h38 hB (by omega) (by omega) vp ci a hp e h1 h2 h3 h4 (fun h0 x M Q E c1 hx h => by
      have := shaken_all hN hN2 h38 hB n (deep - 1) (by omega) (by omega) x M Q E c1 hx h
      rwa [show ((deep - 1 : Nat) : Int) = (deep : Int) - 1 by omega] at this) hrt
    have rest : ∀ (ds : List L3.D) (M1 : Mem), seeD (M := M1) v = .lst ds ∨ seeD (M := M1) v = .tup ds → ds.length ≤ N → 1 ≤ ds.length → (∀ d ∈ ds, thB N B d = true) → Turned i M M1 → (sSeq (b_law_shaken_s14 (R__law_shaken n)) (sSeq (b_law_shaken_s15 (R__law_shaken n)) (b_law_shaken_s16 (R__law_shaken n)))) [some (.ref i), some v, some (.int (deep : Nat)), none, none, none, none] M1 D' E' := fun ds M1 hs h1 h2 h3 t => by
      generalize hb : sSeq (b_law_shaken_s15 (R__law_shaken n)) (b_law_shaken_s16 (R__law_shaken n)) = body at row ⊢
      have c1 : Crank (M1 ++ [.lst ds]) i := t.1.app _
      have fin : ∀ (k w : Int) (M2 : Mem), 0 ≤ k → k < (ds.length : Int) → 0 ≤ w → Turned i (M1 ++ [.lst ds]) M2 → body [some (.ref i), some v, some (.int (deep : Nat)), none, some (.ref M1.length), some (.int k), some (.int w)] M2 D' E' := fun k w M2 k1 k2 w1 t2 => by
        have := row (M1 := M2) (p := M1.length) (k := k.toNat) (w := w) (ds := ds) ((t.aft.trans (t.1.aft _)).trans t2.aft) (by rw [t2.2.2 _ (by have := t.1.lt; omega), List.getElem?_append_right (Nat.le_refl _)]; simp) (by rw [t.2.1]; exact Nat.le_refl _) h1 h3 (by omega) w1
        rwa [Int.toNat_of_nonneg k1] at this
      rcases hs with hs | hs <;> rw [see_pure vp] at hs <;> subst hs
      · simp only [b_law_shaken_s14, fListc, sSeq, sSet, sIf, sRet, sDrop, sNil, sRaise, sAsg, sPar2, sPar3, gSet, gTupD, gsCons, gsNil, gSub, wVar, wC, wOp, wB, wTup, wFz, wSt, fLst, fCat, zNil, zCons, wAnd, wOr, wNot, wIf, wTst, uAnd, uOr, uNot, tstOp, wLeLe, uLtLt, wNeg, oSub, oMul, oDiv, oMod, oPow, oLt, oLe, oGt, oGe, oCmp, oAbs, wIsi, wCall, wIsN, uIsN, startD, lenD, viewL, List.map_cons, List.map_nil, List.length_cons, List.length_nil, List.replicate, List.cons_append, List.nil_append, List.getElem?_cons_zero, List.getElem?_cons_succ, List.set_cons_zero, List.set_cons_succ, Nat.add_sub_cancel, Nat.sub_self, Nat.zero_add, Nat.reduceAdd, Nat.reduceSub, if_true, if_false, true_and, and_true, Bool.false_eq_true, reduceIte, ↓reduceIte, min_ii, max_ii, add_ii, add_tt, add_ss, add_ll, len_tup, len_lst, len_scr, len_str, int_int, int_bl, tup_lst, tup_tup, see_non, see_bl, see_int, see_str, see_tup, see_lst, see_dic, see_adr, see_scr, see_kup, ty_non, ty_bl, ty_int, ty_str, ty_tup, ty_lst, ty_kup, reduceCtorEq, nn_non, nn_bl, nn_int, nn_str, nn_tup, nn_lst, nn_dic, wFrz, wSl, oSome, oNone, ixT0, ixT1, ixT2, ixT3, ixL0, ixL1, ixL2, ixL3, eqII, neII, eqBB, neBB, eqPP, nePP, sz0, sz1, sz2, sz3, sz4, sz5, sz6, sz7, sz8, sz9, sz10, sz12, sz1b, sz2b, sz3b, sz4b, Option.bind_some, Bool.not_true, Bool.not_false, decide_eq_true_eq, beq_iff_eq, Bool.not_eq_true', beq_eq_false_iff_ne, ne_eq, kII, kIB, kIT, kIS, kIL, kBI, kBB, kBT, kBS, kBL, kSI, kSB, kST, kSS, kSL, kNI, kNB, kNT, kNS, kNL, kTI, kTB, kTT, kTS, kTL, kLI, kLB, kLT, kLS, kLL]
        refine spin_ok' c1 (by omega) (by omega) fun k M2 k1 k2 t2 => ?_
        try simp only [sSeq, sSet, sIf, sRet, sDrop, sNil, sRaise, sAsg, sPar2, sPar3, gSet, gTupD, gsCons, gsNil, gSub, wVar, wC, wOp, wB, wTup, wFz, wSt, fLst, fCat, zNil, zCons, wAnd, wOr, wNot, wIf, wTst, uAnd, uOr, uNot, tstOp, wLeLe, uLtLt, wNeg, oSub, oMul, oDiv, oMod, oPow, oLt, oLe, oGt, oGe, oCmp, oAbs, wIsi, wCall, wIsN, uIsN, startD, lenD, viewL, List.map_cons, List.map_nil, List.length_cons, List.length_nil, List.replicate, List.cons_append, List.nil_append, List.getElem?_cons_zero, List.getElem?_cons_succ, List.set_cons_zero, List.set_cons_succ, Nat.add_sub_cancel, Nat.sub_self, Nat.zero_add, Nat.reduceAdd, Nat.reduceSub, if_true, if_false, true_and, and_true, Bool.false_eq_true, reduceIte, ↓reduceIte, min_ii, max_ii, add_ii, add_tt, add_ss, add_ll, len_tup, len_lst, len_scr, len_str, int_int, int_bl, tup_lst, tup_tup, see_non, see_bl, see_int, see_str, see_tup, see_lst, see_dic, see_adr, see_scr, see_kup, ty_non, ty_bl, ty_int, ty_str, ty_tup, ty_lst, ty_kup, reduceCtorEq, nn_non, nn_bl, nn_int, nn_str, nn_tup, nn_lst, nn_dic, wFrz, wSl, oSome, oNone, ixT0, ixT1, ixT2, ixT3, ixL0, ixL1, ixL2, ixL3, eqII, neII, eqBB, neBB, eqPP, nePP, sz0, sz1, sz2, sz3, sz4, sz5, sz6, sz7, sz8, sz9, sz10, sz12, sz1b, sz2b, sz3b, sz4b, Option.bind_some, Bool.not_true, Bool.not_false, decide_eq_true_eq, beq_iff_eq, Bool.not_eq_true', beq_eq_false_iff_ne, ne_eq, kII, kIB, kIT, kIS, kIL, kBI, kBB, kBT, kBS, kBL, kSI, kSB, kST, kSS, kSL, kNI, kNB, kNT, kNS, kNL, kTI, kTB, kTT, kTS, kTL, kLI, kLB, kLT, kLS, kLL]
        refine spin_ok' t2.1 (by decide) (by decide) fun w M3 w1 w2 t3 => ?_
        try simp only [sSeq, sSet, sIf, sRet, sDrop, sNil, sRaise, sAsg, sPar2, sPar3, gSet, gTupD, gsCons, gsNil, gSub, wVar, wC, wOp, wB, wTup, wFz, wSt, fLst, fCat, zNil, zCons, wAnd, wOr, wNot, wIf, wTst, uAnd, uOr, uNot, tstOp, wLeLe, uLtLt, wNeg, oSub, oMul, oDiv, oMod, oPow, oLt, oLe, oGt, oGe, oCmp, oAbs, wIsi, wCall, wIsN, uIsN, startD, lenD, viewL, List.map_cons, List.map_nil, List.length_cons, List.length_nil, List.replicate, List.cons_append, List.nil_append, List.getElem?_cons_zero, List.getElem?_cons_succ, List.set_cons_zero, List.set_cons_succ, Nat.add_sub_cancel, Nat.sub_self, Nat.zero_add, Nat.reduceAdd, Nat.reduceSub, if_true, if_false, true_and, and_true, Bool.false_eq_true, reduceIte, ↓reduceIte, min_ii, max_ii, add_ii, add_tt, add_ss, add_ll, len_tup, len_lst, len_scr, len_str, int_int, int_bl, tup_lst, tup_tup, see_non, see_bl, see_int, see_str, see_tup, see_lst, see_dic, see_adr, see_scr, see_kup, ty_non, ty_bl, ty_int, ty_str, ty_tup, ty_lst, ty_kup, reduceCtorEq, nn_non, nn_bl, nn_int, nn_str, nn_tup, nn_lst, nn_dic, wFrz, wSl, oSome, oNone, ixT0, ixT1, ixT2, ixT3, ixL0, ixL1, ixL2, ixL3, eqII, neII, eqBB, neBB, eqPP, nePP, sz0, sz1, sz2, sz3, sz4, sz5, sz6, sz7, sz8, sz9, sz10, sz12, sz1b, sz2b, sz3b, sz4b, Option.bind_some, Bool.not_true, Bool.not_false, decide_eq_true_eq, beq_iff_eq, Bool.not_eq_true', beq_eq_false_iff_ne, ne_eq, kII, kIB, kIT, kIS, kIL, kBI, kBB, kBT, kBS, kBL, kSI, kSB, kST, kSS, kSL, kNI, kNB, kNT, kNS, kNL, kTI, kTB, kTT, kTS, kTL, kLI, kLB, kLT, kLS, kLL]
        exact fin k w M3 k1 k2 w1 (t2.trans t3)
      · simp only [b_law_shaken_s14, fListc, sSeq, sSet, sIf, sRet, sDrop, sNil, sRaise, sAsg, sPar2, sPar3, gSet, gTupD, gsCons, gsNil, gSub, wVar, wC, wOp, wB, wTup, wFz, wSt, fLst, fCat, zNil, zCons, wAnd, wOr, wNot, wIf, wTst, uAnd, uOr, uNot, tstOp, wLeLe, uLtLt, wNeg, oSub, oMul, oDiv, oMod, oPow, oLt, oLe, oGt, oGe, oCmp, oAbs, wIsi, wCall, wIsN, uIsN, startD, lenD, viewL, List.map_cons, List.map_nil, List.length_cons, List.length_nil, List.replicate, List.cons_append, List.nil_append, List.getElem?_cons_zero, List.getElem?_cons_succ, List.set_cons_zero, List.set_cons_succ, Nat.add_sub_cancel, Nat.sub_self, Nat.zero_add, Nat.reduceAdd, Nat.reduceSub, if_true, if_false, true_and, and_true, Bool.false_eq_true, reduceIte, ↓reduceIte, min_ii, max_ii, add_ii, add_tt, add_ss, add_ll, len_tup, len_lst, len_scr, len_str, int_int, int_bl, tup_lst, tup_tup, see_non, see_bl, see_int, see_str, see_tup, see_lst, see_dic, see_adr, see_scr, see_kup, ty_non, ty_bl, ty_int, ty_str, ty_tup, ty_lst, ty_kup, reduceCtorEq, nn_non, nn_bl, nn_int, nn_str, nn_tup, nn_lst, nn_dic, wFrz, wSl, oSome, oNone, ixT0, ixT1, ixT2, ixT3, ixL0, ixL1, ixL2, ixL3, eqII, neII, eqBB, neBB, eqPP, nePP, sz0, sz1, sz2, sz3, sz4, sz5, sz6, sz7, sz8, sz9, sz10, sz12, sz1b, sz2b, sz3b, sz4b, Option.bind_some, Bool.not_true, Bool.not_false, decide_eq_true_eq, beq_iff_eq, Bool.not_eq_true', beq_eq_false_iff_ne, ne_eq, kII, kIB, kIT, kIS, kIL, kBI, kBB, kBT, kBS, kBL, kSI, kSB, kST, kSS, kSL, kNI, kNB, kNT, kNS, kNL, kTI, kTB, kTT, kTS, kTL, kLI, kLB, kLT, kLS, kLL]
        refine spin_ok' c1 (by omega) (by omega) fun k M2 k1 k2 t2 => ?_
        try simp only [sSeq, sSet, sIf, sRet, sDrop, sNil, sRaise, sAsg, sPar2, sPar3, gSet, gTupD, gsCons, gsNil, gSub, wVar, wC, wOp, wB, wTup, wFz, wSt, fLst, fCat, zNil, zCons, wAnd, wOr, wNot, wIf, wTst, uAnd, uOr, uNot, tstOp, wLeLe, uLtLt, wNeg, oSub, oMul, oDiv, oMod, oPow, oLt, oLe, oGt, oGe, oCmp, oAbs, wIsi, wCall, wIsN, uIsN, startD, lenD, viewL, List.map_cons, List.map_nil, List.length_cons, List.length_nil, List.replicate, List.cons_append, List.nil_append, List.getElem?_cons_zero, List.getElem?_cons_succ, List.set_cons_zero, List.set_cons_succ, Nat.add_sub_cancel, Nat.sub_self, Nat.zero_add, Nat.reduceAdd, Nat.reduceSub, if_true, if_false, true_and, and_true, Bool.false_eq_true, reduceIte, ↓reduceIte, min_ii, max_ii, add_ii, add_tt, add_ss, add_ll, len_tup, len_lst, len_scr, len_str, int_int, int_bl, tup_lst, tup_tup, see_non, see_bl, see_int, see_str, see_tup, see_lst, see_dic, see_adr, see_scr, see_kup, ty_non, ty_bl, ty_int, ty_str, ty_tup, ty_lst, ty_kup, reduceCtorEq, nn_non, nn_bl, nn_int, nn_str, nn_tup, nn_lst, nn_dic, wFrz, wSl, oSome, oNone, ixT0, ixT1, ixT2, ixT3, ixL0, ixL1, ixL2, ixL3, eqII, neII, eqBB, neBB, eqPP, nePP, sz0, sz1, sz2, sz3, sz4, sz5, sz6, sz7, sz8, sz9, sz10, sz12, sz1b, sz2b, sz3b, sz4b, Option.bind_some, Bool.not_true, Bool.not_false, decide_eq_true_eq, beq_iff_eq, Bool.not_eq_true', beq_eq_false_iff_ne, ne_eq, kII, kIB, kIT, kIS, kIL, kBI, kBB, kBT, kBS, kBL, kSI, kSB, kST, kSS, kSL, kNI, kNB, kNT, kNS, kNL, kTI, kTB, kTT, kTS, kTL, kLI, kLB, kLT, kLS, kLL]
        refine spin_ok' t2.1 (by decide) (by decide) fun w M3 w1 w2 t3 => ?_
        try simp only [sSeq, sSet, sIf, sRet, sDrop, sNil, sRaise, sAsg, sPar2, sPar3, gSet, gTupD, gsCons, gsNil, gSub, wVar, wC, wOp, wB, wTup, wFz, wSt, fLst, fCat, zNil, zCons, wAnd, wOr, wNot, wIf, wTst, uAnd, uOr, uNot, tstOp, wLeLe, uLtLt, wNeg, oSub, oMul, oDiv, oMod, oPow, oLt, oLe, oGt, oGe, oCmp, oAbs, wIsi, wCall, wIsN, uIsN, startD, lenD, viewL, List.map_cons, List.map_nil, List.length_cons, List.length_nil, List.replicate, List.cons_append, List.nil_append, List.getElem?_cons_zero, List.getElem?_cons_succ, List.set_cons_zero, List.set_cons_succ, Nat.add_sub_cancel, Nat.sub_self, Nat.zero_add, Nat.reduceAdd, Nat.reduceSub, if_true, if_false, true_and, and_true, Bool.false_eq_true, reduceIte, ↓reduceIte, min_ii, max_ii, add_ii, add_tt, add_ss, add_ll, len_tup, len_lst, len_scr, len_str, int_int, int_bl, tup_lst, tup_tup, see_non, see_bl, see_int, see_str, see_tup, see_lst, see_dic, see_adr, see_scr, see_kup, ty_non, ty_bl, ty_int, ty_str, ty_tup, ty_lst, ty_kup, reduceCtorEq, nn_non, nn_bl, nn_int, nn_str, nn_tup, nn_lst, nn_dic, wFrz, wSl, oSome, oNone, ixT0, ixT1, ixT2, ixT3, ixL0, ixL1, ixL2, ixL3, eqII, neII, eqBB, neBB, eqPP, nePP, sz0, sz1, sz2, sz3, sz4, sz5, sz6, sz7, sz8, sz9, sz10, sz12, sz1b, sz2b, sz3b, sz4b, Option.bind_some, Bool.not_true, Bool.not_false, decide_eq_true_eq, beq_iff_eq, Bool.not_eq_true', beq_eq_false_iff_ne, ne_eq, kII, kIB, kIT, kIS, kIL, kBI, kBB, kBT, kBS, kBL, kSI, kSB, kST, kSS, kSL, kNI, kNB, kNT, kNS, kNL, kTI, kTB, kTT, kTS, kTL, kLI, kLB, kLT, kLS, kLL]
        exact fin k w M3 k1 k2 w1 (t2.trans t3)
    generalize hnr : (sSeq (b_law_shaken_s2 (R__law_shaken n)) (sSeq (b_law_shaken_s3 (R__law_shaken n)) (b_law_shaken_s4 (R__law_shaken n)))) = nr at near
    generalize hrs : (sSeq (b_law_shaken_s14 (R__law_shaken n)) (sSeq (b_law_shaken_s15 (R__law_shaken n)) (b_law_shaken_s16 (R__law_shaken n)))) = rs at rest
    simp only [b_law_shaken, hrs]
    rw [sSeq]
    simp only [b_law_shaken_s13, hnr, sIf, uOr, uNot, wTst, tstOp, wOp, wB, wVar, wC, zCons, zNil, wCall, wIsi2, sNil, List.getElem?_cons_zero, List.getElem?_cons_succ]
    cases v with
    | tup ds =>
      obtain ⟨h1, h2⟩ := th_tup.mp hv
      simp only [sSeq, sSet, sIf, sRet, sDrop, sNil, sRaise, sAsg, sPar2, sPar3, gSet, gTupD, gsCons, gsNil, gSub, wVar, wC, wOp, wB, wTup, wFz, wSt, fLst, fCat, zNil, zCons, wAnd, wOr, wNot, wIf, wTst, uAnd, uOr, uNot, tstOp, wLeLe, uLtLt, wNeg, oSub, oMul, oDiv, oMod, oPow, oLt, oLe, oGt, oGe, oCmp, oAbs, wIsi, wCall, wIsN, uIsN, startD, lenD, viewL, List.map_cons, List.map_nil, List.length_cons, List.length_nil, List.replicate, List.cons_append, List.nil_append, List.getElem?_cons_zero, List.getElem?_cons_succ, List.set_cons_zero, List.set_cons_succ, Nat.add_sub_cancel, Nat.sub_self, Nat.zero_add, Nat.reduceAdd, Nat.reduceSub, if_true, if_false, true_and, and_true, Bool.false_eq_true, reduceIte, ↓reduceIte, min_ii, max_ii, add_ii, add_tt, add_ss, add_ll, len_tup, len_lst, len_scr, len_str, int_int, int_bl, tup_lst, tup_tup, see_non, see_bl, see_int, see_str, see_tup, see_lst, see_dic, see_adr, see_scr, see_kup, ty_non, ty_bl, ty_int, ty_str, ty_tup, ty_lst, ty_kup, reduceCtorEq, nn_non, nn_bl, nn_int, nn_str, nn_tup, nn_lst, nn_dic, wFrz, wSl, oSome, oNone, ixT0, ixT1, ixT2, ixT3, ixL0, ixL1, ixL2, ixL3, eqII, neII, eqBB, neBB, eqPP, nePP, sz0, sz1, sz2, sz3, sz4, sz5, sz6, sz7, sz8, sz9, sz10, sz12, sz1b, sz2b, sz3b, sz4b, Option.bind_some, Bool.not_true, Bool.not_false, decide_eq_true_eq, beq_iff_eq, Bool.not_eq_true', beq_eq_false_iff_ne, ne_eq, kII, kIB, kIT, kIS, kIL, kBI, kBB, kBT, kBS, kBL, kSI, kSB, kST, kSS, kSL, kNI, kNB, kNT, kNS, kNL, kTI, kTB, kTT, kTS, kTL, kLI, kLB, kLT, kLS, kLL]
      rw [if_neg (by decide)]
      by_cases h0 : (ds.length : Int) = 0
      · rw [if_pos h0]
        exact near c fun d M' hd' t => hrt d M' hd' t.aft
      · rw [if_neg h0]
        refine spin_ok' c (by decide) (by decide) fun u M1 u1 u2 t1 => ?_
        simp only [sSeq, sSet, sIf, sRet, sDrop, sNil, sRaise, sAsg, sPar2, sPar3, gSet, gTupD, gsCons, gsNil, gSub, wVar, wC, wOp, wB, wTup, wFz, wSt, fLst, fCat, zNil, zCons, wAnd, wOr, wNot, wIf, wTst, uAnd, uOr, uNot, tstOp, wLeLe, uLtLt, wNeg, oSub, oMul, oDiv, oMod, oPow, oLt, oLe, oGt, oGe, oCmp, oAbs, wIsi, wCall, wIsN, uIsN, startD, lenD, viewL, List.map_cons, List.map_nil, List.length_cons, List.length_nil, List.replicate, List.cons_append, List.nil_append, List.getElem?_cons_zero, List.getElem?_cons_succ, List.set_cons_zero, List.set_cons_succ, Nat.add_sub_cancel, Nat.sub_self, Nat.zero_add, Nat.reduceAdd, Nat.reduceSub, if_true, if_false, true_and, and_true, Bool.false_eq_true, reduceIte, ↓reduceIte, min_ii, max_ii, add_ii, add_tt, add_ss, add_ll, len_tup, len_lst, len_scr, len_str, int_int, int_bl, tup_lst, tup_tup, see_non, see_bl, see_int, see_str, see_tup, see_lst, see_dic, see_adr, see_scr, see_kup, ty_non, ty_bl, ty_int, ty_str, ty_tup, ty_lst, ty_kup, reduceCtorEq, nn_non, nn_bl, nn_int, nn_str, nn_tup, nn_lst, nn_dic, wFrz, wSl, oSome, oNone, ixT0, ixT1, ixT2, ixT3, ixL0, ixL1, ixL2, ixL3, eqII, neII, eqBB, neBB, eqPP, nePP, sz0, sz1, sz2, sz3, sz4, sz5, sz6, sz7, sz8, sz9, sz10, sz12, sz1b, sz2b, sz3b, sz4b, Option.bind_some, Bool.not_true, Bool.not_false, decide_eq_true_eq, beq_iff_eq, Bool.not_eq_true', beq_eq_false_iff_ne, ne_eq, kII, kIB, kIT, kIS, kIL, kBI, kBB, kBT, kBS, kBL, kSI, kSB, kST, kSS, kSL, kNI, kNB, kNT, kNS, kNL, kTI, kTB, kTT, kTS, kTL, kLI, kLB, kLT, kLS, kLL]
        split
        · exact near t1.1 fun d M' hd' t => hrt d M' hd' (t1.trans t).aft
        · exact rest ds M1 (by rw [see_pure vp]; exact .inr rfl) h1 (by omega) h2 t1
    | lst ds =>
      obtain ⟨h1, h2⟩ := th_lst.mp hv
      simp only [sSeq, sSet, sIf, sRet, sDrop, sNil, sRaise, sAsg, sPar2, sPar3, gSet, gTupD, gsCons, gsNil, gSub, wVar, wC, wOp, wB, wTup, wFz, wSt, fLst, fCat, zNil, zCons, wAnd, wOr, wNot, wIf, wTst, uAnd, uOr, uNot, tstOp, wLeLe, uLtLt, wNeg, oSub, oMul, oDiv, oMod, oPow, oLt, oLe, oGt, oGe, oCmp, oAbs, wIsi, wCall, wIsN, uIsN, startD, lenD, viewL, List.map_cons, List.map_nil, List.length_cons, List.length_nil, List.replicate, List.cons_append, List.nil_append, List.getElem?_cons_zero, List.getElem?_cons_succ, List.set_cons_zero, List.set_cons_succ, Nat.add_sub_cancel, Nat.sub_self, Nat.zero_add, Nat.reduceAdd, Nat.reduceSub, if_true, if_false, true_and, and_true, Bool.false_eq_true, reduceIte, ↓reduceIte, min_ii, max_ii, add_ii, add_tt, add_ss, add_ll, len_tup, len_lst, len_scr, len_str, int_int, int_bl, tup_lst, tup_tup, see_non, see_bl, see_int, see_str, see_tup, see_lst, see_dic, see_adr, see_scr, see_kup, ty_non, ty_bl, ty_int, ty_str, ty_tup, ty_lst, ty_kup, reduceCtorEq, nn_non, nn_bl, nn_int, nn_str, nn_tup, nn_lst, nn_dic, wFrz, wSl, oSome, oNone, ixT0, ixT1, ixT2, ixT3, ixL0, ixL1, ixL2, ixL3, eqII, neII, eqBB, neBB, eqPP, nePP, sz0, sz1, sz2, sz3, sz4, sz5, sz6, sz7, sz8, sz9, sz10, sz12, sz1b, sz2b, sz3b, sz4b, Option.bind_some, Bool.not_true, Bool.not_false, decide_eq_true_eq, beq_iff_eq, Bool.not_eq_true', beq_eq_false_iff_ne, ne_eq, kII, kIB, kIT, kIS, kIL, kBI, kBB, kBT, kBS, kBL, kSI, kSB, kST, kSS, kSL, kNI, kNB, kNT, kNS, kNL, kTI, kTB, kTT, kTS, kTL, kLI, kLB, kLT, kLS, kLL]
      rw [if_neg (by decide)]
      by_cases h0 : (ds.length : Int) = 0
      · rw [if_pos h0]
        exact near c fun d M' hd' t => hrt d M' hd' t.aft
      · rw [if_neg h0]
        refine spin_ok' c (by decide) (by decide) fun u M1 u1 u2 t1 => ?_
        simp only [sSeq, sSet, sIf, sRet, sDrop, sNil, sRaise, sAsg, sPar2, sPar3, gSet, gTupD, gsCons, gsNil, gSub, wVar, wC, wOp, wB, wTup, wFz, wSt, fLst, fCat, zNil, zCons, wAnd, wOr, wNot, wIf, wTst, uAnd, uOr, uNot, tstOp, wLeLe, uLtLt, wNeg, oSub, oMul, oDiv, oMod, oPow, oLt, oLe, oGt, oGe, oCmp, oAbs, wIsi, wCall, wIsN, uIsN, startD, lenD, viewL, List.map_cons, List.map_nil, List.length_cons, List.length_nil, List.replicate, List.cons_append, List.nil_append, List.getElem?_cons_zero, List.getElem?_cons_succ, List.set_cons_zero, List.set_cons_succ, Nat.add_sub_cancel, Nat.sub_self, Nat.zero_add, Nat.reduceAdd, Nat.reduceSub, if_true, if_false, true_and, and_true, Bool.false_eq_true, reduceIte, ↓reduceIte, min_ii, max_ii, add_ii, add_tt, add_ss, add_ll, len_tup, len_lst, len_scr, len_str, int_int, int_bl, tup_lst, tup_tup, see_non, see_bl, see_int, see_str, see_tup, see_lst, see_dic, see_adr, see_scr, see_kup, ty_non, ty_bl, ty_int, ty_str, ty_tup, ty_lst, ty_kup, reduceCtorEq, nn_non, nn_bl, nn_int, nn_str, nn_tup, nn_lst, nn_dic, wFrz, wSl, oSome, oNone, ixT0, ixT1, ixT2, ixT3, ixL0, ixL1, ixL2, ixL3, eqII, neII, eqBB, neBB, eqPP, nePP, sz0, sz1, sz2, sz3, sz4, sz5, sz6, sz7, sz8, sz9, sz10, sz12, sz1b, sz2b, sz3b, sz4b, Option.bind_some, Bool.not_true, Bool.not_false, decide_eq_true_eq, beq_iff_eq, Bool.not_eq_true', beq_eq_false_iff_ne, ne_eq, kII, kIB, kIT, kIS, kIL, kBI, kBB, kBT, kBS, kBL, kSI, kSB, kST, kSS, kSL, kNI, kNB, kNT, kNS, kNL, kTI, kTB, kTT, kTS, kTL, kLI, kLB, kLT, kLS, kLL]
        split
        · exact near t1.1 fun d M' hd' t => hrt d M' hd' (t1.trans t).aft
        · exact rest ds M1 (by rw [see_pure vp]; exact .inl rfl) h1 (by omega) h2 t1
    | non =>
      simp only [sSeq, sSet, sIf, sRet, sDrop, sNil, sRaise, sAsg, sPar2, sPar3, gSet, gTupD, gsCons, gsNil, gSub, wVar, wC, wOp, wB, wTup, wFz, wSt, fLst, fCat, zNil, zCons, wAnd, wOr, wNot, wIf, wTst, uAnd, uOr, uNot, tstOp, wLeLe, uLtLt, wNeg, oSub, oMul, oDiv, oMod, oPow, oLt, oLe, oGt, oGe, oCmp, oAbs, wIsi, wCall, wIsN, uIsN, startD, lenD, viewL, List.map_cons, List.map_nil, List.length_cons, List.length_nil, List.replicate, List.cons_append, List.nil_append, List.getElem?_cons_zero, List.getElem?_cons_succ, List.set_cons_zero, List.set_cons_succ, Nat.add_sub_cancel, Nat.sub_self, Nat.zero_add, Nat.reduceAdd, Nat.reduceSub, if_true, if_false, true_and, and_true, Bool.false_eq_true, reduceIte, ↓reduceIte, min_ii, max_ii, add_ii, add_tt, add_ss, add_ll, len_tup, len_lst, len_scr, len_str, int_int, int_bl, tup_lst, tup_tup, see_non, see_bl, see_int, see_str, see_tup, see_lst, see_dic, see_adr, see_scr, see_kup, ty_non, ty_bl, ty_int, ty_str, ty_tup, ty_lst, ty_kup, reduceCtorEq, nn_non, nn_bl, nn_int, nn_str, nn_tup, nn_lst, nn_dic, wFrz, wSl, oSome, oNone, ixT0, ixT1, ixT2, ixT3, ixL0, ixL1, ixL2, ixL3, eqII, neII, eqBB, neBB, eqPP, nePP, sz0, sz1, sz2, sz3, sz4, sz5, sz6, sz7, sz8, sz9, sz10, sz12, sz1b, sz2b, sz3b, sz4b, Option.bind_some, Bool.not_true, Bool.not_false, decide_eq_true_eq, beq_iff_eq, Bool.not_eq_true', beq_eq_false_iff_ne, ne_eq, kII, kIB, kIT, kIS, kIL, kBI, kBB, kBT, kBS, kBL, kSI, kSB, kST, kSS, kSL, kNI, kNB, kNT, kNS, kNL, kTI, kTB, kTT, kTS, kTL, kLI, kLB, kLT, kLS, kLL]
      rw [if_pos (by decide)]
      exact near c fun d M' hd' t => hrt d M' hd' t.aft
    | bl b =>
      simp only [sSeq, sSet, sIf, sRet, sDrop, sNil, sRaise, sAsg, sPar2, sPar3, gSet, gTupD, gsCons, gsNil, gSub, wVar, wC, wOp, wB, wTup, wFz, wSt, fLst, fCat, zNil, zCons, wAnd, wOr, wNot, wIf, wTst, uAnd, uOr, uNot, tstOp, wLeLe, uLtLt, wNeg, oSub, oMul, oDiv, oMod, oPow, oLt, oLe, oGt, oGe, oCmp, oAbs, wIsi, wCall, wIsN, uIsN, startD, lenD, viewL, List.map_cons, List.map_nil, List.length_cons, List.length_nil, List.replicate, List.cons_append, List.nil_append, List.getElem?_cons_zero, List.getElem?_cons_succ, List.set_cons_zero, List.set_cons_succ, Nat.add_sub_cancel, Nat.sub_self, Nat.zero_add, Nat.reduceAdd, Nat.reduceSub, if_true, if_false, true_and, and_true, Bool.false_eq_true, reduceIte, ↓reduceIte, min_ii, max_ii, add_ii, add_tt, add_ss, add_ll, len_tup, len_lst, len_scr, len_str, int_int, int_bl, tup_lst, tup_tup, see_non, see_bl, see_int, see_str, see_tup, see_lst, see_dic, see_adr, see_scr, see_kup, ty_non, ty_bl, ty_int, ty_str, ty_tup, ty_lst, ty_kup, reduceCtorEq, nn_non, nn_bl, nn_int, nn_str, nn_tup, nn_lst, nn_dic, wFrz, wSl, oSome, oNone, ixT0, ixT1, ixT2, ixT3, ixL0, ixL1, ixL2, ixL3, eqII, neII, eqBB, neBB, eqPP, nePP, sz0, sz1, sz2, sz3, sz4, sz5, sz6, sz7, sz8, sz9, sz10, sz12, sz1b, sz2b, sz3b, sz4b, Option.bind_some, Bool.not_true, Bool.not_false, decide_eq_true_eq, beq_iff_eq, Bool.not_eq_true', beq_eq_false_iff_ne, ne_eq, kII, kIB, kIT, kIS, kIL, kBI, kBB, kBT, kBS, kBL, kSI, kSB, kST, kSS, kSL, kNI, kNB, kNT, kNS, kNL, kTI, kTB, kTT, kTS, kTL, kLI, kLB, kLT, kLS, kLL]
      rw [if_pos (by decide)]
      exact near c fun d M' hd' t => hrt d M' hd' t.aft
    | int j =>
      simp only [sSeq, sSet, sIf, sRet, sDrop, sNil, sRaise, sAsg, sPar2, sPar3, gSet, gTupD, gsCons, gsNil, gSub, wVar, wC, wOp, wB, wTup, wFz, wSt, fLst, fCat, zNil, zCons, wAnd, wOr, wNot, wIf, wTst, uAnd, uOr, uNot, tstOp, wLeLe, uLtLt, wNeg, oSub, oMul, oDiv, oMod, oPow, oLt, oLe, oGt, oGe, oCmp, oAbs, wIsi, wCall, wIsN, uIsN, startD, lenD, viewL, List.map_cons, List.map_nil, List.length_cons, List.length_nil, List.replicate, List.cons_append, List.nil_append, List.getElem?_cons_zero, List.getElem?_cons_succ, List.set_cons_zero, List.set_cons_succ, Nat.add_sub_cancel, Nat.sub_self, Nat.zero_add, Nat.reduceAdd, Nat.reduceSub, if_true, if_false, true_and, and_true, Bool.false_eq_true, reduceIte, ↓reduceIte, min_ii, max_ii, add_ii, add_tt, add_ss, add_ll, len_tup, len_lst, len_scr, len_str, int_int, int_bl, tup_lst, tup_tup, see_non, see_bl, see_int, see_str, see_tup, see_lst, see_dic, see_adr, see_scr, see_kup, ty_non, ty_bl, ty_int, ty_str, ty_tup, ty_lst, ty_kup, reduceCtorEq, nn_non, nn_bl, nn_int, nn_str, nn_tup, nn_lst, nn_dic, wFrz, wSl, oSome, oNone, ixT0, ixT1, ixT2, ixT3, ixL0, ixL1, ixL2, ixL3, eqII, neII, eqBB, neBB, eqPP, nePP, sz0, sz1, sz2, sz3, sz4, sz5, sz6, sz7, sz8, sz9, sz10, sz12, sz1b, sz2b, sz3b, sz4b, Option.bind_some, Bool.not_true, Bool.not_false, decide_eq_true_eq, beq_iff_eq, Bool.not_eq_true', beq_eq_false_iff_ne, ne_eq, kII, kIB, kIT, kIS, kIL, kBI, kBB, kBT, kBS, kBL, kSI, kSB, kST, kSS, kSL, kNI, kNB, kNT, kNS, kNL, kTI, kTB, kTT, kTS, kTL, kLI, kLB, kLT, kLS, kLL]
      rw [if_pos (by decide)]
      exact near c fun d M' hd' t => hrt d M' hd' t.aft
    | str z =>
      simp only [sSeq, sSet, sIf, sRet, sDrop, sNil, sRaise, sAsg, sPar2, sPar3, gSet, gTupD, gsCons, gsNil, gSub, wVar, wC, wOp, wB, wTup, wFz, wSt, fLst, fCat, zNil, zCons, wAnd, wOr, wNot, wIf, wTst, uAnd, uOr, uNot, tstOp, wLeLe, uLtLt, wNeg, oSub, oMul, oDiv, oMod, oPow, oLt, oLe, oGt, oGe, oCmp, oAbs, wIsi, wCall, wIsN, uIsN, startD, lenD, viewL, List.map_cons, List.map_nil, List.length_cons, List.length_nil, List.replicate, List.cons_append, List.nil_append, List.getElem?_cons_zero, List.getElem?_cons_succ, List.set_cons_zero, List.set_cons_succ, Nat.add_sub_cancel, Nat.sub_self, Nat.zero_add, Nat.reduceAdd, Nat.reduceSub, if_true, if_false, true_and, and_true, Bool.false_eq_true, reduceIte, ↓reduceIte, min_ii, max_ii, add_ii, add_tt, add_ss, add_ll, len_tup, len_lst, len_scr, len_str, int_int, int_bl, tup_lst, tup_tup, see_non, see_bl, see_int, see_str, see_tup, see_lst, see_dic, see_adr, see_scr, see_kup, ty_non, ty_bl, ty_int, ty_str, ty_tup, ty_lst, ty_kup, reduceCtorEq, nn_non, nn_bl, nn_int, nn_str, nn_tup, nn_lst, nn_dic, wFrz, wSl, oSome, oNone, ixT0, ixT1, ixT2, ixT3, ixL0, ixL1, ixL2, ixL3, eqII, neII, eqBB, neBB, eqPP, nePP, sz0, sz1, sz2, sz3, sz4, sz5, sz6, sz7, sz8, sz9, sz10, sz12, sz1b, sz2b, sz3b, sz4b, Option.bind_some, Bool.not_true, Bool.not_false, decide_eq_true_eq, beq_iff_eq, Bool.not_eq_true', beq_eq_false_iff_ne, ne_eq, kII, kIB, kIT, kIS, kIL, kBI, kBB, kBT, kBS, kBL, kSI, kSB, kST, kSS, kSL, kNI, kNB, kNT, kNS, kNL, kTI, kTB, kTT, kTS, kTL, kLI, kLB, kLT, kLS, kLL]
      rw [if_pos (by decide)]
      exact near c fun d M' hd' t => hrt d M' hd' t.aft
    | dic _ => exact nomatch hv
    | ref _ => exact nomatch hv
    | adr _ => exact nomatch hv
    | scr _ => exact nomatch hv
    | kup _ => exact nomatch hv
end
end L3.K01
set_option maxRecDepth 100000
set_option maxHeartbeats 1000000
/-! W01: the law's own; what slitting gives. -/
namespace L3.K01
open PySem PySem.Spec PyProof.Rows L2 L3 Gl
theorem bad_told {c t : Str} (h : c ∈ errNames) (e : kindTxt c = t) (h1 : D.ok 60 (.tup [.str t]) = true) {M : Mem} {Q : D → Prop} (q : Q (.bl false)) : oEq true (toldX ⟨c, none⟩) (.tup [.str t]) M Q := by
  refine ⟨by show D.ok 60 (.tup [.str (kindTxt c)]) = true; rw [e]; exact h1, h1, ?_⟩
  have e : eqD (seeD M (toldX ⟨c, none⟩)) (seeD M (.tup [.str t])) = true := by
    show (((kindTxt c) == (t : Str)) && true) = true
    rw [e]; simp
  rw [e]
  exact q
theorem bad_loop_t {M : Mem} {Q : D → Prop} (q : Q (.bl false)) : oEq true (toldX ⟨"InvalidLoop", none⟩) (.tup [.str "InvalidLoop +"]) M Q := bad_told (by decide) (by decide +kernel) (by decide +kernel) q
theorem bad_num_t {M : Mem} {Q : D → Prop} (q : Q (.bl false)) : oEq true (toldX ⟨"InvalidNumber", none⟩) (.tup [.str "InvalidNumber +"]) M Q := bad_told (by decide) (by decide +kernel) (by decide +kernel) q
theorem good_loop_x : GoodX ⟨"InvalidLoop", none⟩ := ⟨by decide, rfl⟩
theorem good_num_x : GoodX ⟨"InvalidNumber", none⟩ := ⟨by decide, rfl⟩
section
variable {M : Mem} {D : EndsD} {E : ExK} {Q : KD} {i : Nat} {l : Ring} {v u : L3.D} {af : Str → Addr}
theorem whole_any {lo hi : Int} (hv : v.pure = true) (h : Q (.bl (isIntD v lo hi)) M) : C__law_is_whole [v, .int lo, .int hi] M Q E := by
  cases v with
  | int i =>
    simp only [Cq__law_is_whole, b_law_is_whole, b_law_is_whole_s1, sSeq, sSet, sIf, sRet, sDrop, sNil, sRaise, sAsg, sPar2, sPar3, gSet, gTupD, gsCons, gsNil, gSub, wVar, wC, wOp, wB, wTup, wFz, wSt, fLst, fCat, zNil, zCons, wAnd, wOr, wNot, wIf, wTst, uAnd, uOr, uNot, tstOp, wLeLe, uLtLt, wNeg, oSub, oMul, oDiv, oMod, oPow, oLt, oLe, oGt, oGe, oCmp, oAbs, wIsi, wCall, wIsN, uIsN, startD, lenD, viewL, List.map_cons, List.map_nil, List.length_cons, List.length_nil, List.replicate, List.cons_append, List.nil_append, List.getElem?_cons_zero, List.getElem?_cons_succ, List.set_cons_zero, List.set_cons_succ, Nat.add_sub_cancel, Nat.sub_self, Nat.zero_add, Nat.reduceAdd, Nat.reduceSub, if_true, if_false, true_and, and_true, Bool.false_eq_true, reduceIte, ↓reduceIte, min_ii, max_ii, add_ii, add_tt, add_ss, add_ll, len_tup, len_lst, len_scr, len_str, int_int, int_bl, tup_lst, tup_tup, see_non, see_bl, see_int, see_str, see_tup, see_lst, see_dic, see_adr, see_scr, see_kup, ty_non, ty_bl, ty_int, ty_str, ty_tup, ty_lst, ty_kup, reduceCtorEq, nn_non, nn_bl, nn_int, nn_str, nn_tup, nn_lst, nn_dic, wFrz, wSl, oSome, oNone, ixT0, ixT1, ixT2, ixT3, ixL0, ixL1, ixL2, ixL3, eqII, neII, eqBB, neBB, eqPP, nePP, sz0, sz1, sz2, sz3, sz4, sz5, sz6, sz7, sz8, sz9, sz10, sz12, sz1b, sz2b, sz3b, sz4b, Option.bind_some, Bool.not_true, Bool.not_false, decide_eq_true_eq, beq_iff_eq, Bool.not_eq_true', beq_eq_false_iff_ne, ne_eq, kII, kIB, kIT, kIS, kIL, kBI, kBB, kBT, kBS, kBL, kSI, kSB, kST, kSS, kSL, kNI, kNB, kNT, kNS, kNL, kTI, kTB, kTT, kTS, kTL, kLI, kLB, kLT, kLS, kLL]
    unfold isIntD at h
    by_cases h1 : lo ≤ i
    · simpa [h1] using h
    · simpa [h1] using h
  | dic _ => exact nomatch hv
  | ref _ => exact nomatch hv
  | adr _ => exact nomatch hv
  | scr _ => exact nomatch hv
  | kup _ => exact nomatch hv
  | _ =>
    simp only [Cq__law_is_whole, b_law_is_whole, b_law_is_whole_s1, sSeq, sSet, sIf, sRet, sDrop, sNil, sRaise, sAsg, sPar2, sPar3, gSet, gTupD, gsCons, gsNil, gSub, wVar, wC, wOp, wB, wTup, wFz, wSt, fLst, fCat, zNil, zCons, wAnd, wOr, wNot, wIf, wTst, uAnd, uOr, uNot, tstOp, wLeLe, uLtLt, wNeg, oSub, oMul, oDiv, oMod, oPow, oLt, oLe, oGt, oGe, oCmp, oAbs, wIsi, wCall, wIsN, uIsN, startD, lenD, viewL, List.map_cons, List.map_nil, List.length_cons, List.length_nil, List.replicate, List.cons_append, List.nil_append, List.getElem?_cons_zero, List.getElem?_cons_succ, List.set_cons_zero, List.set_cons_succ, Nat.add_sub_cancel, Nat.sub_self, Nat.zero_add, Nat.reduceAdd, Nat.reduceSub, if_true, if_false, true_and, and_true, Bool.false_eq_true, reduceIte, ↓reduceIte, min_ii, max_ii, add_ii, add_tt, add_ss, add_ll, len_tup, len_lst, len_scr, len_str, int_int, int_bl, tup_lst, tup_tup, see_non, see_bl, see_int, see_str, see_tup, see_lst, see_dic, see_adr, see_scr, see_kup, ty_non, ty_bl, ty_int, ty_str, ty_tup, ty_lst, ty_kup, reduceCtorEq, nn_non, nn_bl, nn_int, nn_str, nn_tup, nn_lst, nn_dic, wFrz, wSl, oSome, oNone, ixT0, ixT1, ixT2, ixT3, ixL0, ixL1, ixL2, ixL3, eqII, neII, eqBB, neBB, eqPP, nePP, sz0, sz1, sz2, sz3, sz4, sz5, sz6, sz7, sz8, sz9, sz10, sz12, sz1b, sz2b, sz3b, sz4b, Option.bind_some, Bool.not_true, Bool.not_false, decide_eq_true_eq, beq_iff_eq, Bool.not_eq_true', beq_eq_false_iff_ne, ne_eq, kII, kIB, kIT, kIS, kIL, kBI, kBB, kBT, kBS, kBL, kSI, kSB, kST, kSS, kSL, kNI, kNB, kNT, kNS, kNL, kTI, kTB, kTT, kTS, kTL, kLI, kLB, kLT, kLS, kLL]
    exact h
theorem is_ring_any (hv : v.pure = true) (h : Q (.bl (isLoopD v)) M) : C__law_is_ring [v] M Q E := by
  by_cases ht : ∃ ds, v = .tup ds
  · obtain ⟨ds, rfl⟩ := ht
    by_cases hl : ds.length = 3
    · obtain ⟨a, b, c, rfl⟩ := len3 hl
      obtain ⟨pa, pb, pc⟩ := pures3 hv
      simp only [Cq__law_is_ring, b_law_is_ring, b_law_is_ring_s1, b_law_is_ring_s2, b_law_is_ring_s3, sSeq, sSet, sIf, sRet, sDrop, sNil, sRaise, sAsg, sPar2, sPar3, gSet, gTupD, gsCons, gsNil, gSub, wVar, wC, wOp, wB, wTup, wFz, wSt, fLst, fCat, zNil, zCons, wAnd, wOr, wNot, wIf, wTst, uAnd, uOr, uNot, tstOp, wLeLe, uLtLt, wNeg, oSub, oMul, oDiv, oMod, oPow, oLt, oLe, oGt, oGe, oCmp, oAbs, wIsi, wCall, wIsN, uIsN, startD, lenD, viewL, List.map_cons, List.map_nil, List.length_cons, List.length_nil, List.replicate, List.cons_append, List.nil_append, List.getElem?_cons_zero, List.getElem?_cons_succ, List.set_cons_zero, List.set_cons_succ, Nat.add_sub_cancel, Nat.sub_self, Nat.zero_add, Nat.reduceAdd, Nat.reduceSub, if_true, if_false, true_and, and_true, Bool.false_eq_true, reduceIte, ↓reduceIte, min_ii, max_ii, add_ii, add_tt, add_ss, add_ll, len_tup, len_lst, len_scr, len_str, int_int, int_bl, tup_lst, tup_tup, see_non, see_bl, see_int, see_str, see_tup, see_lst, see_dic, see_adr, see_scr, see_kup, ty_non, ty_bl, ty_int, ty_str, ty_tup, ty_lst, ty_kup, reduceCtorEq, nn_non, nn_bl, nn_int, nn_str, nn_tup, nn_lst, nn_dic, wFrz, wSl, oSome, oNone, ixT0, ixT1, ixT2, ixT3, ixL0, ixL1, ixL2, ixL3, eqII, neII, eqBB, neBB, eqPP, nePP, sz0, sz1, sz2, sz3, sz4, sz5, sz6, sz7, sz8, sz9, sz10, sz12, sz1b, sz2b, sz3b, sz4b, Option.bind_some, Bool.not_true, Bool.not_false, decide_eq_true_eq, beq_iff_eq, Bool.not_eq_true', beq_eq_false_iff_ne, ne_eq, kII, kIB, kIT, kIS, kIL, kBI, kBB, kBT, kBS, kBL, kSI, kSB, kST, kSS, kSL, kNI, kNB, kNT, kNS, kNL, kTI, kTB, kTT, kTS, kTL, kLI, kLB, kLT, kLS, kLL]
      rw [if_neg (by decide)]
      refine whole_any pa ?_
      cases ea : isIntD a 1 4 with
      | false =>
        have e : isLoopD (.tup [a, b, c]) = false := by show (isIntD a 1 4 && isIntD b 1 4 && !(isIntD b 3 3) && isBoolD c) = false; rw [ea]; rfl
        rw [e] at h
        simp only [sSeq, sSet, sIf, sRet, sDrop, sNil, sRaise, sAsg, sPar2, sPar3, gSet, gTupD, gsCons, gsNil, gSub, wVar, wC, wOp, wB, wTup, wFz, wSt, fLst, fCat, zNil, zCons, wAnd, wOr, wNot, wIf, wTst, uAnd, uOr, uNot, tstOp, wLeLe, uLtLt, wNeg, oSub, oMul, oDiv, oMod, oPow, oLt, oLe, oGt, oGe, oCmp, oAbs, wIsi, wCall, wIsN, uIsN, startD, lenD, viewL, List.map_cons, List.map_nil, List.length_cons, List.length_nil, List.replicate, List.cons_append, List.nil_append, List.getElem?_cons_zero, List.getElem?_cons_succ, List.set_cons_zero, List.set_cons_succ, Nat.add_sub_cancel, Nat.sub_self, Nat.zero_add, Nat.reduceAdd, Nat.reduceSub, if_true, if_false, true_and, and_true, Bool.false_eq_true, reduceIte, ↓reduceIte, min_ii, max_ii, add_ii, add_tt, add_ss, add_ll, len_tup, len_lst, len_scr, len_str, int_int, int_bl, tup_lst, tup_tup, see_non, see_bl, see_int, see_str, see_tup, see_lst, see_dic, see_adr, see_scr, see_kup, ty_non, ty_bl, ty_int, ty_str, ty_tup, ty_lst, ty_kup, reduceCtorEq, nn_non, nn_bl, nn_int, nn_str, nn_tup, nn_lst, nn_dic, wFrz, wSl, oSome, oNone, ixT0, ixT1, ixT2, ixT3, ixL0, ixL1, ixL2, ixL3, eqII, neII, eqBB, neBB, eqPP, nePP, sz0, sz1, sz2, sz3, sz4, sz5, sz6, sz7, sz8, sz9, sz10, sz12, sz1b, sz2b, sz3b, sz4b, Option.bind_some, Bool.not_true, Bool.not_false, decide_eq_true_eq, beq_iff_eq, Bool.not_eq_true', beq_eq_false_iff_ne, ne_eq, kII, kIB, kIT, kIS, kIL, kBI, kBB, kBT, kBS, kBL, kSI, kSB, kST, kSS, kSL, kNI, kNB, kNT, kNS, kNL, kTI, kTB, kTT, kTS, kTL, kLI, kLB, kLT, kLS, kLL]
        exact h
      | true =>
        simp only [sSeq, sSet, sIf, sRet, sDrop, sNil, sRaise, sAsg, sPar2, sPar3, gSet, gTupD, gsCons, gsNil, gSub, wVar, wC, wOp, wB, wTup, wFz, wSt, fLst, fCat, zNil, zCons, wAnd, wOr, wNot, wIf, wTst, uAnd, uOr, uNot, tstOp, wLeLe, uLtLt, wNeg, oSub, oMul, oDiv, oMod, oPow, oLt, oLe, oGt, oGe, oCmp, oAbs, wIsi, wCall, wIsN, uIsN, startD, lenD, viewL, List.map_cons, List.map_nil, List.length_cons, List.length_nil, List.replicate, List.cons_append, List.nil_append, List.getElem?_cons_zero, List.getElem?_cons_succ, List.set_cons_zero, List.set_cons_succ, Nat.add_sub_cancel, Nat.sub_self, Nat.zero_add, Nat.reduceAdd, Nat.reduceSub, if_true, if_false, true_and, and_true, Bool.false_eq_true, reduceIte, ↓reduceIte, min_ii, max_ii, add_ii, add_tt, add_ss, add_ll, len_tup, len_lst, len_scr, len_str, int_int, int_bl, tup_lst, tup_tup, see_non, see_bl, see_int, see_str, see_tup, see_lst, see_dic, see_adr, see_scr, see_kup, ty_non, ty_bl, ty_int, ty_str, ty_tup, ty_lst, ty_kup, reduceCtorEq, nn_non, nn_bl, nn_int, nn_str, nn_tup, nn_lst, nn_dic, wFrz, wSl, oSome, oNone, ixT0, ixT1, ixT2, ixT3, ixL0, ixL1, ixL2, ixL3, eqII, neII, eqBB, neBB, eqPP, nePP, sz0, sz1, sz2, sz3, sz4, sz5, sz6, sz7, sz8, sz9, sz10, sz12, sz1b, sz2b, sz3b, sz4b, Option.bind_some, Bool.not_true, Bool.not_false, decide_eq_true_eq, beq_iff_eq, Bool.not_eq_true', beq_eq_false_iff_ne, ne_eq, kII, kIB, kIT, kIS, kIL, kBI, kBB, kBT, kBS, kBL, kSI, kSB, kST, kSS, kSL, kNI, kNB, kNT, kNS, kNL, kTI, kTB, kTT, kTS, kTL, kLI, kLB, kLT, kLS, kLL]
        refine whole_any pb ?_
        cases eb : isIntD b 1 4 with
        | false =>
          have e : isLoopD (.tup [a, b, c]) = false := by show (isIntD a 1 4 && isIntD b 1 4 && !(isIntD b 3 3) && isBoolD c) = false; rw [ea, eb]; rfl
          rw [e] at h
          simp only [sSeq, sSet, sIf, sRet, sDrop, sNil, sRaise, sAsg, sPar2, sPar3, gSet, gTupD, gsCons, gsNil, gSub, wVar, wC, wOp, wB, wTup, wFz, wSt, fLst, fCat, zNil, zCons, wAnd, wOr, wNot, wIf, wTst, uAnd, uOr, uNot, tstOp, wLeLe, uLtLt, wNeg, oSub, oMul, oDiv, oMod, oPow, oLt, oLe, oGt, oGe, oCmp, oAbs, wIsi, wCall, wIsN, uIsN, startD, lenD, viewL, List.map_cons, List.map_nil, List.length_cons, List.length_nil, List.replicate, List.cons_append, List.nil_append, List.getElem?_cons_zero, List.getElem?_cons_succ, List.set_cons_zero, List.set_cons_succ, Nat.add_sub_cancel, Nat.sub_self, Nat.zero_add, Nat.reduceAdd, Nat.reduceSub, if_true, if_false, true_and, and_true, Bool.false_eq_true, reduceIte, ↓reduceIte, min_ii, max_ii, add_ii, add_tt, add_ss, add_ll, len_tup, len_lst, len_scr, len_str, int_int, int_bl, tup_lst, tup_tup, see_non, see_bl, see_int, see_str, see_tup, see_lst, see_dic, see_adr, see_scr, see_kup, ty_non, ty_bl, ty_int, ty_str, ty_tup, ty_lst, ty_kup, reduceCtorEq, nn_non, nn_bl, nn_int, nn_str, nn_tup, nn_lst, nn_dic, wFrz, wSl, oSome, oNone, ixT0, ixT1, ixT2, ixT3, ixL0, ixL1, ixL2, ixL3, eqII, neII, eqBB, neBB, eqPP, nePP, sz0, sz1, sz2, sz3, sz4, sz5, sz6, sz7, sz8, sz9, sz10, sz12, sz1b, sz2b, sz3b, sz4b, Option.bind_some, Bool.not_true, Bool.not_false, decide_eq_true_eq, beq_iff_eq, Bool.not_eq_true', beq_eq_false_iff_ne, ne_eq, kII, kIB, kIT, kIS, kIL, kBI, kBB, kBT, kBS, kBL, kSI, kSB, kST, kSS, kSL, kNI, kNB, kNT, kNS, kNL, kTI, kTB, kTT, kTS, kTL, kLI, kLB, kLT, kLS, kLL]
          exact h
        | true =>
          obtain ⟨i, rfl, i1, i2⟩ := isInt_int eb
          simp only [sSeq, sSet, sIf, sRet, sDrop, sNil, sRaise, sAsg, sPar2, sPar3, gSet, gTupD, gsCons, gsNil, gSub, wVar, wC, wOp, wB, wTup, wFz, wSt, fLst, fCat, zNil, zCons, wAnd, wOr, wNot, wIf, wTst, uAnd, uOr, uNot, tstOp, wLeLe, uLtLt, wNeg, oSub, oMul, oDiv, oMod, oPow, oLt, oLe, oGt, oGe, oCmp, oAbs, wIsi, wCall, wIsN, uIsN, startD, lenD, viewL, List.map_cons, List.map_nil, List.length_cons, List.length_nil, List.replicate, List.cons_append, List.nil_append, List.getElem?_cons_zero, List.getElem?_cons_succ, List.set_cons_zero, List.set_cons_succ, Nat.add_sub_cancel, Nat.sub_self, Nat.zero_add, Nat.reduceAdd, Nat.reduceSub, if_true, if_false, true_and, and_true, Bool.false_eq_true, reduceIte, ↓reduceIte, min_ii, max_ii, add_ii, add_tt, add_ss, add_ll, len_tup, len_lst, len_scr, len_str, int_int, int_bl, tup_lst, tup_tup, see_non, see_bl, see_int, see_str, see_tup, see_lst, see_dic, see_adr, see_scr, see_kup, ty_non, ty_bl, ty_int, ty_str, ty_tup, ty_lst, ty_kup, reduceCtorEq, nn_non, nn_bl, nn_int, nn_str, nn_tup, nn_lst, nn_dic, wFrz, wSl, oSome, oNone, ixT0, ixT1, ixT2, ixT3, ixL0, ixL1, ixL2, ixL3, eqII, neII, eqBB, neBB, eqPP, nePP, sz0, sz1, sz2, sz3, sz4, sz5, sz6, sz7, sz8, sz9, sz10, sz12, sz1b, sz2b, sz3b, sz4b, Option.bind_some, Bool.not_true, Bool.not_false, decide_eq_true_eq, beq_iff_eq, Bool.not_eq_true', beq_eq_false_iff_ne, ne_eq, kII, kIB, kIT, kIS, kIL, kBI, kBB, kBT, kBS, kBL, kSI, kSB, kST, kSS, kSL, kNI, kNB, kNT, kNS, kNL, kTI, kTB, kTT, kTS, kTL, kLI, kLB, kLT, kLS, kLL]
          have e : isLoopD (.tup [a, .int i, c]) = (!(i == 3) && isBoolD c) := by
            show (isIntD a 1 4 && isIntD (.int i) 1 4 && !(isIntD (.int i) 3 3) && isBoolD c) = _
            rw [ea, eb]
            have : isIntD (.int i) 3 3 = (i == 3) := by
              show decide (3 ≤ i ∧ i ≤ 3) = (i == 3)
              rw [Bool.eq_iff_iff, decide_eq_true_eq, beq_iff_eq]
              omega
            rw [this]
            simp
          rw [e] at h
          cases em : (i == 3) with
          | true =>
            rw [em] at h
            simp only [beq_iff_eq] at em
            simp only [em, sSeq, sSet, sIf, sRet, sDrop, sNil, sRaise, sAsg, sPar2, sPar3, gSet, gTupD, gsCons, gsNil, gSub, wVar, wC, wOp, wB, wTup, wFz, wSt, fLst, fCat, zNil, zCons, wAnd, wOr, wNot, wIf, wTst, uAnd, uOr, uNot, tstOp, wLeLe, uLtLt, wNeg, oSub, oMul, oDiv, oMod, oPow, oLt, oLe, oGt, oGe, oCmp, oAbs, wIsi, wCall, wIsN, uIsN, startD, lenD, viewL, List.map_cons, List.map_nil, List.length_cons, List.length_nil, List.replicate, List.cons_append, List.nil_append, List.getElem?_cons_zero, List.getElem?_cons_succ, List.set_cons_zero, List.set_cons_succ, Nat.add_sub_cancel, Nat.sub_self, Nat.zero_add, Nat.reduceAdd, Nat.reduceSub, if_true, if_false, true_and, and_true, Bool.false_eq_true, reduceIte, ↓reduceIte, min_ii, max_ii, add_ii, add_tt, add_ss, add_ll, len_tup, len_lst, len_scr, len_str, int_int, int_bl, tup_lst, tup_tup, see_non, see_bl, see_int, see_str, see_tup, see_lst, see_dic, see_adr, see_scr, see_kup, ty_non, ty_bl, ty_int, ty_str, ty_tup, ty_lst, ty_kup, reduceCtorEq, nn_non, nn_bl, nn_int, nn_str, nn_tup, nn_lst, nn_dic, wFrz, wSl, oSome, oNone, ixT0, ixT1, ixT2, ixT3, ixL0, ixL1, ixL2, ixL3, eqII, neII, eqBB, neBB, eqPP, nePP, sz0, sz1, sz2, sz3, sz4, sz5, sz6, sz7, sz8, sz9, sz10, sz12, sz1b, sz2b, sz3b, sz4b, Option.bind_some, Bool.not_true, Bool.not_false, decide_eq_true_eq, beq_iff_eq, Bool.not_eq_true', beq_eq_false_iff_ne, ne_eq, kII, kIB, kIT, kIS, kIL, kBI, kBB, kBT, kBS, kBL, kSI, kSB, kST, kSS, kSL, kNI, kNB, kNT, kNS, kNL, kTI, kTB, kTT, kTS, kTL, kLI, kLB, kLT, kLS, kLL]
            exact h
          | false =>
            rw [em] at h
            simp only [beq_eq_false_iff_ne, ne_eq] at em
            simp only [if_neg em, if_pos em, sSeq, sSet, sIf, sRet, sDrop, sNil, sRaise, sAsg, sPar2, sPar3, gSet, gTupD, gsCons, gsNil, gSub, wVar, wC, wOp, wB, wTup, wFz, wSt, fLst, fCat, zNil, zCons, wAnd, wOr, wNot, wIf, wTst, uAnd, uOr, uNot, tstOp, wLeLe, uLtLt, wNeg, oSub, oMul, oDiv, oMod, oPow, oLt, oLe, oGt, oGe, oCmp, oAbs, wIsi, wCall, wIsN, uIsN, startD, lenD, viewL, List.map_cons, List.map_nil, List.length_cons, List.length_nil, List.replicate, List.cons_append, List.nil_append, List.getElem?_cons_zero, List.getElem?_cons_succ, List.set_cons_zero, List.set_cons_succ, Nat.add_sub_cancel, Nat.sub_self, Nat.zero_add, Nat.reduceAdd, Nat.reduceSub, if_true, if_false, true_and, and_true, Bool.false_eq_true, reduceIte, ↓reduceIte, min_ii, max_ii, add_ii, add_tt, add_ss, add_ll, len_tup, len_lst, len_scr, len_str, int_int, int_bl, tup_lst, tup_tup, see_non, see_bl, see_int, see_str, see_tup, see_lst, see_dic, see_adr, see_scr, see_kup, ty_non, ty_bl, ty_int, ty_str, ty_tup, ty_lst, ty_kup, reduceCtorEq, nn_non, nn_bl, nn_int, nn_str, nn_tup, nn_lst, nn_dic, wFrz, wSl, oSome, oNone, ixT0, ixT1, ixT2, ixT3, ixL0, ixL1, ixL2, ixL3, eqII, neII, eqBB, neBB, eqPP, nePP, sz0, sz1, sz2, sz3, sz4, sz5, sz6, sz7, sz8, sz9, sz10, sz12, sz1b, sz2b, sz3b, sz4b, Option.bind_some, Bool.not_true, Bool.not_false, decide_eq_true_eq, beq_iff_eq, Bool.not_eq_true', beq_eq_false_iff_ne, ne_eq, kII, kIB, kIT, kIS, kIL, kBI, kBB, kBT, kBS, kBL, kSI, kSB, kST, kSS, kSL, kNI, kNB, kNT, kNS, kNL, kTI, kTB, kTT, kTS, kTL, kLI, kLB, kLT, kLS, kLL]
            rw [isi_bool pc]
            exact h
    · rw [isLoopD_ne hl] at h
      simp only [Cq__law_is_ring, b_law_is_ring, b_law_is_ring_s1, b_law_is_ring_s2, b_law_is_ring_s3, sSeq, sSet, sIf, sRet, sDrop, sNil, sRaise, sAsg, sPar2, sPar3, gSet, gTupD, gsCons, gsNil, gSub, wVar, wC, wOp, wB, wTup, wFz, wSt, fLst, fCat, zNil, zCons, wAnd, wOr, wNot, wIf, wTst, uAnd, uOr, uNot, tstOp, wLeLe, uLtLt, wNeg, oSub, oMul, oDiv, oMod, oPow, oLt, oLe, oGt, oGe, oCmp, oAbs, wIsi, wCall, wIsN, uIsN, startD, lenD, viewL, List.map_cons, List.map_nil, List.length_cons, List.length_nil, List.replicate, List.cons_append, List.nil_append, List.getElem?_cons_zero, List.getElem?_cons_succ, List.set_cons_zero, List.set_cons_succ, Nat.add_sub_cancel, Nat.sub_self, Nat.zero_add, Nat.reduceAdd, Nat.reduceSub, if_true, if_false, true_and, and_true, Bool.false_eq_true, reduceIte, ↓reduceIte, min_ii, max_ii, add_ii, add_tt, add_ss, add_ll, len_tup, len_lst, len_scr, len_str, int_int, int_bl, tup_lst, tup_tup, see_non, see_bl, see_int, see_str, see_tup, see_lst, see_dic, see_adr, see_scr, see_kup, ty_non, ty_bl, ty_int, ty_str, ty_tup, ty_lst, ty_kup, reduceCtorEq, nn_non, nn_bl, nn_int, nn_str, nn_tup, nn_lst, nn_dic, wFrz, wSl, oSome, oNone, ixT0, ixT1, ixT2, ixT3, ixL0, ixL1, ixL2, ixL3, eqII, neII, eqBB, neBB, eqPP, nePP, sz0, sz1, sz2, sz3, sz4, sz5, sz6, sz7, sz8, sz9, sz10, sz12, sz1b, sz2b, sz3b, sz4b, Option.bind_some, Bool.not_true, Bool.not_false, decide_eq_true_eq, beq_iff_eq, Bool.not_eq_true', beq_eq_false_iff_ne, ne_eq, kII, kIB, kIT, kIS, kIL, kBI, kBB, kBT, kBS, kBL, kSI, kSB, kST, kSS, kSL, kNI, kNB, kNT, kNS, kNL, kTI, kTB, kTT, kTS, kTL, kLI, kLB, kLT, kLS, kLL]
      rw [if_pos (by omega)]
      exact h
  · have hn : ∀ ds, v ≠ .tup ds := fun ds e => ht ⟨ds, e⟩
    have e : isLoopD v = false := by cases v <;> first | rfl | exact absurd rfl (hn _)
    rw [e] at h
    have it : isTupD v = false := by cases v <;> first | rfl | exact absurd rfl (hn _)
    simp only [Cq__law_is_ring, b_law_is_ring, b_law_is_ring_s1, b_law_is_ring_s2, sSeq, sSet, sIf, sRet, sDrop, sNil, sRaise, sAsg, sPar2, sPar3, gSet, gTupD, gsCons, gsNil, gSub, wVar, wC, wOp, wB, wTup, wFz, wSt, fLst, fCat, zNil, zCons, wAnd, wOr, wNot, wIf, wTst, uAnd, uOr, uNot, tstOp, wLeLe, uLtLt, wNeg, oSub, oMul, oDiv, oMod, oPow, oLt, oLe, oGt, oGe, oCmp, oAbs, wIsi, wCall, wIsN, uIsN, startD, lenD, viewL, List.map_cons, List.map_nil, List.length_cons, List.length_nil, List.replicate, List.cons_append, List.nil_append, List.getElem?_cons_zero, List.getElem?_cons_succ, List.set_cons_zero, List.set_cons_succ, Nat.add_sub_cancel, Nat.sub_self, Nat.zero_add, Nat.reduceAdd, Nat.reduceSub, if_true, if_false, true_and, and_true, Bool.false_eq_true, reduceIte, ↓reduceIte, min_ii, max_ii, add_ii, add_tt, add_ss, add_ll, len_tup, len_lst, len_scr, len_str, int_int, int_bl, tup_lst, tup_tup, see_non, see_bl, see_int, see_str, see_tup, see_lst, see_dic, see_adr, see_scr, see_kup, ty_non, ty_bl, ty_int, ty_str, ty_tup, ty_lst, ty_kup, reduceCtorEq, nn_non, nn_bl, nn_int, nn_str, nn_tup, nn_lst, nn_dic, wFrz, wSl, oSome, oNone, ixT0, ixT1, ixT2, ixT3, ixL0, ixL1, ixL2, ixL3, eqII, neII, eqBB, neBB, eqPP, nePP, sz0, sz1, sz2, sz3, sz4, sz5, sz6, sz7, sz8, sz9, sz10, sz12, sz1b, sz2b, sz3b, sz4b, Option.bind_some, Bool.not_true, Bool.not_false, decide_eq_true_eq, beq_iff_eq, Bool.not_eq_true', beq_eq_false_iff_ne, ne_eq, kII, kIB, kIT, kIS, kIL, kBI, kBB, kBT, kBS, kBL, kSI, kSB, kST, kSS, kSL, kNI, kNB, kNT, kNS, kNL, kTI, kTB, kTT, kTS, kTL, kLI, kLB, kLT, kLS, kLL, isi_tup hv, it]
    exact h
theorem is_hope_any (hv : v.pure = true) (h : Q (.bl (isWishD v)) M) : C__law_is_hope [v] M Q E := by
  by_cases ht : ∃ ds, v = .tup ds
  · obtain ⟨ds, rfl⟩ := ht
    by_cases hl : ds.length = 3
    · obtain ⟨a, b, c, rfl⟩ := len3 hl
      obtain ⟨pa, pb, pc⟩ := pures3 hv
      simp only [Cq__law_is_hope, b_law_is_hope, b_law_is_hope_s1, b_law_is_hope_s2, b_law_is_hope_s3, sSeq, sSet, sIf, sRet, sDrop, sNil, sRaise, sAsg, sPar2, sPar3, gSet, gTupD, gsCons, gsNil, gSub, wVar, wC, wOp, wB, wTup, wFz, wSt, fLst, fCat, zNil, zCons, wAnd, wOr, wNot, wIf, wTst, uAnd, uOr, uNot, tstOp, wLeLe, uLtLt, wNeg, oSub, oMul, oDiv, oMod, oPow, oLt, oLe, oGt, oGe, oCmp, oAbs, wIsi, wCall, wIsN, uIsN, startD, lenD, viewL, List.map_cons, List.map_nil, List.length_cons, List.length_nil, List.replicate, List.cons_append, List.nil_append, List.getElem?_cons_zero, List.getElem?_cons_succ, List.set_cons_zero, List.set_cons_succ, Nat.add_sub_cancel, Nat.sub_self, Nat.zero_add, Nat.reduceAdd, Nat.reduceSub, if_true, if_false, true_and, and_true, Bool.false_eq_true, reduceIte, ↓reduceIte, min_ii, max_ii, add_ii, add_tt, add_ss, add_ll, len_tup, len_lst, len_scr, len_str, int_int, int_bl, tup_lst, tup_tup, see_non, see_bl, see_int, see_str, see_tup, see_lst, see_dic, see_adr, see_scr, see_kup, ty_non, ty_bl, ty_int, ty_str, ty_tup, ty_lst, ty_kup, reduceCtorEq, nn_non, nn_bl, nn_int, nn_str, nn_tup, nn_lst, nn_dic, wFrz, wSl, oSome, oNone, ixT0, ixT1, ixT2, ixT3, ixL0, ixL1, ixL2, ixL3, eqII, neII, eqBB, neBB, eqPP, nePP, sz0, sz1, sz2, sz3, sz4, sz5, sz6, sz7, sz8, sz9, sz10, sz12, sz1b, sz2b, sz3b, sz4b, Option.bind_some, Bool.not_true, Bool.not_false, decide_eq_true_eq, beq_iff_eq, Bool.not_eq_true', beq_eq_false_iff_ne, ne_eq, kII, kIB, kIT, kIS, kIL, kBI, kBB, kBT, kBS, kBL, kSI, kSB, kST, kSS, kSL, kNI, kNB, kNT, kNS, kNL, kTI, kTB, kTT, kTS, kTL, kLI, kLB, kLT, kLS, kLL]
      rw [if_neg (by decide)]
      refine whole_any pa ?_
      cases ea : isIntD a (-12) 12 with
      | false =>
        have e : isWishD (.tup [a, b, c]) = false := by show (isIntD a (-12) 12 && isBoolD b && isBoolD c) = false; rw [ea]; rfl
        rw [e] at h
        simp only [sSeq, sSet, sIf, sRet, sDrop, sNil, sRaise, sAsg, sPar2, sPar3, gSet, gTupD, gsCons, gsNil, gSub, wVar, wC, wOp, wB, wTup, wFz, wSt, fLst, fCat, zNil, zCons, wAnd, wOr, wNot, wIf, wTst, uAnd, uOr, uNot, tstOp, wLeLe, uLtLt, wNeg, oSub, oMul, oDiv, oMod, oPow, oLt, oLe, oGt, oGe, oCmp, oAbs, wIsi, wCall, wIsN, uIsN, startD, lenD, viewL, List.map_cons, List.map_nil, List.length_cons, List.length_nil, List.replicate, List.cons_append, List.nil_append, List.getElem?_cons_zero, List.getElem?_cons_succ, List.set_cons_zero, List.set_cons_succ, Nat.add_sub_cancel, Nat.sub_self, Nat.zero_add, Nat.reduceAdd, Nat.reduceSub, if_true, if_false, true_and, and_true, Bool.false_eq_true, reduceIte, ↓reduceIte, min_ii, max_ii, add_ii, add_tt, add_ss, add_ll, len_tup, len_lst, len_scr, len_str, int_int, int_bl, tup_lst, tup_tup, see_non, see_bl, see_int, see_str, see_tup, see_lst, see_dic, see_adr, see_scr, see_kup, ty_non, ty_bl, ty_int, ty_str, ty_tup, ty_lst, ty_kup, reduceCtorEq, nn_non, nn_bl, nn_int, nn_str, nn_tup, nn_lst, nn_dic, wFrz, wSl, oSome, oNone, ixT0, ixT1, ixT2, ixT3, ixL0, ixL1, ixL2, ixL3, eqII, neII, eqBB, neBB, eqPP, nePP, sz0, sz1, sz2, sz3, sz4, sz5, sz6, sz7, sz8, sz9, sz10, sz12, sz1b, sz2b, sz3b, sz4b, Option.bind_some, Bool.not_true, Bool.not_false, decide_eq_true_eq, beq_iff_eq, Bool.not_eq_true', beq_eq_false_iff_ne, ne_eq, kII, kIB, kIT, kIS, kIL, kBI, kBB, kBT, kBS, kBL, kSI, kSB, kST, kSS, kSL, kNI, kNB, kNT, kNS, kNL, kTI, kTB, kTT, kTS, kTL, kLI, kLB, kLT, kLS, kLL]
        exact h
      | true =>
        simp only [sSeq, sSet, sIf, sRet, sDrop, sNil, sRaise, sAsg, sPar2, sPar3, gSet, gTupD, gsCons, gsNil, gSub, wVar, wC, wOp, wB, wTup, wFz, wSt, fLst, fCat, zNil, zCons, wAnd, wOr, wNot, wIf, wTst, uAnd, uOr, uNot, tstOp, wLeLe, uLtLt, wNeg, oSub, oMul, oDiv, oMod, oPow, oLt, oLe, oGt, oGe, oCmp, oAbs, wIsi, wCall, wIsN, uIsN, startD, lenD, viewL, List.map_cons, List.map_nil, List.length_cons, List.length_nil, List.replicate, List.cons_append, List.nil_append, List.getElem?_cons_zero, List.getElem?_cons_succ, List.set_cons_zero, List.set_cons_succ, Nat.add_sub_cancel, Nat.sub_self, Nat.zero_add, Nat.reduceAdd, Nat.reduceSub, if_true, if_false, true_and, and_true, Bool.false_eq_true, reduceIte, ↓reduceIte, min_ii, max_ii, add_ii, add_tt, add_ss, add_ll, len_tup, len_lst, len_scr, len_str, int_int, int_bl, tup_lst, tup_tup, see_non, see_bl, see_int, see_str, see_tup, see_lst, see_dic, see_adr, see_scr, see_kup, ty_non, ty_bl, ty_int, ty_str, ty_tup, ty_lst, ty_kup, reduceCtorEq, nn_non, nn_bl, nn_int, nn_str, nn_tup, nn_lst, nn_dic, wFrz, wSl, oSome, oNone, ixT0, ixT1, ixT2, ixT3, ixL0, ixL1, ixL2, ixL3, eqII, neII, eqBB, neBB, eqPP, nePP, sz0, sz1, sz2, sz3, sz4, sz5, sz6, sz7, sz8, sz9, sz10, sz12, sz1b, sz2b, sz3b, sz4b, Option.bind_some, Bool.not_true, Bool.not_false, decide_eq_true_eq, beq_iff_eq, Bool.not_eq_true', beq_eq_false_iff_ne, ne_eq, kII, kIB, kIT, kIS, kIL, kBI, kBB, kBT, kBS, kBL, kSI, kSB, kST, kSS, kSL, kNI, kNB, kNT, kNS, kNL, kTI, kTB, kTT, kTS, kTL, kLI, kLB, kLT, kLS, kLL]
        rw [isi_bool pb]
        have e : isWishD (.tup [a, b, c]) = (isBoolD b && isBoolD c) := by show (isIntD a (-12) 12 && isBoolD b && isBoolD c) = _; rw [ea]; rfl
        rw [e] at h
        cases eb : isBoolD b with
        | false =>
          rw [eb] at h
          simp only [sSeq, sSet, sIf, sRet, sDrop, sNil, sRaise, sAsg, sPar2, sPar3, gSet, gTupD, gsCons, gsNil, gSub, wVar, wC, wOp, wB, wTup, wFz, wSt, fLst, fCat, zNil, zCons, wAnd, wOr, wNot, wIf, wTst, uAnd, uOr, uNot, tstOp, wLeLe, uLtLt, wNeg, oSub, oMul, oDiv, oMod, oPow, oLt, oLe, oGt, oGe, oCmp, oAbs, wIsi, wCall, wIsN, uIsN, startD, lenD, viewL, List.map_cons, List.map_nil, List.length_cons, List.length_nil, List.replicate, List.cons_append, List.nil_append, List.getElem?_cons_zero, List.getElem?_cons_succ, List.set_cons_zero, List.set_cons_succ, Nat.add_sub_cancel, Nat.sub_self, Nat.zero_add, Nat.reduceAdd, Nat.reduceSub, if_true, if_false, true_and, and_true, Bool.false_eq_true, reduceIte, ↓reduceIte, min_ii, max_ii, add_ii, add_tt, add_ss, add_ll, len_tup, len_lst, len_scr, len_str, int_int, int_bl, tup_lst, tup_tup, see_non, see_bl, see_int, see_str, see_tup, see_lst, see_dic, see_adr, see_scr, see_kup, ty_non, ty_bl, ty_int, ty_str, ty_tup, ty_lst, ty_kup, reduceCtorEq, nn_non, nn_bl, nn_int, nn_str, nn_tup, nn_lst, nn_dic, wFrz, wSl, oSome, oNone, ixT0, ixT1, ixT2, ixT3, ixL0, ixL1, ixL2, ixL3, eqII, neII, eqBB, neBB, eqPP, nePP, sz0, sz1, sz2, sz3, sz4, sz5, sz6, sz7, sz8, sz9, sz10, sz12, sz1b, sz2b, sz3b, sz4b, Option.bind_some, Bool.not_true, Bool.not_false, decide_eq_true_eq, beq_iff_eq, Bool.not_eq_true', beq_eq_false_iff_ne, ne_eq, kII, kIB, kIT, kIS, kIL, kBI, kBB, kBT, kBS, kBL, kSI, kSB, kST, kSS, kSL, kNI, kNB, kNT, kNS, kNL, kTI, kTB, kTT, kTS, kTL, kLI, kLB, kLT, kLS, kLL]
          exact h
        | true =>
          rw [eb] at h
          simp only [sSeq, sSet, sIf, sRet, sDrop, sNil, sRaise, sAsg, sPar2, sPar3, gSet, gTupD, gsCons, gsNil, gSub, wVar, wC, wOp, wB, wTup, wFz, wSt, fLst, fCat, zNil, zCons, wAnd, wOr, wNot, wIf, wTst, uAnd, uOr, uNot, tstOp, wLeLe, uLtLt, wNeg, oSub, oMul, oDiv, oMod, oPow, oLt, oLe, oGt, oGe, oCmp, oAbs, wIsi, wCall, wIsN, uIsN, startD, lenD, viewL, List.map_cons, List.map_nil, List.length_cons, List.length_nil, List.replicate, List.cons_append, List.nil_append, List.getElem?_cons_zero, List.getElem?_cons_succ, List.set_cons_zero, List.set_cons_succ, Nat.add_sub_cancel, Nat.sub_self, Nat.zero_add, Nat.reduceAdd, Nat.reduceSub, if_true, if_false, true_and, and_true, Bool.false_eq_true, reduceIte, ↓reduceIte, min_ii, max_ii, add_ii, add_tt, add_ss, add_ll, len_tup, len_lst, len_scr, len_str, int_int, int_bl, tup_lst, tup_tup, see_non, see_bl, see_int, see_str, see_tup, see_lst, see_dic, see_adr, see_scr, see_kup, ty_non, ty_bl, ty_int, ty_str, ty_tup, ty_lst, ty_kup, reduceCtorEq, nn_non, nn_bl, nn_int, nn_str, nn_tup, nn_lst, nn_dic, wFrz, wSl, oSome, oNone, ixT0, ixT1, ixT2, ixT3, ixL0, ixL1, ixL2, ixL3, eqII, neII, eqBB, neBB, eqPP, nePP, sz0, sz1, sz2, sz3, sz4, sz5, sz6, sz7, sz8, sz9, sz10, sz12, sz1b, sz2b, sz3b, sz4b, Option.bind_some, Bool.not_true, Bool.not_false, decide_eq_true_eq, beq_iff_eq, Bool.not_eq_true', beq_eq_false_iff_ne, ne_eq, kII, kIB, kIT, kIS, kIL, kBI, kBB, kBT, kBS, kBL, kSI, kSB, kST, kSS, kSL, kNI, kNB, kNT, kNS, kNL, kTI, kTB, kTT, kTS, kTL, kLI, kLB, kLT, kLS, kLL]
          rw [isi_bool pc]
          exact h
    · rw [isWishD_ne hl] at h
      simp only [Cq__law_is_hope, b_law_is_hope, b_law_is_hope_s1, b_law_is_hope_s2, b_law_is_hope_s3, sSeq, sSet, sIf, sRet, sDrop, sNil, sRaise, sAsg, sPar2, sPar3, gSet, gTupD, gsCons, gsNil, gSub, wVar, wC, wOp, wB, wTup, wFz, wSt, fLst, fCat, zNil, zCons, wAnd, wOr, wNot, wIf, wTst, uAnd, uOr, uNot, tstOp, wLeLe, uLtLt, wNeg, oSub, oMul, oDiv, oMod, oPow, oLt, oLe, oGt, oGe, oCmp, oAbs, wIsi, wCall, wIsN, uIsN, startD, lenD, viewL, List.map_cons, List.map_nil, List.length_cons, List.length_nil, List.replicate, List.cons_append, List.nil_append, List.getElem?_cons_zero, List.getElem?_cons_succ, List.set_cons_zero, List.set_cons_succ, Nat.add_sub_cancel, Nat.sub_self, Nat.zero_add, Nat.reduceAdd, Nat.reduceSub, if_true, if_false, true_and, and_true, Bool.false_eq_true, reduceIte, ↓reduceIte, min_ii, max_ii, add_ii, add_tt, add_ss, add_ll, len_tup, len_lst, len_scr, len_str, int_int, int_bl, tup_lst, tup_tup, see_non, see_bl, see_int, see_str, see_tup, see_lst, see_dic, see_adr, see_scr, see_kup, ty_non, ty_bl, ty_int, ty_str, ty_tup, ty_lst, ty_kup, reduceCtorEq, nn_non, nn_bl, nn_int, nn_str, nn_tup, nn_lst, nn_dic, wFrz, wSl, oSome, oNone, ixT0, ixT1, ixT2, ixT3, ixL0, ixL1, ixL2, ixL3, eqII, neII, eqBB, neBB, eqPP, nePP, sz0, sz1, sz2, sz3, sz4, sz5, sz6, sz7, sz8, sz9, sz10, sz12, sz1b, sz2b, sz3b, sz4b, Option.bind_some, Bool.not_true, Bool.not_false, decide_eq_true_eq, beq_iff_eq, Bool.not_eq_true', beq_eq_false_iff_ne, ne_eq, kII, kIB, kIT, kIS, kIL, kBI, kBB, kBT, kBS, kBL, kSI, kSB, kST, kSS, kSL, kNI, kNB, kNT, kNS, kNL, kTI, kTB, kTT, kTS, kTL, kLI, kLB, kLT, kLS, kLL]
      rw [if_pos (by omega)]
      exact h
  · have hn : ∀ ds, v ≠ .tup ds := fun ds e => ht ⟨ds, e⟩
    have e : isWishD v = false := by cases v <;> first | rfl | exact absurd rfl (hn _)
    rw [e] at h
    have it : isTupD v = false := by cases v <;> first | rfl | exact absurd rfl (hn _)
    simp only [Cq__law_is_hope, b_law_is_hope, b_law_is_hope_s1, b_law_is_hope_s2, sSeq, sSet, sIf, sRet, sDrop, sNil, sRaise, sAsg, sPar2, sPar3, gSet, gTupD, gsCons, gsNil, gSub, wVar, wC, wOp, wB, wTup, wFz, wSt, fLst, fCat, zNil, zCons, wAnd, wOr, wNot, wIf, wTst, uAnd, uOr, uNot, tstOp, wLeLe, uLtLt, wNeg, oSub, oMul, oDiv, oMod, oPow, oLt, oLe, oGt, oGe, oCmp, oAbs, wIsi, wCall, wIsN, uIsN, startD, lenD, viewL, List.map_cons, List.map_nil, List.length_cons, List.length_nil, List.replicate, List.cons_append, List.nil_append, List.getElem?_cons_zero, List.getElem?_cons_succ, List.set_cons_zero, List.set_cons_succ, Nat.add_sub_cancel, Nat.sub_self, Nat.zero_add, Nat.reduceAdd, Nat.reduceSub, if_true, if_false, true_and, and_true, Bool.false_eq_true, reduceIte, ↓reduceIte, min_ii, max_ii, add_ii, add_tt, add_ss, add_ll, len_tup, len_lst, len_scr, len_str, int_int, int_bl, tup_lst, tup_tup, see_non, see_bl, see_int, see_str, see_tup, see_lst, see_dic, see_adr, see_scr, see_kup, ty_non, ty_bl, ty_int, ty_str, ty_tup, ty_lst, ty_kup, reduceCtorEq, nn_non, nn_bl, nn_int, nn_str, nn_tup, nn_lst, nn_dic, wFrz, wSl, oSome, oNone, ixT0, ixT1, ixT2, ixT3, ixL0, ixL1, ixL2, ixL3, eqII, neII, eqBB, neBB, eqPP, nePP, sz0, sz1, sz2, sz3, sz4, sz5, sz6, sz7, sz8, sz9, sz10, sz12, sz1b, sz2b, sz3b, sz4b, Option.bind_some, Bool.not_true, Bool.not_false, decide_eq_true_eq, beq_iff_eq, Bool.not_eq_true', beq_eq_false_iff_ne, ne_eq, kII, kIB, kIT, kIS, kIL, kBI, kBB, kBT, kBS, kBL, kSI, kSB, kST, kSS, kSL, kNI, kNB, kNT, kNS, kNL, kTI, kTB, kTT, kTS, kTL, kLI, kLB, kLT, kLS, kLL, isi_tup hv, it]
    exact h
/-! ### slitting -/
def slitBad (l : Ring) (k : Int) : Bool := !(decide (0 < k) && decide (k < l.r)) || (l.t && (decide (2 * k > l.r) || decide ((l.f : Int) = 4)))
def triL (k f : Int) (b : Bool) : L3.D := .tup [.int k, .int f, .bl b]
def slitD (l : Ring) (k : Int) : L3.D := if l.t = false then .lst [triL k l.f false, triL (l.r - k) l.f false] else if 2 * k = l.r then .lst [triL k (2 * l.f) false] else .lst [triL k (2 * l.f) false, triL (l.r - 2 * k) l.f true]
theorem slit_ok {k : Int} (hl : l.ok) (hk : -100 ≤ k ∧ k ≤ 100) (h : slitBad l k = false → Q (slitD l k) M) (h2 : slitBad l k = true → E ⟨"InvalidNumber", none⟩ M) : C_slit [l.d, .int k] M Q E := by
  obtain ⟨r1, r2, hf⟩ := id hl
  have m1 : CMulW 2 k := mul_sm (.of (by decide) (by decide)) (.of (by omega) (by omega))
  have m2 : CMulW 2 (l.f : Int) := mul_sm (.of (by decide) (by decide)) (.of (by omega) (by omega))
  have lo := loop_ok hl
  unfold Ring.d at lo ⊢
  simp only [Cq_slit, bslit, bslit_s3, bslit_s4, sSeq, sSet, sIf, sRet, sDrop, sNil, sRaise, sAsg, sPar2, sPar3, gSet, gTupD, gsCons, gsNil, gSub, wVar, wC, wOp, wB, wTup, wFz, wSt, fLst, fCat, zNil, zCons, wAnd, wOr, wNot, wIf, wTst, uAnd, uOr, uNot, tstOp, wLeLe, uLtLt, wNeg, oSub, oMul, oDiv, oMod, oPow, oLt, oLe, oGt, oGe, oCmp, oAbs, wIsi, wCall, wIsN, uIsN, startD, lenD, viewL, List.map_cons, List.map_nil, List.length_cons, List.length_nil, List.replicate, List.cons_append, List.nil_append, List.getElem?_cons_zero, List.getElem?_cons_succ, List.set_cons_zero, List.set_cons_succ, Nat.add_sub_cancel, Nat.sub_self, Nat.zero_add, Nat.reduceAdd, Nat.reduceSub, if_true, if_false, true_and, and_true, Bool.false_eq_true, reduceIte, ↓reduceIte, min_ii, max_ii, add_ii, add_tt, add_ss, add_ll, len_tup, len_lst, len_scr, len_str, int_int, int_bl, tup_lst, tup_tup, see_non, see_bl, see_int, see_str, see_tup, see_lst, see_dic, see_adr, see_scr, see_kup, ty_non, ty_bl, ty_int, ty_str, ty_tup, ty_lst, ty_kup, reduceCtorEq, nn_non, nn_bl, nn_int, nn_str, nn_tup, nn_lst, nn_dic, wFrz, wSl, oSome, oNone, ixT0, ixT1, ixT2, ixT3, ixL0, ixL1, ixL2, ixL3, eqII, neII, eqBB, neBB, eqPP, nePP, sz0, sz1, sz2, sz3, sz4, sz5, sz6, sz7, sz8, sz9, sz10, sz12, sz1b, sz2b, sz3b, sz4b, Option.bind_some, Bool.not_true, Bool.not_false, decide_eq_true_eq, beq_iff_eq, Bool.not_eq_true', beq_eq_false_iff_ne, ne_eq, kII, kIB, kIT, kIS, kIL, kBI, kBB, kBT, kBS, kBL, kSI, kSB, kST, kSS, kSL, kNI, kNB, kNT, kNS, kNL, kTI, kTB, kTT, kTS, kTL, kLI, kLB, kLT, kLS, kLL]
  refine need_loop_ok rfl (fun _ => ?_) (fun e => by rw [lo] at e; cases e)
  try simp only [sSeq, sSet, sIf, sRet, sDrop, sNil, sRaise, sAsg, sPar2, sPar3, gSet, gTupD, gsCons, gsNil, gSub, wVar, wC, wOp, wB, wTup, wFz, wSt, fLst, fCat, zNil, zCons, wAnd, wOr, wNot, wIf, wTst, uAnd, uOr, uNot, tstOp, wLeLe, uLtLt, wNeg, oSub, oMul, oDiv, oMod, oPow, oLt, oLe, oGt, oGe, oCmp, oAbs, wIsi, wCall, wIsN, uIsN, startD, lenD, viewL, List.map_cons, List.map_nil, List.length_cons, List.length_nil, List.replicate, List.cons_append, List.nil_append, List.getElem?_cons_zero, List.getElem?_cons_succ, List.set_cons_zero, List.set_cons_succ, Nat.add_sub_cancel, Nat.sub_self, Nat.zero_add, Nat.reduceAdd, Nat.reduceSub, if_true, if_false, true_and, and_true, Bool.false_eq_true, reduceIte, ↓reduceIte, min_ii, max_ii, add_ii, add_tt, add_ss, add_ll, len_tup, len_lst, len_scr, len_str, int_int, int_bl, tup_lst, tup_tup, see_non, see_bl, see_int, see_str, see_tup, see_lst, see_dic, see_adr, see_scr, see_kup, ty_non, ty_bl, ty_int, ty_str, ty_tup, ty_lst, ty_kup, reduceCtorEq, nn_non, nn_bl, nn_int, nn_str, nn_tup, nn_lst, nn_dic, wFrz, wSl, oSome, oNone, ixT0, ixT1, ixT2, ixT3, ixL0, ixL1, ixL2, ixL3, eqII, neII, eqBB, neBB, eqPP, nePP, sz0, sz1, sz2, sz3, sz4, sz5, sz6, sz7, sz8, sz9, sz10, sz12, sz1b, sz2b, sz3b, sz4b, Option.bind_some, Bool.not_true, Bool.not_false, decide_eq_true_eq, beq_iff_eq, Bool.not_eq_true', beq_eq_false_iff_ne, ne_eq, kII, kIB, kIT, kIS, kIL, kBI, kBB, kBT, kBS, kBL, kSI, kSB, kST, kSS, kSL, kNI, kNB, kNT, kNS, kNL, kTI, kTB, kTT, kTS, kTL, kLI, kLB, kLT, kLS, kLL]
  simp only [bslit_s5, bslit_s6, bslit_s7, bslit_s8, bslit_s9, bslit_s1, bslit_s2, sSeq, sSet, sIf, sRet, sDrop, sNil, sRaise, sAsg, sPar2, sPar3, gSet, gTupD, gsCons, gsNil, gSub, wVar, wC, wOp, wB, wTup, wFz, wSt, fLst, fCat, zNil, zCons, wAnd, wOr, wNot, wIf, wTst, uAnd, uOr, uNot, tstOp, wLeLe, uLtLt, wNeg, oSub, oMul, oDiv, oMod, oPow, oLt, oLe, oGt, oGe, oCmp, oAbs, wIsi, wCall, wIsN, uIsN, startD, lenD, viewL, List.map_cons, List.map_nil, List.length_cons, List.length_nil, List.replicate, List.cons_append, List.nil_append, List.getElem?_cons_zero, List.getElem?_cons_succ, List.set_cons_zero, List.set_cons_succ, Nat.add_sub_cancel, Nat.sub_self, Nat.zero_add, Nat.reduceAdd, Nat.reduceSub, if_true, if_false, true_and, and_true, Bool.false_eq_true, reduceIte, ↓reduceIte, min_ii, max_ii, add_ii, add_tt, add_ss, add_ll, len_tup, len_lst, len_scr, len_str, int_int, int_bl, tup_lst, tup_tup, see_non, see_bl, see_int, see_str, see_tup, see_lst, see_dic, see_adr, see_scr, see_kup, ty_non, ty_bl, ty_int, ty_str, ty_tup, ty_lst, ty_kup, reduceCtorEq, nn_non, nn_bl, nn_int, nn_str, nn_tup, nn_lst, nn_dic, wFrz, wSl, oSome, oNone, ixT0, ixT1, ixT2, ixT3, ixL0, ixL1, ixL2, ixL3, eqII, neII, eqBB, neBB, eqPP, nePP, sz0, sz1, sz2, sz3, sz4, sz5, sz6, sz7, sz8, sz9, sz10, sz12, sz1b, sz2b, sz3b, sz4b, Option.bind_some, Bool.not_true, Bool.not_false, decide_eq_true_eq, beq_iff_eq, Bool.not_eq_true', beq_eq_false_iff_ne, ne_eq, kII, kIB, kIT, kIS, kIL, kBI, kBB, kBT, kBS, kBL, kSI, kSB, kST, kSS, kSL, kNI, kNB, kNT, kNS, kNL, kTI, kTB, kTT, kTS, kTL, kLI, kLB, kLT, kLS, kLL]
  refine need_number_ok rfl (fun e => ?_) (fun e => h2 ?_)
  · have e : 1 ≤ k ∧ k ≤ (l.r : Int) - 1 := of_decide_eq_true e
    cases ht : l.t with
    | false =>
      have nb : slitBad l k = false := by
        unfold slitBad
        rw [ht, decide_eq_true (show 0 < k by omega), decide_eq_true (show k < (l.r : Int) by omega)]; rfl
      have := h nb
      unfold slitD at this
      rw [if_pos ht] at this
      simp only [sSeq, sSet, sIf, sRet, sDrop, sNil, sRaise, sAsg, sPar2, sPar3, gSet, gTupD, gsCons, gsNil, gSub, wVar, wC, wOp, wB, wTup, wFz, wSt, fLst, fCat, zNil, zCons, wAnd, wOr, wNot, wIf, wTst, uAnd, uOr, uNot, tstOp, wLeLe, uLtLt, wNeg, oSub, oMul, oDiv, oMod, oPow, oLt, oLe, oGt, oGe, oCmp, oAbs, wIsi, wCall, wIsN, uIsN, startD, lenD, viewL, List.map_cons, List.map_nil, List.length_cons, List.length_nil, List.replicate, List.cons_append, List.nil_append, List.getElem?_cons_zero, List.getElem?_cons_succ, List.set_cons_zero, List.set_cons_succ, Nat.add_sub_cancel, Nat.sub_self, Nat.zero_add, Nat.reduceAdd, Nat.reduceSub, if_true, if_false, true_and, and_true, Bool.false_eq_true, reduceIte, ↓reduceIte, min_ii, max_ii, add_ii, add_tt, add_ss, add_ll, len_tup, len_lst, len_scr, len_str, int_int, int_bl, tup_lst, tup_tup, see_non, see_bl, see_int, see_str, see_tup, see_lst, see_dic, see_adr, see_scr, see_kup, ty_non, ty_bl, ty_int, ty_str, ty_tup, ty_lst, ty_kup, reduceCtorEq, nn_non, nn_bl, nn_int, nn_str, nn_tup, nn_lst, nn_dic, wFrz, wSl, oSome, oNone, ixT0, ixT1, ixT2, ixT3, ixL0, ixL1, ixL2, ixL3, eqII, neII, eqBB, neBB, eqPP, nePP, sz0, sz1, sz2, sz3, sz4, sz5, sz6, sz7, sz8, sz9, sz10, sz12, sz1b, sz2b, sz3b, sz4b, Option.bind_some, Bool.not_true, Bool.not_false, decide_eq_true_eq, beq_iff_eq, Bool.not_eq_true', beq_eq_false_iff_ne, ne_eq, kII, kIB, kIT, kIS, kIL, kBI, kBB, kBT, kBS, kBL, kSI, kSB, kST, kSS, kSL, kNI, kNB, kNT, kNS, kNL, kTI, kTB, kTT, kTS, kTL, kLI, kLB, kLT, kLS, kLL]
      exact this
    | true =>
      simp only [sSeq, sSet, sIf, sRet, sDrop, sNil, sRaise, sAsg, sPar2, sPar3, gSet, gTupD, gsCons, gsNil, gSub, wVar, wC, wOp, wB, wTup, wFz, wSt, fLst, fCat, zNil, zCons, wAnd, wOr, wNot, wIf, wTst, uAnd, uOr, uNot, tstOp, wLeLe, uLtLt, wNeg, oSub, oMul, oDiv, oMod, oPow, oLt, oLe, oGt, oGe, oCmp, oAbs, wIsi, wCall, wIsN, uIsN, startD, lenD, viewL, List.map_cons, List.map_nil, List.length_cons, List.length_nil, List.replicate, List.cons_append, List.nil_append, List.getElem?_cons_zero, List.getElem?_cons_succ, List.set_cons_zero, List.set_cons_succ, Nat.add_sub_cancel, Nat.sub_self, Nat.zero_add, Nat.reduceAdd, Nat.reduceSub, if_true, if_false, true_and, and_true, Bool.false_eq_true, reduceIte, ↓reduceIte, min_ii, max_ii, add_ii, add_tt, add_ss, add_ll, len_tup, len_lst, len_scr, len_str, int_int, int_bl, tup_lst, tup_tup, see_non, see_bl, see_int, see_str, see_tup, see_lst, see_dic, see_adr, see_scr, see_kup, ty_non, ty_bl, ty_int, ty_str, ty_tup, ty_lst, ty_kup, reduceCtorEq, nn_non, nn_bl, nn_int, nn_str, nn_tup, nn_lst, nn_dic, wFrz, wSl, oSome, oNone, ixT0, ixT1, ixT2, ixT3, ixL0, ixL1, ixL2, ixL3, eqII, neII, eqBB, neBB, eqPP, nePP, sz0, sz1, sz2, sz3, sz4, sz5, sz6, sz7, sz8, sz9, sz10, sz12, sz1b, sz2b, sz3b, sz4b, Option.bind_some, Bool.not_true, Bool.not_false, decide_eq_true_eq, beq_iff_eq, Bool.not_eq_true', beq_eq_false_iff_ne, ne_eq, kII, kIB, kIT, kIS, kIL, kBI, kBB, kBT, kBS, kBL, kSI, kSB, kST, kSS, kSL, kNI, kNB, kNT, kNS, kNL, kTI, kTB, kTT, kTS, kTL, kLI, kLB, kLT, kLS, kLL]
      by_cases f4 : (l.f : Int) = 4
      · rw [if_pos f4]
        refine h2 ?_
        unfold slitBad
        rw [ht, decide_eq_true f4]; simp
      · rw [if_neg f4]
        refine ⟨m1, ?_⟩
        by_cases b2 : (l.r : Int) < 2 * k
        · rw [if_pos b2]
          refine h2 ?_
          unfold slitBad
          rw [ht, decide_eq_true (show 2 * k > (l.r : Int) by omega)]; simp
        · rw [if_neg b2]
          have nb : slitBad l k = false := by
            unfold slitBad
            rw [ht, decide_eq_true (show 0 < k by omega), decide_eq_true (show k < (l.r : Int) by omega), decide_eq_false (show ¬ 2 * k > (l.r : Int) by omega), decide_eq_false f4]; rfl
          have := h nb
          unfold slitD at this
          rw [if_neg (by rw [ht]; decide)] at this
          refine ⟨m2, m1, ?_⟩
          by_cases b3 : 2 * k = (l.r : Int)
          · rw [if_pos b3] at this ⊢
            exact this
          · rw [if_neg b3] at this ⊢
            exact ⟨m1, this⟩
  · have e : ¬ (1 ≤ k ∧ k ≤ (l.r : Int) - 1) := of_decide_eq_false e
    unfold slitBad
    by_cases k0 : 0 < k
    · rw [decide_eq_false (show ¬ k < (l.r : Int) by omega)]; simp
    · rw [decide_eq_false k0]; simp
theorem parts_ok {k : Int} (hl : l.ok) (hk : -100 ≤ k ∧ k ≤ 100) (h : Q (if slitBad l k = true then .tup [.str "InvalidNumber +"] else .tup [.str "told", slitD l k]) M) : C__law_parts [l.d, .int k] M Q E := by
  obtain ⟨r1, r2, hf⟩ := id hl
  have m1 : CMulW 2 k := mul_sm (.of (by decide) (by decide)) (.of (by omega) (by omega))
  have m2 : CMulW 2 (l.f : Int) := mul_sm (.of (by decide) (by decide)) (.of (by omega) (by omega))
  unfold Ring.d
  simp only [Cq__law_parts, b_law_parts, b_law_parts_s1, b_law_parts_s2, b_law_parts_s3, b_law_parts_s4, b_law_parts_s5, b_law_parts_s6, b_law_parts_s7, b_law_parts_s8, sSeq, sSet, sIf, sRet, sDrop, sNil, sRaise, sAsg, sPar2, sPar3, gSet, gTupD, gsCons, gsNil, gSub, wVar, wC, wOp, wB, wTup, wFz, wSt, fLst, fCat, zNil, zCons, wAnd, wOr, wNot, wIf, wTst, uAnd, uOr, uNot, tstOp, wLeLe, uLtLt, wNeg, oSub, oMul, oDiv, oMod, oPow, oLt, oLe, oGt, oGe, oCmp, oAbs, wIsi, wCall, wIsN, uIsN, startD, lenD, viewL, List.map_cons, List.map_nil, List.length_cons, List.length_nil, List.replicate, List.cons_append, List.nil_append, List.getElem?_cons_zero, List.getElem?_cons_succ, List.set_cons_zero, List.set_cons_succ, Nat.add_sub_cancel, Nat.sub_self, Nat.zero_add, Nat.reduceAdd, Nat.reduceSub, if_true, if_false, true_and, and_true, Bool.false_eq_true, reduceIte, ↓reduceIte, min_ii, max_ii, add_ii, add_tt, add_ss, add_ll, len_tup, len_lst, len_scr, len_str, int_int, int_bl, tup_lst, tup_tup, see_non, see_bl, see_int, see_str, see_tup, see_lst, see_dic, see_adr, see_scr, see_kup, ty_non, ty_bl, ty_int, ty_str, ty_tup, ty_lst, ty_kup, reduceCtorEq, nn_non, nn_bl, nn_int, nn_str, nn_tup, nn_lst, nn_dic, wFrz, wSl, oSome, oNone, ixT0, ixT1, ixT2, ixT3, ixL0, ixL1, ixL2, ixL3, eqII, neII, eqBB, neBB, eqPP, nePP, sz0, sz1, sz2, sz3, sz4, sz5, sz6, sz7, sz8, sz9, sz10, sz12, sz1b, sz2b, sz3b, sz4b, Option.bind_some, Bool.not_true, Bool.not_false, decide_eq_true_eq, beq_iff_eq, Bool.not_eq_true', beq_eq_false_iff_ne, ne_eq, kII, kIB, kIT, kIS, kIL, kBI, kBB, kBT, kBS, kBL, kSI, kSB, kST, kSS, kSL, kNI, kNB, kNT, kNS, kNL, kTI, kTB, kTT, kTS, kTL, kLI, kLB, kLT, kLS, kLL]
  unfold slitBad slitD at h
  by_cases k0 : 0 < k
  · rw [if_pos k0]
    by_cases kr : k < (l.r : Int)
    · rw [if_neg (by simpa using kr)]
      rw [decide_eq_true k0, decide_eq_true kr] at h
      cases ht : l.t with
      | false =>
        rw [ht] at h
        simp only [sSeq, sSet, sIf, sRet, sDrop, sNil, sRaise, sAsg, sPar2, sPar3, gSet, gTupD, gsCons, gsNil, gSub, wVar, wC, wOp, wB, wTup, wFz, wSt, fLst, fCat, zNil, zCons, wAnd, wOr, wNot, wIf, wTst, uAnd, uOr, uNot, tstOp, wLeLe, uLtLt, wNeg, oSub, oMul, oDiv, oMod, oPow, oLt, oLe, oGt, oGe, oCmp, oAbs, wIsi, wCall, wIsN, uIsN, startD, lenD, viewL, List.map_cons, List.map_nil, List.length_cons, List.length_nil, List.replicate, List.cons_append, List.nil_append, List.getElem?_cons_zero, List.getElem?_cons_succ, List.set_cons_zero, List.set_cons_succ, Nat.add_sub_cancel, Nat.sub_self, Nat.zero_add, Nat.reduceAdd, Nat.reduceSub, if_true, if_false, true_and, and_true, Bool.false_eq_true, reduceIte, ↓reduceIte, min_ii, max_ii, add_ii, add_tt, add_ss, add_ll, len_tup, len_lst, len_scr, len_str, int_int, int_bl, tup_lst, tup_tup, see_non, see_bl, see_int, see_str, see_tup, see_lst, see_dic, see_adr, see_scr, see_kup, ty_non, ty_bl, ty_int, ty_str, ty_tup, ty_lst, ty_kup, reduceCtorEq, nn_non, nn_bl, nn_int, nn_str, nn_tup, nn_lst, nn_dic, wFrz, wSl, oSome, oNone, ixT0, ixT1, ixT2, ixT3, ixL0, ixL1, ixL2, ixL3, eqII, neII, eqBB, neBB, eqPP, nePP, sz0, sz1, sz2, sz3, sz4, sz5, sz6, sz7, sz8, sz9, sz10, sz12, sz1b, sz2b, sz3b, sz4b, Option.bind_some, Bool.not_true, Bool.not_false, decide_eq_true_eq, beq_iff_eq, Bool.not_eq_true', beq_eq_false_iff_ne, ne_eq, kII, kIB, kIT, kIS, kIL, kBI, kBB, kBT, kBS, kBL, kSI, kSB, kST, kSS, kSL, kNI, kNB, kNT, kNS, kNL, kTI, kTB, kTT, kTS, kTL, kLI, kLB, kLT, kLS, kLL]
        exact h
      | true =>
        rw [ht] at h
        simp only [sSeq, sSet, sIf, sRet, sDrop, sNil, sRaise, sAsg, sPar2, sPar3, gSet, gTupD, gsCons, gsNil, gSub, wVar, wC, wOp, wB, wTup, wFz, wSt, fLst, fCat, zNil, zCons, wAnd, wOr, wNot, wIf, wTst, uAnd, uOr, uNot, tstOp, wLeLe, uLtLt, wNeg, oSub, oMul, oDiv, oMod, oPow, oLt, oLe, oGt, oGe, oCmp, oAbs, wIsi, wCall, wIsN, uIsN, startD, lenD, viewL, List.map_cons, List.map_nil, List.length_cons, List.length_nil, List.replicate, List.cons_append, List.nil_append, List.getElem?_cons_zero, List.getElem?_cons_succ, List.set_cons_zero, List.set_cons_succ, Nat.add_sub_cancel, Nat.sub_self, Nat.zero_add, Nat.reduceAdd, Nat.reduceSub, if_true, if_false, true_and, and_true, Bool.false_eq_true, reduceIte, ↓reduceIte, min_ii, max_ii, add_ii, add_tt, add_ss, add_ll, len_tup, len_lst, len_scr, len_str, int_int, int_bl, tup_lst, tup_tup, see_non, see_bl, see_int, see_str, see_tup, see_lst, see_dic, see_adr, see_scr, see_kup, ty_non, ty_bl, ty_int, ty_str, ty_tup, ty_lst, ty_kup, reduceCtorEq, nn_non, nn_bl, nn_int, nn_str, nn_tup, nn_lst, nn_dic, wFrz, wSl, oSome, oNone, ixT0, ixT1, ixT2, ixT3, ixL0, ixL1, ixL2, ixL3, eqII, neII, eqBB, neBB, eqPP, nePP, sz0, sz1, sz2, sz3, sz4, sz5, sz6, sz7, sz8, sz9, sz10, sz12, sz1b, sz2b, sz3b, sz4b, Option.bind_some, Bool.not_true, Bool.not_false, decide_eq_true_eq, beq_iff_eq, Bool.not_eq_true', beq_eq_false_iff_ne, ne_eq, kII, kIB, kIT, kIS, kIL, kBI, kBB, kBT, kBS, kBL, kSI, kSB, kST, kSS, kSL, kNI, kNB, kNT, kNS, kNL, kTI, kTB, kTT, kTS, kTL, kLI, kLB, kLT, kLS, kLL]
        refine ⟨m1, ?_⟩
        by_cases b2 : (l.r : Int) < 2 * k
        · rw [decide_eq_true (show 2 * k > (l.r : Int) by omega)] at h
          rw [if_pos b2]
          exact h
        · rw [decide_eq_false (show ¬ 2 * k > (l.r : Int) by omega)] at h
          rw [if_neg b2]
          by_cases f4 : (l.f : Int) = 4
          · rw [decide_eq_true f4] at h
            rw [if_pos f4]
            exact h
          · rw [decide_eq_false f4] at h
            rw [if_neg f4]
            refine ⟨m1, ?_⟩
            by_cases b3 : 2 * k = (l.r : Int)
            · rw [if_neg (by decide), if_neg (by decide), if_pos b3] at h
              rw [if_pos b3]
              exact ⟨m2, h⟩
            · rw [if_neg (by decide), if_neg (by decide), if_neg b3] at h
              rw [if_neg b3]
              exact ⟨m2, m1, h⟩
    · rw [decide_eq_false kr] at h
      rw [if_pos (by simpa using kr)]
      simpa using h
  · rw [decide_eq_false k0] at h
    rw [if_neg k0]
    simpa using h
end
end L3.K01
set_option maxRecDepth 100000
set_option maxHeartbeats 1000000
/-! V01: the law's cells. -/
namespace L3.K01
open PySem PySem.Spec PyProof.Rows L2 L3 Gl
abbrev B2 : Int := B38 + 12 + 12
def Things (n : Nat) (ds : List L3.D) : Prop := ds.length ≤ n ∧ ∀ d ∈ ds, thB 80 B2 d = true
section
variable {M : Mem} {D : EndsD} {E : ExK} {Q : KD} {i : Nat} {l : Ring} {v u : L3.D} {af : Str → Addr}
theorem shaken_ok {N : Nat} {B : Int} (hN : 20 ≤ N) (hN2 : N ≤ 1000000) (h38 : B38 ≤ B) (hB : B ≤ B45) (hv : thB N B v = true) (c : Crank M i) (h : ∀ d M', thB (2 * N) (B + 12) d = true → Turned i M M' → Q d M') : C__law_shaken [.ref i, v, .int 2] M Q E := shaken_all hN hN2 h38 hB 4 2 (by decide) (by decide) v M Q E c hv h
theorem th80 (h : thB 20 B38 v = true) : thB 80 B2 v = true := th_mono (by decide) (by decide) v h
theorem th80' (h : thB 40 (B38 + 12) v = true) : thB 80 B2 v = true := th_mono (by decide) (by decide) v h
theorem things_app {n m : Nat} {ds es : List L3.D} (h : Things n ds) (h1 : es.length ≤ m) (h2 : ∀ d ∈ es, thB 80 B2 d = true) : Things (n + m) (ds ++ es) := ⟨by rw [List.length_append]; have := h.1; omega, fun d hd => by
  rcases List.mem_append.mp hd with z | z
  · exact h.2 d z
  · exact h2 d z⟩
theorem t24_ok {x0 x1 x5 x6 x7 x8 x9 x10 x11 x12 x13 x14 x15 x16 x17 : Option L3.D} {n : Nat} {ds : List L3.D} (hn : n ≤ 1000) (c : Crank M i) (hv : thB 20 B38 v = true) (hds : Things n ds) (h : ∀ ds' y11 M', Things (n + 3) ds' → Turned i M M' → D.nx [x0, x1, some (.ref i), some (.lst ds'), some v, x5, x6, x7, x8, x9, x10, y11, x12, x13, x14, x15, x16, x17] M') : (sSeq blaw_s1 blaw_s2) [x0, x1, some (.ref i), some (.lst ds), some v, x5, x6, x7, x8, x9, x10, x11, x12, x13, x14, x15, x16, x17] M D E := by
  have key := fun (a b e : L3.D) (M' : Mem) (ha : thB 80 B2 a = true) (hb : thB 80 B2 b = true) (he : thB 80 B2 e = true) (t : Turned i M M') => h (ds ++ [a, b, e]) (some a) M' (things_app hds (by simp) fun d hd => by
    simp only [List.mem_cons, List.not_mem_nil, or_false] at hd
    rcases hd with rfl | rfl | rfl
    · exact ha
    · exact hb
    · exact he) t
  have sz : ds.length + 3 ≤ sizeLine := sz_le (by have := hds.1; omega)
  simp only [blaw_s1, blaw_s2, sSeq, sSet, sIf, sRet, sDrop, sNil, sRaise, sAsg, sPar2, sPar3, gSet, gTupD, gsCons, gsNil, gSub, wVar, wC, wOp, wB, wTup, wFz, wSt, fLst, fCat, zNil, zCons, wAnd, wOr, wNot, wIf, wTst, uAnd, uOr, uNot, tstOp, wLeLe, uLtLt, wNeg, oSub, oMul, oDiv, oMod, oPow, oLt, oLe, oGt, oGe, oCmp, oAbs, wIsi, wCall, wIsN, uIsN, startD, lenD, viewL, List.map_cons, List.map_nil, List.length_cons, List.length_nil, List.replicate, List.cons_append, List.nil_append, List.getElem?_cons_zero, List.getElem?_cons_succ, List.set_cons_zero, List.set_cons_succ, Nat.add_sub_cancel, Nat.sub_self, Nat.zero_add, Nat.reduceAdd, Nat.reduceSub, if_true, if_false, true_and, and_true, Bool.false_eq_true, reduceIte, ↓reduceIte, min_ii, max_ii, add_ii, add_tt, add_ss, add_ll, len_tup, len_lst, len_scr, len_str, int_int, int_bl, tup_lst, tup_tup, see_non, see_bl, see_int, see_str, see_tup, see_lst, see_dic, see_adr, see_scr, see_kup, ty_non, ty_bl, ty_int, ty_str, ty_tup, ty_lst, ty_kup, reduceCtorEq, nn_non, nn_bl, nn_int, nn_str, nn_tup, nn_lst, nn_dic, wFrz, wSl, oSome, oNone, ixT0, ixT1, ixT2, ixT3, ixL0, ixL1, ixL2, ixL3, eqII, neII, eqBB, neBB, eqPP, nePP, sz0, sz1, sz2, sz3, sz4, sz5, sz6, sz7, sz8, sz9, sz10, sz12, sz1b, sz2b, sz3b, sz4b, Option.bind_some, Bool.not_true, Bool.not_false, decide_eq_true_eq, beq_iff_eq, Bool.not_eq_true', beq_eq_false_iff_ne, ne_eq, kII, kIB, kIT, kIS, kIL, kBI, kBB, kBT, kBS, kBL, kSI, kSB, kST, kSS, kSL, kNI, kNB, kNT, kNS, kNL, kTI, kTB, kTT, kTS, kTL, kLI, kLB, kLT, kLS, kLL]
  refine shaken_ok (by decide) (by decide) (by decide) (by decide) hv c fun a M1 ha t1 => ?_
  try simp only [sSeq, sSet, sIf, sRet, sDrop, sNil, sRaise, sAsg, sPar2, sPar3, gSet, gTupD, gsCons, gsNil, gSub, wVar, wC, wOp, wB, wTup, wFz, wSt, fLst, fCat, zNil, zCons, wAnd, wOr, wNot, wIf, wTst, uAnd, uOr, uNot, tstOp, wLeLe, uLtLt, wNeg, oSub, oMul, oDiv, oMod, oPow, oLt, oLe, oGt, oGe, oCmp, oAbs, wIsi, wCall, wIsN, uIsN, startD, lenD, viewL, List.map_cons, List.map_nil, List.length_cons, List.length_nil, List.replicate, List.cons_append, List.nil_append, List.getElem?_cons_zero, List.getElem?_cons_succ, List.set_cons_zero, List.set_cons_succ, Nat.add_sub_cancel, Nat.sub_self, Nat.zero_add, Nat.reduceAdd, Nat.reduceSub, if_true, if_false, true_and, and_true, Bool.false_eq_true, reduceIte, ↓reduceIte, min_ii, max_ii, add_ii, add_tt, add_ss, add_ll, len_tup, len_lst, len_scr, len_str, int_int, int_bl, tup_lst, tup_tup, see_non, see_bl, see_int, see_str, see_tup, see_lst, see_dic, see_adr, see_scr, see_kup, ty_non, ty_bl, ty_int, ty_str, ty_tup, ty_lst, ty_kup, reduceCtorEq, nn_non, nn_bl, nn_int, nn_str, nn_tup, nn_lst, nn_dic, wFrz, wSl, oSome, oNone, ixT0, ixT1, ixT2, ixT3, ixL0, ixL1, ixL2, ixL3, eqII, neII, eqBB, neBB, eqPP, nePP, sz0, sz1, sz2, sz3, sz4, sz5, sz6, sz7, sz8, sz9, sz10, sz12, sz1b, sz2b, sz3b, sz4b, Option.bind_some, Bool.not_true, Bool.not_false, decide_eq_true_eq, beq_iff_eq, Bool.not_eq_true', beq_eq_false_iff_ne, ne_eq, kII, kIB, kIT, kIS, kIL, kBI, kBB, kBT, kBS, kBL, kSI, kSB, kST, kSS, kSL, kNI, kNB, kNT, kNS, kNL, kTI, kTB, kTT, kTS, kTL, kLI, kLB, kLT, kLS, kLL]
  refine shaken_ok (by decide) (by decide) (by decide) (by decide) ha t1.1 fun b M2 hb t2 => ?_
  try simp only [sSeq, sSet, sIf, sRet, sDrop, sNil, sRaise, sAsg, sPar2, sPar3, gSet, gTupD, gsCons, gsNil, gSub, wVar, wC, wOp, wB, wTup, wFz, wSt, fLst, fCat, zNil, zCons, wAnd, wOr, wNot, wIf, wTst, uAnd, uOr, uNot, tstOp, wLeLe, uLtLt, wNeg, oSub, oMul, oDiv, oMod, oPow, oLt, oLe, oGt, oGe, oCmp, oAbs, wIsi, wCall, wIsN, uIsN, startD, lenD, viewL, List.map_cons, List.map_nil, List.length_cons, List.length_nil, List.replicate, List.cons_append, List.nil_append, List.getElem?_cons_zero, List.getElem?_cons_succ, List.set_cons_zero, List.set_cons_succ, Nat.add_sub_cancel, Nat.sub_self, Nat.zero_add, Nat.reduceAdd, Nat.reduceSub, if_true, if_false, true_and, and_true, Bool.false_eq_true, reduceIte, ↓reduceIte, min_ii, max_ii, add_ii, add_tt, add_ss, add_ll, len_tup, len_lst, len_scr, len_str, int_int, int_bl, tup_lst, tup_tup, see_non, see_bl, see_int, see_str, see_tup, see_lst, see_dic, see_adr, see_scr, see_kup, ty_non, ty_bl, ty_int, ty_str, ty_tup, ty_lst, ty_kup, reduceCtorEq, nn_non, nn_bl, nn_int, nn_str, nn_tup, nn_lst, nn_dic, wFrz, wSl, oSome, oNone, ixT0, ixT1, ixT2, ixT3, ixL0, ixL1, ixL2, ixL3, eqII, neII, eqBB, neBB, eqPP, nePP, sz0, sz1, sz2, sz3, sz4, sz5, sz6, sz7, sz8, sz9, sz10, sz12, sz1b, sz2b, sz3b, sz4b, Option.bind_some, Bool.not_true, Bool.not_false, decide_eq_true_eq, beq_iff_eq, Bool.not_eq_true', beq_eq_false_iff_ne, ne_eq, kII, kIB, kIT, kIS, kIL, kBI, kBB, kBT, kBS, kBL, kSI, kSB, kST, kSS, kSL, kNI, kNB, kNT, kNS, kNL, kTI, kTB, kTT, kTS, kTL, kLI, kLB, kLT, kLS, kLL]
  refine shaken_ok (by decide) (by decide) (by decide) (by decide) hv t2.1 fun e M3 he t3 => ?_
  try simp only [sSeq, sSet, sIf, sRet, sDrop, sNil, sRaise, sAsg, sPar2, sPar3, gSet, gTupD, gsCons, gsNil, gSub, wVar, wC, wOp, wB, wTup, wFz, wSt, fLst, fCat, zNil, zCons, wAnd, wOr, wNot, wIf, wTst, uAnd, uOr, uNot, tstOp, wLeLe, uLtLt, wNeg, oSub, oMul, oDiv, oMod, oPow, oLt, oLe, oGt, oGe, oCmp, oAbs, wIsi, wCall, wIsN, uIsN, startD, lenD, viewL, List.map_cons, List.map_nil, List.length_cons, List.length_nil, List.replicate, List.cons_append, List.nil_append, List.getElem?_cons_zero, List.getElem?_cons_succ, List.set_cons_zero, List.set_cons_succ, Nat.add_sub_cancel, Nat.sub_self, Nat.zero_add, Nat.reduceAdd, Nat.reduceSub, if_true, if_false, true_and, and_true, Bool.false_eq_true, reduceIte, ↓reduceIte, min_ii, max_ii, add_ii, add_tt, add_ss, add_ll, len_tup, len_lst, len_scr, len_str, int_int, int_bl, tup_lst, tup_tup, see_non, see_bl, see_int, see_str, see_tup, see_lst, see_dic, see_adr, see_scr, see_kup, ty_non, ty_bl, ty_int, ty_str, ty_tup, ty_lst, ty_kup, reduceCtorEq, nn_non, nn_bl, nn_int, nn_str, nn_tup, nn_lst, nn_dic, wFrz, wSl, oSome, oNone, ixT0, ixT1, ixT2, ixT3, ixL0, ixL1, ixL2, ixL3, eqII, neII, eqBB, neBB, eqPP, nePP, sz0, sz1, sz2, sz3, sz4, sz5, sz6, sz7, sz8, sz9, sz10, sz12, sz1b, sz2b, sz3b, sz4b, Option.bind_some, Bool.not_true, Bool.not_false, decide_eq_true_eq, beq_iff_eq, Bool.not_eq_true', beq_eq_false_iff_ne, ne_eq, kII, kIB, kIT, kIS, kIL, kBI, kBB, kBT, kBS, kBL, kSI, kSB, kST, kSS, kSL, kNI, kNB, kNT, kNS, kNL, kTI, kTB, kTT, kTS, kTL, kLI, kLB, kLT, kLS, kLL]
  exact ⟨sz, key a b e M3 (th80' ha) hb (th80' he) ((t1.trans t2).trans t3)⟩
theorem turns24 {x0 x1 x5 x6 x7 x8 x9 x10 x12 x13 x14 x15 x16 x17 : Option L3.D} : ∀ (items : List L3.D) (M : Mem) (n : Nat) (ds : List L3.D) (y4 y11 : Option L3.D), Crank M i → (∀ d ∈ items, thB 20 B38 d = true) → Things n ds → n + 3 * items.length ≤ 1000 → (∀ ds' z4 z11 M', Things (n + 3 * items.length) ds' → Turned i M M' → D.nx [x0, x1, some (.ref i), some (.lst ds'), z4, x5, x6, x7, x8, x9, x10, z11, x12, x13, x14, x15, x16, x17] M') →
    sTurns (gSet 4) (sSeq blaw_s1 blaw_s2) items [x0, x1, some (.ref i), some (.lst ds), y4, x5, x6, x7, x8, x9, x10, y11, x12, x13, x14, x15, x16, x17] M D E
  | [], M, n, ds, y4, y11, c, hi, hd, hn, h => turns_nil (h ds y4 y11 M hd (.refl c))
  | d :: items, M, n, ds, y4, y11, c, hi, hd, hn, h => by
    refine turns_cons ?_
    rw [List.length_cons] at hn h
    refine t24_ok (by omega) c (hi d List.mem_cons_self) hd fun ds1 z11 M1 hd1 t1 => ?_
    refine turns24 items M1 (n + 3) ds1 _ _ t1.1 (fun x hx => hi x (List.mem_cons_of_mem _ hx)) hd1 (by omega) fun ds2 z4 z11 M2 hd2 t2 => ?_
    refine h ds2 z4 z11 M2 ?_ (t1.trans t2)
    rwa [show n + 3 * (items.length + 1) = n + 3 + 3 * items.length by omega]
theorem w24_ok {x0 x1 x4 x5 x6 x7 x8 x11 x12 x13 x14 x15 x16 x17 : Option L3.D} {n : Nat} {ds : List L3.D} {x : Wish} (hl : l.ok) (hx : WishOk x) (c : Crank M i) (hd : Things 8 ds) (h : ∀ ds' z4 z11 M', Things 20 ds' → Turned i M M' → D.nx [x0, x1, some (.ref i), some (.lst ds'), z4, x5, x6, x7, x8, some l.d, some (wishD x), z11, x12, x13, x14, x15, x16, x17] M') : blaw_s24 [x0, x1, some (.ref i), some (.lst ds), x4, x5, x6, x7, x8, some l.d, some (wishD x), x11, x12, x13, x14, x15, x16, x17] M D E := by
  have tl : thB 20 B38 l.d = true := by
    obtain ⟨h1, h2, h3⟩ := hl
    have b38 : (100 : Int) ≤ B38 := by decide
    refine th_tup.mpr ⟨by simp, fun d hd => ?_⟩
    simp only [List.mem_cons, List.not_mem_nil, or_false] at hd
    rcases hd with rfl | rfl | rfl
    · rw [th_int]; omega
    · rw [th_int]; omega
    · rfl
  have tx : thB 20 B38 (wishD x) = true := by
    have hx : -12 ≤ x.late ∧ x.late ≤ 12 := hx
    have b38 : (100 : Int) ≤ B38 := by decide
    refine th_tup.mpr ⟨by simp, fun d hd => ?_⟩
    simp only [List.mem_cons, List.not_mem_nil, or_false] at hd
    rcases hd with rfl | rfl | rfl
    · rw [th_int]; omega
    · rfl
    · rfl
  have key := turns24 (E := E) (D := D) (x0 := x0) (x1 := x1) (x5 := x5) (x6 := x6) (x7 := x7) (x8 := x8) (x9 := some l.d) (x10 := some (wishD x)) (x12 := x12) (x13 := x13) (x14 := x14) (x15 := x15) (x16 := x16) (x17 := x17) [l.d, l.d, wishD x, wishD x] M 8 ds x4 x11 c (fun d hd => by
    simp only [List.mem_cons, List.not_mem_nil, or_false] at hd
    rcases hd with rfl | rfl | rfl | rfl
    · exact tl
    · exact tl
    · exact tx
    · exact tx) hd (by simp) h
  simp only [blaw_s24, sFor]
  generalize (sSeq blaw_s1 blaw_s2) = body at key ⊢
  simp only [iSeq, sSeq, sSet, sIf, sRet, sDrop, sNil, sRaise, sAsg, sPar2, sPar3, gSet, gTupD, gsCons, gsNil, gSub, wVar, wC, wOp, wB, wTup, wFz, wSt, fLst, fCat, zNil, zCons, wAnd, wOr, wNot, wIf, wTst, uAnd, uOr, uNot, tstOp, wLeLe, uLtLt, wNeg, oSub, oMul, oDiv, oMod, oPow, oLt, oLe, oGt, oGe, oCmp, oAbs, wIsi, wCall, wIsN, uIsN, startD, lenD, viewL, List.map_cons, List.map_nil, List.length_cons, List.length_nil, List.replicate, List.cons_append, List.nil_append, List.getElem?_cons_zero, List.getElem?_cons_succ, List.set_cons_zero, List.set_cons_succ, Nat.add_sub_cancel, Nat.sub_self, Nat.zero_add, Nat.reduceAdd, Nat.reduceSub, if_true, if_false, true_and, and_true, Bool.false_eq_true, reduceIte, ↓reduceIte, min_ii, max_ii, add_ii, add_tt, add_ss, add_ll, len_tup, len_lst, len_scr, len_str, int_int, int_bl, tup_lst, tup_tup, see_non, see_bl, see_int, see_str, see_tup, see_lst, see_dic, see_adr, see_scr, see_kup, ty_non, ty_bl, ty_int, ty_str, ty_tup, ty_lst, ty_kup, reduceCtorEq, nn_non, nn_bl, nn_int, nn_str, nn_tup, nn_lst, nn_dic, wFrz, wSl, oSome, oNone, ixT0, ixT1, ixT2, ixT3, ixL0, ixL1, ixL2, ixL3, eqII, neII, eqBB, neBB, eqPP, nePP, sz0, sz1, sz2, sz3, sz4, sz5, sz6, sz7, sz8, sz9, sz10, sz12, sz1b, sz2b, sz3b, sz4b, Option.bind_some, Bool.not_true, Bool.not_false, decide_eq_true_eq, beq_iff_eq, Bool.not_eq_true', beq_eq_false_iff_ne, ne_eq, kII, kIB, kIT, kIS, kIL, kBI, kBB, kBT, kBS, kBL, kSI, kSB, kST, kSS, kSL, kNI, kNB, kNT, kNS, kNL, kTI, kTB, kTT, kTS, kTL, kLI, kLB, kLT, kLS, kLL]
  exact key
theorem t25_ok {x0 x1 x2 x4 x6 x7 x8 x9 x10 x11 x12 x13 x14 x15 x16 x17 : Option L3.D} {n : Nat} {ds : List L3.D} (hn : n ≤ 1000) (hv : thB 80 B2 v = true) (hds : Things n ds) (h : ∀ ds', Things (n + 4) ds' → D.nx [x0, x1, x2, some (.lst ds'), x4, some v, x6, x7, x8, x9, x10, x11, x12, x13, x14, x15, x16, x17] M) : blaw_s3 [x0, x1, x2, some (.lst ds), x4, some v, x6, x7, x8, x9, x10, x11, x12, x13, x14, x15, x16, x17] M D E := by
  have t1 : thB 80 B2 (.int 1) = true := by decide
  have tr : ∀ a b c : L3.D, thB 80 B2 a = true → thB 80 B2 b = true → thB 80 B2 c = true → thB 80 B2 (.tup [a, b, c]) = true := fun a b c ha hb hc => th_tup.mpr ⟨by simp, fun d hd => by
    simp only [List.mem_cons, List.not_mem_nil, or_false] at hd
    rcases hd with rfl | rfl | rfl
    · exact ha
    · exact hb
    · exact hc⟩
  have key := h (ds ++ [.tup [v, .int 1, .bl false], .tup [.int 1, v, .bl true], .tup [v, .bl false, .bl true], .tup [.int 1, .int 1, v]]) (things_app hds (by simp) fun d hd => by
    simp only [List.mem_cons, List.not_mem_nil, or_false] at hd
    rcases hd with rfl | rfl | rfl | rfl
    · exact tr _ _ _ hv t1 rfl
    · exact tr _ _ _ t1 hv rfl
    · exact tr _ _ _ hv rfl rfl
    · exact tr _ _ _ t1 t1 hv)
  have sz : ds.length + 4 ≤ sizeLine := sz_le (by have := hds.1; omega)
  simp only [blaw_s3, sSeq, sSet, sIf, sRet, sDrop, sNil, sRaise, sAsg, sPar2, sPar3, gSet, gTupD, gsCons, gsNil, gSub, wVar, wC, wOp, wB, wTup, wFz, wSt, fLst, fCat, zNil, zCons, wAnd, wOr, wNot, wIf, wTst, uAnd, uOr, uNot, tstOp, wLeLe, uLtLt, wNeg, oSub, oMul, oDiv, oMod, oPow, oLt, oLe, oGt, oGe, oCmp, oAbs, wIsi, wCall, wIsN, uIsN, startD, lenD, viewL, List.map_cons, List.map_nil, List.length_cons, List.length_nil, List.replicate, List.cons_append, List.nil_append, List.getElem?_cons_zero, List.getElem?_cons_succ, List.set_cons_zero, List.set_cons_succ, Nat.add_sub_cancel, Nat.sub_self, Nat.zero_add, Nat.reduceAdd, Nat.reduceSub, if_true, if_false, true_and, and_true, Bool.false_eq_true, reduceIte, ↓reduceIte, min_ii, max_ii, add_ii, add_tt, add_ss, add_ll, len_tup, len_lst, len_scr, len_str, int_int, int_bl, tup_lst, tup_tup, see_non, see_bl, see_int, see_str, see_tup, see_lst, see_dic, see_adr, see_scr, see_kup, ty_non, ty_bl, ty_int, ty_str, ty_tup, ty_lst, ty_kup, reduceCtorEq, nn_non, nn_bl, nn_int, nn_str, nn_tup, nn_lst, nn_dic, wFrz, wSl, oSome, oNone, ixT0, ixT1, ixT2, ixT3, ixL0, ixL1, ixL2, ixL3, eqII, neII, eqBB, neBB, eqPP, nePP, sz0, sz1, sz2, sz3, sz4, sz5, sz6, sz7, sz8, sz9, sz10, sz12, sz1b, sz2b, sz3b, sz4b, Option.bind_some, Bool.not_true, Bool.not_false, decide_eq_true_eq, beq_iff_eq, Bool.not_eq_true', beq_eq_false_iff_ne, ne_eq, kII, kIB, kIT, kIS, kIL, kBI, kBB, kBT, kBS, kBL, kSI, kSB, kST, kSS, kSL, kNI, kNB, kNT, kNS, kNL, kTI, kTB, kTT, kTS, kTL, kLI, kLB, kLT, kLS, kLL]
  exact ⟨sz, key⟩
theorem turns25 {x0 x1 x2 x4 x6 x7 x8 x9 x10 x11 x12 x13 x14 x15 x16 x17 : Option L3.D} : ∀ (items : List L3.D) (n : Nat) (ds : List L3.D) (y5 : Option L3.D), (∀ d ∈ items, thB 80 B2 d = true) → Things n ds → n + 4 * items.length ≤ 1000 → (∀ ds' z5, Things (n + 4 * items.length) ds' → D.nx [x0, x1, x2, some (.lst ds'), x4, z5, x6, x7, x8, x9, x10, x11, x12, x13, x14, x15, x16, x17] M) →
    sTurns (gSet 5) blaw_s3 items [x0, x1, x2, some (.lst ds), x4, y5, x6, x7, x8, x9, x10, x11, x12, x13, x14, x15, x16, x17] M D E
  | [], n, ds, y5, hi, hd, hn, h => turns_nil (h ds y5 hd)
  | d :: items, n, ds, y5, hi, hd, hn, h => by
    refine turns_cons ?_
    rw [List.length_cons] at hn h
    refine t25_ok (by omega) (hi d List.mem_cons_self) hd fun ds1 hd1 => ?_
    refine turns25 items (n + 4) ds1 _ (fun x hx => hi x (List.mem_cons_of_mem _ hx)) hd1 (by omega) fun ds2 z5 hd2 => ?_
    refine h ds2 z5 ?_
    rwa [show n + 4 * (items.length + 1) = n + 4 + 4 * items.length by omega]
theorem w25_ok {x0 x1 x2 x4 x5 x6 x7 x8 x9 x10 x11 x12 x13 x14 x15 x16 x17 : Option L3.D} {ds : List L3.D} (hd : Things 20 ds) (h : ∀ ds' z5, Things 68 ds' → D.nx [x0, x1, x2, some (.lst ds'), x4, z5, x6, x7, x8, x9, x10, x11, x12, x13, x14, x15, x16, x17] M) : blaw_s25 [x0, x1, x2, some (.lst ds), x4, x5, x6, x7, x8, x9, x10, x11, x12, x13, x14, x15, x16, x17] M D E := by
  have key := turns25 (E := E) (D := D) (M := M) (x0 := x0) (x1 := x1) (x2 := x2) (x4 := x4) (x6 := x6) (x7 := x7) (x8 := x8) (x9 := x9) (x10 := x10) (x11 := x11) (x12 := x12) (x13 := x13) (x14 := x14) (x15 := x15) (x16 := x16) (x17 := x17) [.int (-13), .int (-12), .int (-1), .int 0, .int 1, .int 2, .int 3, .int 4, .int 5, .int 12, .int 13, .bl true] 20 ds x5 (fun d hd => by
    have : ([.int (-13), .int (-12), .int (-1), .int 0, .int 1, .int 2, .int 3, .int 4, .int 5, .int 12, .int 13, .bl true] : List L3.D).all (thB 80 B2) = true := by decide +kernel
    exact List.all_eq_true.mp this d hd) hd (by simp) h
  have e12 : (List.length ([.int (-13), .int (-12), .int (-1), .int 0, .int 1, .int 2, .int 3, .int 4, .int 5, .int 12, .int 13, .bl true] : List L3.D) ≤ sizeLine) = True := eq_true (sz_le (by decide))
  simp only [blaw_s25, sFor]
  generalize blaw_s3 = body at key ⊢
  simp only [iSeq, sSeq, sSet, sIf, sRet, sDrop, sNil, sRaise, sAsg, sPar2, sPar3, gSet, gTupD, gsCons, gsNil, gSub, wVar, wC, wOp, wB, wTup, wFz, wSt, fLst, fCat, zNil, zCons, wAnd, wOr, wNot, wIf, wTst, uAnd, uOr, uNot, tstOp, wLeLe, uLtLt, wNeg, oSub, oMul, oDiv, oMod, oPow, oLt, oLe, oGt, oGe, oCmp, oAbs, wIsi, wCall, wIsN, uIsN, startD, lenD, viewL, List.map_cons, List.map_nil, List.length_cons, List.length_nil, List.replicate, List.cons_append, List.nil_append, List.getElem?_cons_zero, List.getElem?_cons_succ, List.set_cons_zero, List.set_cons_succ, Nat.add_sub_cancel, Nat.sub_self, Nat.zero_add, Nat.reduceAdd, Nat.reduceSub, if_true, if_false, true_and, and_true, Bool.false_eq_true, reduceIte, ↓reduceIte, min_ii, max_ii, add_ii, add_tt, add_ss, add_ll, len_tup, len_lst, len_scr, len_str, int_int, int_bl, tup_lst, tup_tup, see_non, see_bl, see_int, see_str, see_tup, see_lst, see_dic, see_adr, see_scr, see_kup, ty_non, ty_bl, ty_int, ty_str, ty_tup, ty_lst, ty_kup, reduceCtorEq, nn_non, nn_bl, nn_int, nn_str, nn_tup, nn_lst, nn_dic, wFrz, wSl, oSome, oNone, ixT0, ixT1, ixT2, ixT3, ixL0, ixL1, ixL2, ixL3, eqII, neII, eqBB, neBB, eqPP, nePP, sz0, sz1, sz2, sz3, sz4, sz5, sz6, sz7, sz8, sz9, sz10, sz12, sz1b, sz2b, sz3b, sz4b, Option.bind_some, Bool.not_true, Bool.not_false, decide_eq_true_eq, beq_iff_eq, Bool.not_eq_true', beq_eq_false_iff_ne, ne_eq, kII, kIB, kIT, kIS, kIL, kBI, kBB, kBT, kBS, kBL, kSI, kSB, kST, kSS, kSL, kNI, kNB, kNT, kNS, kNL, kTI, kTB, kTT, kTS, kTL, kLI, kLB, kLT, kLS, kLL]
  first | exact key | exact ⟨sz_le (by decide), key⟩
/-! ### any values -/
def both : List (Str × CtD) := [("length", C_length), ("slit", C_slit)]
theorem bad_both {p : Str × CtD} (hp : p ∈ both) (hv : v.pure = true) (hb : isLoopD v = false) (h : E ⟨"InvalidLoop", none⟩ M) : p.2 [v, .non] M Q E := by
  unfold both at hp
  rcases List.mem_cons.mp hp with rfl | hp
  · simp only [Cq_length, blength, blength_s1, sSeq, sSet, sIf, sRet, sDrop, sNil, sRaise, sAsg, sPar2, sPar3, gSet, gTupD, gsCons, gsNil, gSub, wVar, wC, wOp, wB, wTup, wFz, wSt, fLst, fCat, zNil, zCons, wAnd, wOr, wNot, wIf, wTst, uAnd, uOr, uNot, tstOp, wLeLe, uLtLt, wNeg, oSub, oMul, oDiv, oMod, oPow, oLt, oLe, oGt, oGe, oCmp, oAbs, wIsi, wCall, wIsN, uIsN, startD, lenD, viewL, List.map_cons, List.map_nil, List.length_cons, List.length_nil, List.replicate, List.cons_append, List.nil_append, List.getElem?_cons_zero, List.getElem?_cons_succ, List.set_cons_zero, List.set_cons_succ, Nat.add_sub_cancel, Nat.sub_self, Nat.zero_add, Nat.reduceAdd, Nat.reduceSub, if_true, if_false, true_and, and_true, Bool.false_eq_true, reduceIte, ↓reduceIte, min_ii, max_ii, add_ii, add_tt, add_ss, add_ll, len_tup, len_lst, len_scr, len_str, int_int, int_bl, tup_lst, tup_tup, see_non, see_bl, see_int, see_str, see_tup, see_lst, see_dic, see_adr, see_scr, see_kup, ty_non, ty_bl, ty_int, ty_str, ty_tup, ty_lst, ty_kup, reduceCtorEq, nn_non, nn_bl, nn_int, nn_str, nn_tup, nn_lst, nn_dic, wFrz, wSl, oSome, oNone, ixT0, ixT1, ixT2, ixT3, ixL0, ixL1, ixL2, ixL3, eqII, neII, eqBB, neBB, eqPP, nePP, sz0, sz1, sz2, sz3, sz4, sz5, sz6, sz7, sz8, sz9, sz10, sz12, sz1b, sz2b, sz3b, sz4b, Option.bind_some, Bool.not_true, Bool.not_false, decide_eq_true_eq, beq_iff_eq, Bool.not_eq_true', beq_eq_false_iff_ne, ne_eq, kII, kIB, kIT, kIS, kIL, kBI, kBB, kBT, kBS, kBL, kSI, kSB, kST, kSS, kSL, kNI, kNB, kNT, kNS, kNL, kTI, kTB, kTT, kTS, kTL, kLI, kLB, kLT, kLS, kLL]
    exact need_loop_ok hv (fun e => by rw [hb] at e; cases e) (fun _ => h)
  · rcases List.mem_cons.mp hp with rfl | hp
    · simp only [Cq_slit, bslit, bslit_s3, sSeq, sSet, sIf, sRet, sDrop, sNil, sRaise, sAsg, sPar2, sPar3, gSet, gTupD, gsCons, gsNil, gSub, wVar, wC, wOp, wB, wTup, wFz, wSt, fLst, fCat, zNil, zCons, wAnd, wOr, wNot, wIf, wTst, uAnd, uOr, uNot, tstOp, wLeLe, uLtLt, wNeg, oSub, oMul, oDiv, oMod, oPow, oLt, oLe, oGt, oGe, oCmp, oAbs, wIsi, wCall, wIsN, uIsN, startD, lenD, viewL, List.map_cons, List.map_nil, List.length_cons, List.length_nil, List.replicate, List.cons_append, List.nil_append, List.getElem?_cons_zero, List.getElem?_cons_succ, List.set_cons_zero, List.set_cons_succ, Nat.add_sub_cancel, Nat.sub_self, Nat.zero_add, Nat.reduceAdd, Nat.reduceSub, if_true, if_false, true_and, and_true, Bool.false_eq_true, reduceIte, ↓reduceIte, min_ii, max_ii, add_ii, add_tt, add_ss, add_ll, len_tup, len_lst, len_scr, len_str, int_int, int_bl, tup_lst, tup_tup, see_non, see_bl, see_int, see_str, see_tup, see_lst, see_dic, see_adr, see_scr, see_kup, ty_non, ty_bl, ty_int, ty_str, ty_tup, ty_lst, ty_kup, reduceCtorEq, nn_non, nn_bl, nn_int, nn_str, nn_tup, nn_lst, nn_dic, wFrz, wSl, oSome, oNone, ixT0, ixT1, ixT2, ixT3, ixL0, ixL1, ixL2, ixL3, eqII, neII, eqBB, neBB, eqPP, nePP, sz0, sz1, sz2, sz3, sz4, sz5, sz6, sz7, sz8, sz9, sz10, sz12, sz1b, sz2b, sz3b, sz4b, Option.bind_some, Bool.not_true, Bool.not_false, decide_eq_true_eq, beq_iff_eq, Bool.not_eq_true', beq_eq_false_iff_ne, ne_eq, kII, kIB, kIT, kIS, kIL, kBI, kBB, kBT, kBS, kBL, kSI, kSB, kST, kSS, kSL, kNI, kNB, kNT, kNS, kNL, kTI, kTB, kTT, kTS, kTL, kLI, kLB, kLT, kLS, kLL]
      exact need_loop_ok hv (fun e => by rw [hb] at e; cases e) (fun _ => h)
    · cases hp
theorem w6_ok {x0 x1 x2 x3 x5 x6 x7 x8 x9 x10 x11 x12 x13 x15 x16 x17 : Option L3.D} {p : Str × CtD} (hp : p ∈ both) (hv : v.pure = true) (hb : isLoopD v = false) (h : D.nx [x0, x1, x2, x3, some v, x5, x6, x7, x8, x9, x10, x11, x12, x13, some (.adr (af p.1)), x15, x16, x17] M) : blaw_s6 af [x0, x1, x2, x3, some v, x5, x6, x7, x8, x9, x10, x11, x12, x13, some (.adr (af p.1)), x15, x16, x17] M D E := by
  have key := fun {Q : KD} {E : ExK} (h4 : E ⟨"InvalidLoop", none⟩ M) => bad_both (M := M) (E := E) hp (Q := Q) hv hb h4
  simp only [blaw_s5, blaw_s6, wCaught, wCallV, sSeq, sSet, sIf, sRet, sDrop, sNil, sRaise, sAsg, sPar2, sPar3, gSet, gTupD, gsCons, gsNil, gSub, wVar, wC, wOp, wB, wTup, wFz, wSt, fLst, fCat, zNil, zCons, wAnd, wOr, wNot, wIf, wTst, uAnd, uOr, uNot, tstOp, wLeLe, uLtLt, wNeg, oSub, oMul, oDiv, oMod, oPow, oLt, oLe, oGt, oGe, oCmp, oAbs, wIsi, wCall, wIsN, uIsN, startD, lenD, viewL, List.map_cons, List.map_nil, List.length_cons, List.length_nil, List.replicate, List.cons_append, List.nil_append, List.getElem?_cons_zero, List.getElem?_cons_succ, List.set_cons_zero, List.set_cons_succ, Nat.add_sub_cancel, Nat.sub_self, Nat.zero_add, Nat.reduceAdd, Nat.reduceSub, if_true, if_false, true_and, and_true, Bool.false_eq_true, reduceIte, ↓reduceIte, min_ii, max_ii, add_ii, add_tt, add_ss, add_ll, len_tup, len_lst, len_scr, len_str, int_int, int_bl, tup_lst, tup_tup, see_non, see_bl, see_int, see_str, see_tup, see_lst, see_dic, see_adr, see_scr, see_kup, ty_non, ty_bl, ty_int, ty_str, ty_tup, ty_lst, ty_kup, reduceCtorEq, nn_non, nn_bl, nn_int, nn_str, nn_tup, nn_lst, nn_dic, wFrz, wSl, oSome, oNone, ixT0, ixT1, ixT2, ixT3, ixL0, ixL1, ixL2, ixL3, eqII, neII, eqBB, neBB, eqPP, nePP, sz0, sz1, sz2, sz3, sz4, sz5, sz6, sz7, sz8, sz9, sz10, sz12, sz1b, sz2b, sz3b, sz4b, Option.bind_some, Bool.not_true, Bool.not_false, decide_eq_true_eq, beq_iff_eq, Bool.not_eq_true', beq_eq_false_iff_ne, ne_eq, kII, kIB, kIT, kIS, kIL, kBI, kBB, kBT, kBS, kBL, kSI, kSB, kST, kSS, kSL, kNI, kNB, kNT, kNS, kNL, kTI, kTB, kTT, kTS, kTL, kLI, kLB, kLT, kLS, kLL]
  refine ⟨p, hp, rfl, key ⟨good_loop_x, ?_⟩⟩
  refine bad_loop_t ?_
  simp only [sSeq, sSet, sIf, sRet, sDrop, sNil, sRaise, sAsg, sPar2, sPar3, gSet, gTupD, gsCons, gsNil, gSub, wVar, wC, wOp, wB, wTup, wFz, wSt, fLst, fCat, zNil, zCons, wAnd, wOr, wNot, wIf, wTst, uAnd, uOr, uNot, tstOp, wLeLe, uLtLt, wNeg, oSub, oMul, oDiv, oMod, oPow, oLt, oLe, oGt, oGe, oCmp, oAbs, wIsi, wCall, wIsN, uIsN, startD, lenD, viewL, List.map_cons, List.map_nil, List.length_cons, List.length_nil, List.replicate, List.cons_append, List.nil_append, List.getElem?_cons_zero, List.getElem?_cons_succ, List.set_cons_zero, List.set_cons_succ, Nat.add_sub_cancel, Nat.sub_self, Nat.zero_add, Nat.reduceAdd, Nat.reduceSub, if_true, if_false, true_and, and_true, Bool.false_eq_true, reduceIte, ↓reduceIte, min_ii, max_ii, add_ii, add_tt, add_ss, add_ll, len_tup, len_lst, len_scr, len_str, int_int, int_bl, tup_lst, tup_tup, see_non, see_bl, see_int, see_str, see_tup, see_lst, see_dic, see_adr, see_scr, see_kup, ty_non, ty_bl, ty_int, ty_str, ty_tup, ty_lst, ty_kup, reduceCtorEq, nn_non, nn_bl, nn_int, nn_str, nn_tup, nn_lst, nn_dic, wFrz, wSl, oSome, oNone, ixT0, ixT1, ixT2, ixT3, ixL0, ixL1, ixL2, ixL3, eqII, neII, eqBB, neBB, eqPP, nePP, sz0, sz1, sz2, sz3, sz4, sz5, sz6, sz7, sz8, sz9, sz10, sz12, sz1b, sz2b, sz3b, sz4b, Option.bind_some, Bool.not_true, Bool.not_false, decide_eq_true_eq, beq_iff_eq, Bool.not_eq_true', beq_eq_false_iff_ne, ne_eq, kII, kIB, kIT, kIS, kIL, kBI, kBB, kBT, kBS, kBL, kSI, kSB, kST, kSS, kSL, kNI, kNB, kNT, kNS, kNL, kTI, kTB, kTT, kTS, kTL, kLI, kLB, kLT, kLS, kLL]
  exact h
theorem w7_ok {x0 x1 x2 x3 x5 x6 x7 x8 x9 x10 x11 x12 x13 x14 x15 x16 x17 : Option L3.D} (hv : v.pure = true) (hb : isLoopD v = false) (h : ∀ y14, D.nx [x0, x1, x2, x3, some v, x5, x6, x7, x8, x9, x10, x11, x12, x13, y14, x15, x16, x17] M) : blaw_s7 af [x0, x1, x2, x3, some v, x5, x6, x7, x8, x9, x10, x11, x12, x13, x14, x15, x16, x17] M D E := by
  have one := fun {D : EndsD} (p : Str × CtD) (hp : p ∈ both) (h : D.nx [x0, x1, x2, x3, some v, x5, x6, x7, x8, x9, x10, x11, x12, x13, some (.adr (af p.1)), x15, x16, x17] M) => w6_ok (E := E) (af := af) hp hv hb h
  simp only [blaw_s7, sFor]
  generalize (blaw_s6 af) = body at one ⊢
  simp only [iSeq, sSeq, sSet, sIf, sRet, sDrop, sNil, sRaise, sAsg, sPar2, sPar3, gSet, gTupD, gsCons, gsNil, gSub, wVar, wC, wOp, wB, wTup, wFz, wSt, fLst, fCat, zNil, zCons, wAnd, wOr, wNot, wIf, wTst, uAnd, uOr, uNot, tstOp, wLeLe, uLtLt, wNeg, oSub, oMul, oDiv, oMod, oPow, oLt, oLe, oGt, oGe, oCmp, oAbs, wIsi, wCall, wIsN, uIsN, startD, lenD, viewL, List.map_cons, List.map_nil, List.length_cons, List.length_nil, List.replicate, List.cons_append, List.nil_append, List.getElem?_cons_zero, List.getElem?_cons_succ, List.set_cons_zero, List.set_cons_succ, Nat.add_sub_cancel, Nat.sub_self, Nat.zero_add, Nat.reduceAdd, Nat.reduceSub, if_true, if_false, true_and, and_true, Bool.false_eq_true, reduceIte, ↓reduceIte, min_ii, max_ii, add_ii, add_tt, add_ss, add_ll, len_tup, len_lst, len_scr, len_str, int_int, int_bl, tup_lst, tup_tup, see_non, see_bl, see_int, see_str, see_tup, see_lst, see_dic, see_adr, see_scr, see_kup, ty_non, ty_bl, ty_int, ty_str, ty_tup, ty_lst, ty_kup, reduceCtorEq, nn_non, nn_bl, nn_int, nn_str, nn_tup, nn_lst, nn_dic, wFrz, wSl, oSome, oNone, ixT0, ixT1, ixT2, ixT3, ixL0, ixL1, ixL2, ixL3, eqII, neII, eqBB, neBB, eqPP, nePP, sz0, sz1, sz2, sz3, sz4, sz5, sz6, sz7, sz8, sz9, sz10, sz12, sz1b, sz2b, sz3b, sz4b, Option.bind_some, Bool.not_true, Bool.not_false, decide_eq_true_eq, beq_iff_eq, Bool.not_eq_true', beq_eq_false_iff_ne, ne_eq, kII, kIB, kIT, kIS, kIL, kBI, kBB, kBT, kBS, kBL, kSI, kSB, kST, kSS, kSL, kNI, kNB, kNT, kNS, kNL, kTI, kTB, kTT, kTS, kTL, kLI, kLB, kLT, kLS, kLL]
  refine turns_cons (one ("length", C_length) List.mem_cons_self ?_)
  dsimp only
  refine turns_cons (one ("slit", C_slit) (List.mem_cons_of_mem _ List.mem_cons_self) ?_)
  dsimp only
  exact turns_nil (h _)
theorem t26_ok {x0 x1 x2 x3 x5 x6 x7 x8 x9 x10 x11 x12 x13 x14 x15 x16 x17 : Option L3.D} (hv : v.pure = true) (h : ∀ y12 y14, D.nx [x0, x1, x2, x3, some v, x5, x6, x7, x8, x9, x10, x11, y12, x13, y14, x15, x16, x17] M) : (sSeq blaw_s8 (sSeq blaw_s9 (blaw_s10 af))) [x0, x1, x2, x3, some v, x5, x6, x7, x8, x9, x10, x11, x12, x13, x14, x15, x16, x17] M D E := by
  have seven := fun (x12 : Option L3.D) hb h => w7_ok (D := D) (E := E) (M := M) (af := af) (v := v) (x0 := x0) (x1 := x1) (x2 := x2) (x3 := x3) (x5 := x5) (x6 := x6) (x7 := x7) (x8 := x8) (x9 := x9) (x10 := x10) (x11 := x11) (x12 := x12) (x13 := x13) (x14 := x14) (x15 := x15) (x16 := x16) (x17 := x17) hv hb h
  simp only [sSeq]
  simp only [blaw_s8, sSeq, sSet, sIf, sRet, sDrop, sNil, sRaise, sAsg, sPar2, sPar3, gSet, gTupD, gsCons, gsNil, gSub, wVar, wC, wOp, wB, wTup, wFz, wSt, fLst, fCat, zNil, zCons, wAnd, wOr, wNot, wIf, wTst, uAnd, uOr, uNot, tstOp, wLeLe, uLtLt, wNeg, oSub, oMul, oDiv, oMod, oPow, oLt, oLe, oGt, oGe, oCmp, oAbs, wIsi, wCall, wIsN, uIsN, startD, lenD, viewL, List.map_cons, List.map_nil, List.length_cons, List.length_nil, List.replicate, List.cons_append, List.nil_append, List.getElem?_cons_zero, List.getElem?_cons_succ, List.set_cons_zero, List.set_cons_succ, Nat.add_sub_cancel, Nat.sub_self, Nat.zero_add, Nat.reduceAdd, Nat.reduceSub, if_true, if_false, true_and, and_true, Bool.false_eq_true, reduceIte, ↓reduceIte, min_ii, max_ii, add_ii, add_tt, add_ss, add_ll, len_tup, len_lst, len_scr, len_str, int_int, int_bl, tup_lst, tup_tup, see_non, see_bl, see_int, see_str, see_tup, see_lst, see_dic, see_adr, see_scr, see_kup, ty_non, ty_bl, ty_int, ty_str, ty_tup, ty_lst, ty_kup, reduceCtorEq, nn_non, nn_bl, nn_int, nn_str, nn_tup, nn_lst, nn_dic, wFrz, wSl, oSome, oNone, ixT0, ixT1, ixT2, ixT3, ixL0, ixL1, ixL2, ixL3, eqII, neII, eqBB, neBB, eqPP, nePP, sz0, sz1, sz2, sz3, sz4, sz5, sz6, sz7, sz8, sz9, sz10, sz12, sz1b, sz2b, sz3b, sz4b, Option.bind_some, Bool.not_true, Bool.not_false, decide_eq_true_eq, beq_iff_eq, Bool.not_eq_true', beq_eq_false_iff_ne, ne_eq, kII, kIB, kIT, kIS, kIL, kBI, kBB, kBT, kBS, kBL, kSI, kSB, kST, kSS, kSL, kNI, kNB, kNT, kNS, kNL, kTI, kTB, kTT, kTS, kTL, kLI, kLB, kLT, kLS, kLL]
  refine is_ring_any hv ?_
  try simp only [sSeq, sSet, sIf, sRet, sDrop, sNil, sRaise, sAsg, sPar2, sPar3, gSet, gTupD, gsCons, gsNil, gSub, wVar, wC, wOp, wB, wTup, wFz, wSt, fLst, fCat, zNil, zCons, wAnd, wOr, wNot, wIf, wTst, uAnd, uOr, uNot, tstOp, wLeLe, uLtLt, wNeg, oSub, oMul, oDiv, oMod, oPow, oLt, oLe, oGt, oGe, oCmp, oAbs, wIsi, wCall, wIsN, uIsN, startD, lenD, viewL, List.map_cons, List.map_nil, List.length_cons, List.length_nil, List.replicate, List.cons_append, List.nil_append, List.getElem?_cons_zero, List.getElem?_cons_succ, List.set_cons_zero, List.set_cons_succ, Nat.add_sub_cancel, Nat.sub_self, Nat.zero_add, Nat.reduceAdd, Nat.reduceSub, if_true, if_false, true_and, and_true, Bool.false_eq_true, reduceIte, ↓reduceIte, min_ii, max_ii, add_ii, add_tt, add_ss, add_ll, len_tup, len_lst, len_scr, len_str, int_int, int_bl, tup_lst, tup_tup, see_non, see_bl, see_int, see_str, see_tup, see_lst, see_dic, see_adr, see_scr, see_kup, ty_non, ty_bl, ty_int, ty_str, ty_tup, ty_lst, ty_kup, reduceCtorEq, nn_non, nn_bl, nn_int, nn_str, nn_tup, nn_lst, nn_dic, wFrz, wSl, oSome, oNone, ixT0, ixT1, ixT2, ixT3, ixL0, ixL1, ixL2, ixL3, eqII, neII, eqBB, neBB, eqPP, nePP, sz0, sz1, sz2, sz3, sz4, sz5, sz6, sz7, sz8, sz9, sz10, sz12, sz1b, sz2b, sz3b, sz4b, Option.bind_some, Bool.not_true, Bool.not_false, decide_eq_true_eq, beq_iff_eq, Bool.not_eq_true', beq_eq_false_iff_ne, ne_eq, kII, kIB, kIT, kIS, kIL, kBI, kBB, kBT, kBS, kBL, kSI, kSB, kST, kSS, kSL, kNI, kNB, kNT, kNS, kNL, kTI, kTB, kTT, kTS, kTL, kLI, kLB, kLT, kLS, kLL]
  simp only [blaw_s9, blaw_s4, sSeq, sSet, sIf, sRet, sDrop, sNil, sRaise, sAsg, sPar2, sPar3, gSet, gTupD, gsCons, gsNil, gSub, wVar, wC, wOp, wB, wTup, wFz, wSt, fLst, fCat, zNil, zCons, wAnd, wOr, wNot, wIf, wTst, uAnd, uOr, uNot, tstOp, wLeLe, uLtLt, wNeg, oSub, oMul, oDiv, oMod, oPow, oLt, oLe, oGt, oGe, oCmp, oAbs, wIsi, wCall, wIsN, uIsN, startD, lenD, viewL, List.map_cons, List.map_nil, List.length_cons, List.length_nil, List.replicate, List.cons_append, List.nil_append, List.getElem?_cons_zero, List.getElem?_cons_succ, List.set_cons_zero, List.set_cons_succ, Nat.add_sub_cancel, Nat.sub_self, Nat.zero_add, Nat.reduceAdd, Nat.reduceSub, if_true, if_false, true_and, and_true, Bool.false_eq_true, reduceIte, ↓reduceIte, min_ii, max_ii, add_ii, add_tt, add_ss, add_ll, len_tup, len_lst, len_scr, len_str, int_int, int_bl, tup_lst, tup_tup, see_non, see_bl, see_int, see_str, see_tup, see_lst, see_dic, see_adr, see_scr, see_kup, ty_non, ty_bl, ty_int, ty_str, ty_tup, ty_lst, ty_kup, reduceCtorEq, nn_non, nn_bl, nn_int, nn_str, nn_tup, nn_lst, nn_dic, wFrz, wSl, oSome, oNone, ixT0, ixT1, ixT2, ixT3, ixL0, ixL1, ixL2, ixL3, eqII, neII, eqBB, neBB, eqPP, nePP, sz0, sz1, sz2, sz3, sz4, sz5, sz6, sz7, sz8, sz9, sz10, sz12, sz1b, sz2b, sz3b, sz4b, Option.bind_some, Bool.not_true, Bool.not_false, decide_eq_true_eq, beq_iff_eq, Bool.not_eq_true', beq_eq_false_iff_ne, ne_eq, kII, kIB, kIT, kIS, kIL, kBI, kBB, kBT, kBS, kBL, kSI, kSB, kST, kSS, kSL, kNI, kNB, kNT, kNS, kNL, kTI, kTB, kTT, kTS, kTL, kLI, kLB, kLT, kLS, kLL]
  refine is_loop_ok hv ?_
  try simp only [sSeq, sSet, sIf, sRet, sDrop, sNil, sRaise, sAsg, sPar2, sPar3, gSet, gTupD, gsCons, gsNil, gSub, wVar, wC, wOp, wB, wTup, wFz, wSt, fLst, fCat, zNil, zCons, wAnd, wOr, wNot, wIf, wTst, uAnd, uOr, uNot, tstOp, wLeLe, uLtLt, wNeg, oSub, oMul, oDiv, oMod, oPow, oLt, oLe, oGt, oGe, oCmp, oAbs, wIsi, wCall, wIsN, uIsN, startD, lenD, viewL, List.map_cons, List.map_nil, List.length_cons, List.length_nil, List.replicate, List.cons_append, List.nil_append, List.getElem?_cons_zero, List.getElem?_cons_succ, List.set_cons_zero, List.set_cons_succ, Nat.add_sub_cancel, Nat.sub_self, Nat.zero_add, Nat.reduceAdd, Nat.reduceSub, if_true, if_false, true_and, and_true, Bool.false_eq_true, reduceIte, ↓reduceIte, min_ii, max_ii, add_ii, add_tt, add_ss, add_ll, len_tup, len_lst, len_scr, len_str, int_int, int_bl, tup_lst, tup_tup, see_non, see_bl, see_int, see_str, see_tup, see_lst, see_dic, see_adr, see_scr, see_kup, ty_non, ty_bl, ty_int, ty_str, ty_tup, ty_lst, ty_kup, reduceCtorEq, nn_non, nn_bl, nn_int, nn_str, nn_tup, nn_lst, nn_dic, wFrz, wSl, oSome, oNone, ixT0, ixT1, ixT2, ixT3, ixL0, ixL1, ixL2, ixL3, eqII, neII, eqBB, neBB, eqPP, nePP, sz0, sz1, sz2, sz3, sz4, sz5, sz6, sz7, sz8, sz9, sz10, sz12, sz1b, sz2b, sz3b, sz4b, Option.bind_some, Bool.not_true, Bool.not_false, decide_eq_true_eq, beq_iff_eq, Bool.not_eq_true', beq_eq_false_iff_ne, ne_eq, kII, kIB, kIT, kIS, kIL, kBI, kBB, kBT, kBS, kBL, kSI, kSB, kST, kSS, kSL, kNI, kNB, kNT, kNS, kNL, kTI, kTB, kTT, kTS, kTL, kLI, kLB, kLT, kLS, kLL]
  refine is_told_ok ?_
  simp only [beq_self_eq_true, sSeq, sSet, sIf, sRet, sDrop, sNil, sRaise, sAsg, sPar2, sPar3, gSet, gTupD, gsCons, gsNil, gSub, wVar, wC, wOp, wB, wTup, wFz, wSt, fLst, fCat, zNil, zCons, wAnd, wOr, wNot, wIf, wTst, uAnd, uOr, uNot, tstOp, wLeLe, uLtLt, wNeg, oSub, oMul, oDiv, oMod, oPow, oLt, oLe, oGt, oGe, oCmp, oAbs, wIsi, wCall, wIsN, uIsN, startD, lenD, viewL, List.map_cons, List.map_nil, List.length_cons, List.length_nil, List.replicate, List.cons_append, List.nil_append, List.getElem?_cons_zero, List.getElem?_cons_succ, List.set_cons_zero, List.set_cons_succ, Nat.add_sub_cancel, Nat.sub_self, Nat.zero_add, Nat.reduceAdd, Nat.reduceSub, if_true, if_false, true_and, and_true, Bool.false_eq_true, reduceIte, ↓reduceIte, min_ii, max_ii, add_ii, add_tt, add_ss, add_ll, len_tup, len_lst, len_scr, len_str, int_int, int_bl, tup_lst, tup_tup, see_non, see_bl, see_int, see_str, see_tup, see_lst, see_dic, see_adr, see_scr, see_kup, ty_non, ty_bl, ty_int, ty_str, ty_tup, ty_lst, ty_kup, reduceCtorEq, nn_non, nn_bl, nn_int, nn_str, nn_tup, nn_lst, nn_dic, wFrz, wSl, oSome, oNone, ixT0, ixT1, ixT2, ixT3, ixL0, ixL1, ixL2, ixL3, eqII, neII, eqBB, neBB, eqPP, nePP, sz0, sz1, sz2, sz3, sz4, sz5, sz6, sz7, sz8, sz9, sz10, sz12, sz1b, sz2b, sz3b, sz4b, Option.bind_some, Bool.not_true, Bool.not_false, decide_eq_true_eq, beq_iff_eq, Bool.not_eq_true', beq_eq_false_iff_ne, ne_eq, kII, kIB, kIT, kIS, kIL, kBI, kBB, kBT, kBS, kBL, kSI, kSB, kST, kSS, kSL, kNI, kNB, kNT, kNS, kNL, kTI, kTB, kTT, kTS, kTL, kLI, kLB, kLT, kLS, kLL]
  refine is_wish_ok hv ?_
  try simp only [sSeq, sSet, sIf, sRet, sDrop, sNil, sRaise, sAsg, sPar2, sPar3, gSet, gTupD, gsCons, gsNil, gSub, wVar, wC, wOp, wB, wTup, wFz, wSt, fLst, fCat, zNil, zCons, wAnd, wOr, wNot, wIf, wTst, uAnd, uOr, uNot, tstOp, wLeLe, uLtLt, wNeg, oSub, oMul, oDiv, oMod, oPow, oLt, oLe, oGt, oGe, oCmp, oAbs, wIsi, wCall, wIsN, uIsN, startD, lenD, viewL, List.map_cons, List.map_nil, List.length_cons, List.length_nil, List.replicate, List.cons_append, List.nil_append, List.getElem?_cons_zero, List.getElem?_cons_succ, List.set_cons_zero, List.set_cons_succ, Nat.add_sub_cancel, Nat.sub_self, Nat.zero_add, Nat.reduceAdd, Nat.reduceSub, if_true, if_false, true_and, and_true, Bool.false_eq_true, reduceIte, ↓reduceIte, min_ii, max_ii, add_ii, add_tt, add_ss, add_ll, len_tup, len_lst, len_scr, len_str, int_int, int_bl, tup_lst, tup_tup, see_non, see_bl, see_int, see_str, see_tup, see_lst, see_dic, see_adr, see_scr, see_kup, ty_non, ty_bl, ty_int, ty_str, ty_tup, ty_lst, ty_kup, reduceCtorEq, nn_non, nn_bl, nn_int, nn_str, nn_tup, nn_lst, nn_dic, wFrz, wSl, oSome, oNone, ixT0, ixT1, ixT2, ixT3, ixL0, ixL1, ixL2, ixL3, eqII, neII, eqBB, neBB, eqPP, nePP, sz0, sz1, sz2, sz3, sz4, sz5, sz6, sz7, sz8, sz9, sz10, sz12, sz1b, sz2b, sz3b, sz4b, Option.bind_some, Bool.not_true, Bool.not_false, decide_eq_true_eq, beq_iff_eq, Bool.not_eq_true', beq_eq_false_iff_ne, ne_eq, kII, kIB, kIT, kIS, kIL, kBI, kBB, kBT, kBS, kBL, kSI, kSB, kST, kSS, kSL, kNI, kNB, kNT, kNS, kNL, kTI, kTB, kTT, kTS, kTL, kLI, kLB, kLT, kLS, kLL]
  refine is_hope_any hv ?_
  try simp only [sSeq, sSet, sIf, sRet, sDrop, sNil, sRaise, sAsg, sPar2, sPar3, gSet, gTupD, gsCons, gsNil, gSub, wVar, wC, wOp, wB, wTup, wFz, wSt, fLst, fCat, zNil, zCons, wAnd, wOr, wNot, wIf, wTst, uAnd, uOr, uNot, tstOp, wLeLe, uLtLt, wNeg, oSub, oMul, oDiv, oMod, oPow, oLt, oLe, oGt, oGe, oCmp, oAbs, wIsi, wCall, wIsN, uIsN, startD, lenD, viewL, List.map_cons, List.map_nil, List.length_cons, List.length_nil, List.replicate, List.cons_append, List.nil_append, List.getElem?_cons_zero, List.getElem?_cons_succ, List.set_cons_zero, List.set_cons_succ, Nat.add_sub_cancel, Nat.sub_self, Nat.zero_add, Nat.reduceAdd, Nat.reduceSub, if_true, if_false, true_and, and_true, Bool.false_eq_true, reduceIte, ↓reduceIte, min_ii, max_ii, add_ii, add_tt, add_ss, add_ll, len_tup, len_lst, len_scr, len_str, int_int, int_bl, tup_lst, tup_tup, see_non, see_bl, see_int, see_str, see_tup, see_lst, see_dic, see_adr, see_scr, see_kup, ty_non, ty_bl, ty_int, ty_str, ty_tup, ty_lst, ty_kup, reduceCtorEq, nn_non, nn_bl, nn_int, nn_str, nn_tup, nn_lst, nn_dic, wFrz, wSl, oSome, oNone, ixT0, ixT1, ixT2, ixT3, ixL0, ixL1, ixL2, ixL3, eqII, neII, eqBB, neBB, eqPP, nePP, sz0, sz1, sz2, sz3, sz4, sz5, sz6, sz7, sz8, sz9, sz10, sz12, sz1b, sz2b, sz3b, sz4b, Option.bind_some, Bool.not_true, Bool.not_false, decide_eq_true_eq, beq_iff_eq, Bool.not_eq_true', beq_eq_false_iff_ne, ne_eq, kII, kIB, kIT, kIS, kIL, kBI, kBB, kBT, kBS, kBL, kSI, kSB, kST, kSS, kSL, kNI, kNB, kNT, kNS, kNL, kTI, kTB, kTT, kTS, kTL, kLI, kLB, kLT, kLS, kLL]
  refine is_told_ok ?_
  simp only [beq_self_eq_true, sSeq, sSet, sIf, sRet, sDrop, sNil, sRaise, sAsg, sPar2, sPar3, gSet, gTupD, gsCons, gsNil, gSub, wVar, wC, wOp, wB, wTup, wFz, wSt, fLst, fCat, zNil, zCons, wAnd, wOr, wNot, wIf, wTst, uAnd, uOr, uNot, tstOp, wLeLe, uLtLt, wNeg, oSub, oMul, oDiv, oMod, oPow, oLt, oLe, oGt, oGe, oCmp, oAbs, wIsi, wCall, wIsN, uIsN, startD, lenD, viewL, List.map_cons, List.map_nil, List.length_cons, List.length_nil, List.replicate, List.cons_append, List.nil_append, List.getElem?_cons_zero, List.getElem?_cons_succ, List.set_cons_zero, List.set_cons_succ, Nat.add_sub_cancel, Nat.sub_self, Nat.zero_add, Nat.reduceAdd, Nat.reduceSub, if_true, if_false, true_and, and_true, Bool.false_eq_true, reduceIte, ↓reduceIte, min_ii, max_ii, add_ii, add_tt, add_ss, add_ll, len_tup, len_lst, len_scr, len_str, int_int, int_bl, tup_lst, tup_tup, see_non, see_bl, see_int, see_str, see_tup, see_lst, see_dic, see_adr, see_scr, see_kup, ty_non, ty_bl, ty_int, ty_str, ty_tup, ty_lst, ty_kup, reduceCtorEq, nn_non, nn_bl, nn_int, nn_str, nn_tup, nn_lst, nn_dic, wFrz, wSl, oSome, oNone, ixT0, ixT1, ixT2, ixT3, ixL0, ixL1, ixL2, ixL3, eqII, neII, eqBB, neBB, eqPP, nePP, sz0, sz1, sz2, sz3, sz4, sz5, sz6, sz7, sz8, sz9, sz10, sz12, sz1b, sz2b, sz3b, sz4b, Option.bind_some, Bool.not_true, Bool.not_false, decide_eq_true_eq, beq_iff_eq, Bool.not_eq_true', beq_eq_false_iff_ne, ne_eq, kII, kIB, kIT, kIS, kIL, kBI, kBB, kBT, kBS, kBL, kSI, kSB, kST, kSS, kSL, kNI, kNB, kNT, kNS, kNL, kTI, kTB, kTT, kTS, kTL, kLI, kLB, kLT, kLS, kLL]
  generalize hs7 : blaw_s7 af = s7 at seven
  cases e : isLoopD v with
  | true =>
    simp only [blaw_s10, hs7, sSeq, sSet, sIf, sRet, sDrop, sNil, sRaise, sAsg, sPar2, sPar3, gSet, gTupD, gsCons, gsNil, gSub, wVar, wC, wOp, wB, wTup, wFz, wSt, fLst, fCat, zNil, zCons, wAnd, wOr, wNot, wIf, wTst, uAnd, uOr, uNot, tstOp, wLeLe, uLtLt, wNeg, oSub, oMul, oDiv, oMod, oPow, oLt, oLe, oGt, oGe, oCmp, oAbs, wIsi, wCall, wIsN, uIsN, startD, lenD, viewL, List.map_cons, List.map_nil, List.length_cons, List.length_nil, List.replicate, List.cons_append, List.nil_append, List.getElem?_cons_zero, List.getElem?_cons_succ, List.set_cons_zero, List.set_cons_succ, Nat.add_sub_cancel, Nat.sub_self, Nat.zero_add, Nat.reduceAdd, Nat.reduceSub, if_true, if_false, true_and, and_true, Bool.false_eq_true, reduceIte, ↓reduceIte, min_ii, max_ii, add_ii, add_tt, add_ss, add_ll, len_tup, len_lst, len_scr, len_str, int_int, int_bl, tup_lst, tup_tup, see_non, see_bl, see_int, see_str, see_tup, see_lst, see_dic, see_adr, see_scr, see_kup, ty_non, ty_bl, ty_int, ty_str, ty_tup, ty_lst, ty_kup, reduceCtorEq, nn_non, nn_bl, nn_int, nn_str, nn_tup, nn_lst, nn_dic, wFrz, wSl, oSome, oNone, ixT0, ixT1, ixT2, ixT3, ixL0, ixL1, ixL2, ixL3, eqII, neII, eqBB, neBB, eqPP, nePP, sz0, sz1, sz2, sz3, sz4, sz5, sz6, sz7, sz8, sz9, sz10, sz12, sz1b, sz2b, sz3b, sz4b, Option.bind_some, Bool.not_true, Bool.not_false, decide_eq_true_eq, beq_iff_eq, Bool.not_eq_true', beq_eq_false_iff_ne, ne_eq, kII, kIB, kIT, kIS, kIL, kBI, kBB, kBT, kBS, kBL, kSI, kSB, kST, kSS, kSL, kNI, kNB, kNT, kNS, kNL, kTI, kTB, kTT, kTS, kTL, kLI, kLB, kLT, kLS, kLL]
    exact h _ _
  | false =>
    simp only [blaw_s10, hs7, sSeq, sSet, sIf, sRet, sDrop, sNil, sRaise, sAsg, sPar2, sPar3, gSet, gTupD, gsCons, gsNil, gSub, wVar, wC, wOp, wB, wTup, wFz, wSt, fLst, fCat, zNil, zCons, wAnd, wOr, wNot, wIf, wTst, uAnd, uOr, uNot, tstOp, wLeLe, uLtLt, wNeg, oSub, oMul, oDiv, oMod, oPow, oLt, oLe, oGt, oGe, oCmp, oAbs, wIsi, wCall, wIsN, uIsN, startD, lenD, viewL, List.map_cons, List.map_nil, List.length_cons, List.length_nil, List.replicate, List.cons_append, List.nil_append, List.getElem?_cons_zero, List.getElem?_cons_succ, List.set_cons_zero, List.set_cons_succ, Nat.add_sub_cancel, Nat.sub_self, Nat.zero_add, Nat.reduceAdd, Nat.reduceSub, if_true, if_false, true_and, and_true, Bool.false_eq_true, reduceIte, ↓reduceIte, min_ii, max_ii, add_ii, add_tt, add_ss, add_ll, len_tup, len_lst, len_scr, len_str, int_int, int_bl, tup_lst, tup_tup, see_non, see_bl, see_int, see_str, see_tup, see_lst, see_dic, see_adr, see_scr, see_kup, ty_non, ty_bl, ty_int, ty_str, ty_tup, ty_lst, ty_kup, reduceCtorEq, nn_non, nn_bl, nn_int, nn_str, nn_tup, nn_lst, nn_dic, wFrz, wSl, oSome, oNone, ixT0, ixT1, ixT2, ixT3, ixL0, ixL1, ixL2, ixL3, eqII, neII, eqBB, neBB, eqPP, nePP, sz0, sz1, sz2, sz3, sz4, sz5, sz6, sz7, sz8, sz9, sz10, sz12, sz1b, sz2b, sz3b, sz4b, Option.bind_some, Bool.not_true, Bool.not_false, decide_eq_true_eq, beq_iff_eq, Bool.not_eq_true', beq_eq_false_iff_ne, ne_eq, kII, kIB, kIT, kIS, kIL, kBI, kBB, kBT, kBS, kBL, kSI, kSB, kST, kSS, kSL, kNI, kNB, kNT, kNS, kNL, kTI, kTB, kTT, kTS, kTL, kLI, kLB, kLT, kLS, kLL]
    exact seven (some (.bl false)) e fun y14 => h _ _
theorem turns26 {x0 x1 x2 x3 x5 x6 x7 x8 x9 x10 x11 x13 x15 x16 x17 : Option L3.D} : ∀ (items : List L3.D) (y4 y12 y14 : Option L3.D), (∀ d ∈ items, d.pure = true) → (∀ z4 z12 z14, D.nx [x0, x1, x2, x3, z4, x5, x6, x7, x8, x9, x10, x11, z12, x13, z14, x15, x16, x17] M) →
    sTurns (gSet 4) (sSeq blaw_s8 (sSeq blaw_s9 (blaw_s10 af))) items [x0, x1, x2, x3, y4, x5, x6, x7, x8, x9, x10, x11, y12, x13, y14, x15, x16, x17] M D E
  | [], y4, y12, y14, hi, h => turns_nil (h y4 y12 y14)
  | d :: items, y4, y12, y14, hi, h => by
    refine turns_cons ?_
    refine t26_ok (hi d List.mem_cons_self) fun z12 z14 => ?_
    exact turns26 items _ _ _ (fun x hx => hi x (List.mem_cons_of_mem _ hx)) h
theorem w26_ok {x0 x1 x4 x5 x6 x7 x8 x9 x10 x11 x12 x13 x14 x15 x16 x17 : Option L3.D} {ds : List L3.D} (c : Crank M i) (hd : Things 68 ds) (h : ∀ z4 z12 z14 M', Turned i M M' → D.nx [x0, x1, some (.ref i), some (.lst ds), z4, x5, x6, x7, x8, x9, x10, x11, z12, x13, z14, x15, x16, x17] M') : blaw_s26 af [x0, x1, some (.ref i), some (.lst ds), x4, x5, x6, x7, x8, x9, x10, x11, x12, x13, x14, x15, x16, x17] M D E := by
  have key := fun M1 items hi h => turns26 (E := E) (D := D) (M := M1) (af := af) (x0 := x0) (x1 := x1) (x2 := some (.ref i)) (x3 := some (.lst ds)) (x5 := x5) (x6 := x6) (x7 := x7) (x8 := x8) (x9 := x9) (x10 := x10) (x11 := x11) (x13 := x13) (x15 := x15) (x16 := x16) (x17 := x17) items x4 x12 x14 hi h
  simp only [blaw_s26, sFor]
  generalize (sSeq blaw_s8 (sSeq blaw_s9 (blaw_s10 af))) = body at key ⊢
  simp only [iSeq, sSeq, sSet, sIf, sRet, sDrop, sNil, sRaise, sAsg, sPar2, sPar3, gSet, gTupD, gsCons, gsNil, gSub, wVar, wC, wOp, wB, wTup, wFz, wSt, fLst, fCat, zNil, zCons, wAnd, wOr, wNot, wIf, wTst, uAnd, uOr, uNot, tstOp, wLeLe, uLtLt, wNeg, oSub, oMul, oDiv, oMod, oPow, oLt, oLe, oGt, oGe, oCmp, oAbs, wIsi, wCall, wIsN, uIsN, startD, lenD, viewL, List.map_cons, List.map_nil, List.length_cons, List.length_nil, List.replicate, List.cons_append, List.nil_append, List.getElem?_cons_zero, List.getElem?_cons_succ, List.set_cons_zero, List.set_cons_succ, Nat.add_sub_cancel, Nat.sub_self, Nat.zero_add, Nat.reduceAdd, Nat.reduceSub, if_true, if_false, true_and, and_true, Bool.false_eq_true, reduceIte, ↓reduceIte, min_ii, max_ii, add_ii, add_tt, add_ss, add_ll, len_tup, len_lst, len_scr, len_str, int_int, int_bl, tup_lst, tup_tup, see_non, see_bl, see_int, see_str, see_tup, see_lst, see_dic, see_adr, see_scr, see_kup, ty_non, ty_bl, ty_int, ty_str, ty_tup, ty_lst, ty_kup, reduceCtorEq, nn_non, nn_bl, nn_int, nn_str, nn_tup, nn_lst, nn_dic, wFrz, wSl, oSome, oNone, ixT0, ixT1, ixT2, ixT3, ixL0, ixL1, ixL2, ixL3, eqII, neII, eqBB, neBB, eqPP, nePP, sz0, sz1, sz2, sz3, sz4, sz5, sz6, sz7, sz8, sz9, sz10, sz12, sz1b, sz2b, sz3b, sz4b, Option.bind_some, Bool.not_true, Bool.not_false, decide_eq_true_eq, beq_iff_eq, Bool.not_eq_true', beq_eq_false_iff_ne, ne_eq, kII, kIB, kIT, kIS, kIL, kBI, kBB, kBT, kBS, kBL, kSI, kSB, kST, kSS, kSL, kNI, kNB, kNT, kNS, kNL, kTI, kTB, kTT, kTS, kTL, kLI, kLB, kLT, kLS, kLL]
  refine stuff_ok (deep := 2) (by decide) c fun a M1 ha t1 => ?_
  try simp only [sSeq, sSet, sIf, sRet, sDrop, sNil, sRaise, sAsg, sPar2, sPar3, gSet, gTupD, gsCons, gsNil, gSub, wVar, wC, wOp, wB, wTup, wFz, wSt, fLst, fCat, zNil, zCons, wAnd, wOr, wNot, wIf, wTst, uAnd, uOr, uNot, tstOp, wLeLe, uLtLt, wNeg, oSub, oMul, oDiv, oMod, oPow, oLt, oLe, oGt, oGe, oCmp, oAbs, wIsi, wCall, wIsN, uIsN, startD, lenD, viewL, List.map_cons, List.map_nil, List.length_cons, List.length_nil, List.replicate, List.cons_append, List.nil_append, List.getElem?_cons_zero, List.getElem?_cons_succ, List.set_cons_zero, List.set_cons_succ, Nat.add_sub_cancel, Nat.sub_self, Nat.zero_add, Nat.reduceAdd, Nat.reduceSub, if_true, if_false, true_and, and_true, Bool.false_eq_true, reduceIte, ↓reduceIte, min_ii, max_ii, add_ii, add_tt, add_ss, add_ll, len_tup, len_lst, len_scr, len_str, int_int, int_bl, tup_lst, tup_tup, see_non, see_bl, see_int, see_str, see_tup, see_lst, see_dic, see_adr, see_scr, see_kup, ty_non, ty_bl, ty_int, ty_str, ty_tup, ty_lst, ty_kup, reduceCtorEq, nn_non, nn_bl, nn_int, nn_str, nn_tup, nn_lst, nn_dic, wFrz, wSl, oSome, oNone, ixT0, ixT1, ixT2, ixT3, ixL0, ixL1, ixL2, ixL3, eqII, neII, eqBB, neBB, eqPP, nePP, sz0, sz1, sz2, sz3, sz4, sz5, sz6, sz7, sz8, sz9, sz10, sz12, sz1b, sz2b, sz3b, sz4b, Option.bind_some, Bool.not_true, Bool.not_false, decide_eq_true_eq, beq_iff_eq, Bool.not_eq_true', beq_eq_false_iff_ne, ne_eq, kII, kIB, kIT, kIS, kIL, kBI, kBB, kBT, kBS, kBL, kSI, kSB, kST, kSS, kSL, kNI, kNB, kNT, kNS, kNL, kTI, kTB, kTT, kTS, kTL, kLI, kLB, kLT, kLS, kLL]
  refine stuff_ok (deep := 3) (by decide) t1.1 fun b M2 hb t2 => ?_
  try simp only [sSeq, sSet, sIf, sRet, sDrop, sNil, sRaise, sAsg, sPar2, sPar3, gSet, gTupD, gsCons, gsNil, gSub, wVar, wC, wOp, wB, wTup, wFz, wSt, fLst, fCat, zNil, zCons, wAnd, wOr, wNot, wIf, wTst, uAnd, uOr, uNot, tstOp, wLeLe, uLtLt, wNeg, oSub, oMul, oDiv, oMod, oPow, oLt, oLe, oGt, oGe, oCmp, oAbs, wIsi, wCall, wIsN, uIsN, startD, lenD, viewL, List.map_cons, List.map_nil, List.length_cons, List.length_nil, List.replicate, List.cons_append, List.nil_append, List.getElem?_cons_zero, List.getElem?_cons_succ, List.set_cons_zero, List.set_cons_succ, Nat.add_sub_cancel, Nat.sub_self, Nat.zero_add, Nat.reduceAdd, Nat.reduceSub, if_true, if_false, true_and, and_true, Bool.false_eq_true, reduceIte, ↓reduceIte, min_ii, max_ii, add_ii, add_tt, add_ss, add_ll, len_tup, len_lst, len_scr, len_str, int_int, int_bl, tup_lst, tup_tup, see_non, see_bl, see_int, see_str, see_tup, see_lst, see_dic, see_adr, see_scr, see_kup, ty_non, ty_bl, ty_int, ty_str, ty_tup, ty_lst, ty_kup, reduceCtorEq, nn_non, nn_bl, nn_int, nn_str, nn_tup, nn_lst, nn_dic, wFrz, wSl, oSome, oNone, ixT0, ixT1, ixT2, ixT3, ixL0, ixL1, ixL2, ixL3, eqII, neII, eqBB, neBB, eqPP, nePP, sz0, sz1, sz2, sz3, sz4, sz5, sz6, sz7, sz8, sz9, sz10, sz12, sz1b, sz2b, sz3b, sz4b, Option.bind_some, Bool.not_true, Bool.not_false, decide_eq_true_eq, beq_iff_eq, Bool.not_eq_true', beq_eq_false_iff_ne, ne_eq, kII, kIB, kIT, kIS, kIL, kBI, kBB, kBT, kBS, kBL, kSI, kSB, kST, kSS, kSL, kNI, kNB, kNT, kNS, kNL, kTI, kTB, kTT, kTS, kTL, kLI, kLB, kLT, kLS, kLL]
  refine ⟨sz_le (by have := hd.1; omega), ?_⟩
  refine key M2 _ (fun d hd' => ?_) fun z4 z12 z14 => h z4 z12 z14 M2 (t1.trans t2)
  rcases List.mem_append.mp hd' with z | z
  · exact th_pure d (hd.2 d z)
  · simp only [List.mem_cons, List.not_mem_nil, or_false] at z
    rcases z with rfl | rfl
    · exact th_pure _ ha
    · exact th_pure _ hb
end
end L3.K01
set_option maxRecDepth 100000
set_option maxHeartbeats 1000000
/-! T01: the law's cells, to the end. -/
namespace L3.K01
open PySem PySem.Spec PyProof.Rows L2 L3 Gl
mutual
theorem eqD_self : ∀ d : D, d.pure = true → eqD d d = true
  | .non, _ => rfl
  | .bl b, _ => by cases b <;> rfl
  | .int i, _ => by show (i == i) = true; simp
  | .str x, _ => by show (x == x) = true; simp
  | .tup ds, h => eqDs_self ds h
  | .lst ds, h => eqDs_self ds h
  | .dic _, h => nomatch h
  | .ref _, h => nomatch h
  | .adr _, h => nomatch h
  | .scr _, h => nomatch h
  | .kup _, h => nomatch h
theorem eqDs_self : ∀ ds : List D, D.pures ds = true → eqDs ds ds = true
  | [], _ => rfl
  | d :: ds, h => by
    have h : (d.pure && D.pures ds) = true := h
    rw [Bool.and_eq_true] at h
    show (eqD d d && eqDs ds ds) = true
    rw [eqD_self d h.1, eqDs_self ds h.2]; rfl
end
section
variable {M : Mem} {D : EndsD} {E : ExK} {Q : KD} {i : Nat} {l : Ring} {v u : L3.D} {af : Str → Addr}
theorem ok_tri (k f : Int) (b : Bool) : (triL k f b).ok 58 = true := rfl
theorem ok_slit (l : Ring) (k : Int) : (slitD l k).ok 59 = true := by
  unfold slitD
  split
  · rfl
  · split <;> rfl
theorem ok_toldS (l : Ring) (k : Int) : (L3.D.tup [.str "told", slitD l k]).ok 60 = true := by
  have h1 : (L3.D.str "told").ok 59 = true := by decide +kernel
  show ((L3.D.str "told").ok 59 && ((slitD l k).ok 59 && true)) = true
  rw [h1, ok_slit]; rfl
theorem t14_ok {x0 x1 x2 x3 x4 x5 x7 x8 x9 x10 x11 x12 x14 x17 : Option L3.D} {k : Int} (hl : l.ok) (hk : -100 ≤ k ∧ k ≤ 100) (h : D.nx [x0, x1, x2, x3, x4, x5, some (.int l.r), x7, x8, x9, x10, x11, x12, some (.int l.f), x14, some (.bl l.t), some (.int k), some l.d] M) : (sSeq blaw_s12 blaw_s13) [x0, x1, x2, x3, x4, x5, some (.int l.r), x7, x8, x9, x10, x11, x12, some (.int l.f), x14, some (.bl l.t), some (.int k), x17] M D E := by
  have k1 := fun {Q : KD} {E : ExK} h1 h2 => slit_ok (M := M) (Q := Q) (E := E) hl hk h1 h2
  have k2 := fun {Q : KD} {E : ExK} h1 => parts_ok (M := M) (Q := Q) (E := E) hl hk h1
  have hd : l.d = .tup [.int l.r, .int l.f, .bl l.t] := rfl
  rw [hd] at k1 k2 h
  simp only [blaw_s12, blaw_s13, blaw_s11, wCaught, sSeq, sSet, sIf, sRet, sDrop, sNil, sRaise, sAsg, sPar2, sPar3, gSet, gTupD, gsCons, gsNil, gSub, wVar, wC, wOp, wB, wTup, wFz, wSt, fLst, fCat, zNil, zCons, wAnd, wOr, wNot, wIf, wTst, uAnd, uOr, uNot, tstOp, wLeLe, uLtLt, wNeg, oSub, oMul, oDiv, oMod, oPow, oLt, oLe, oGt, oGe, oCmp, oAbs, wIsi, wCall, wIsN, uIsN, startD, lenD, viewL, List.map_cons, List.map_nil, List.length_cons, List.length_nil, List.replicate, List.cons_append, List.nil_append, List.getElem?_cons_zero, List.getElem?_cons_succ, List.set_cons_zero, List.set_cons_succ, Nat.add_sub_cancel, Nat.sub_self, Nat.zero_add, Nat.reduceAdd, Nat.reduceSub, if_true, if_false, true_and, and_true, Bool.false_eq_true, reduceIte, ↓reduceIte, min_ii, max_ii, add_ii, add_tt, add_ss, add_ll, len_tup, len_lst, len_scr, len_str, int_int, int_bl, tup_lst, tup_tup, see_non, see_bl, see_int, see_str, see_tup, see_lst, see_dic, see_adr, see_scr, see_kup, ty_non, ty_bl, ty_int, ty_str, ty_tup, ty_lst, ty_kup, reduceCtorEq, nn_non, nn_bl, nn_int, nn_str, nn_tup, nn_lst, nn_dic, wFrz, wSl, oSome, oNone, ixT0, ixT1, ixT2, ixT3, ixL0, ixL1, ixL2, ixL3, eqII, neII, eqBB, neBB, eqPP, nePP, sz0, sz1, sz2, sz3, sz4, sz5, sz6, sz7, sz8, sz9, sz10, sz12, sz1b, sz2b, sz3b, sz4b, Option.bind_some, Bool.not_true, Bool.not_false, decide_eq_true_eq, beq_iff_eq, Bool.not_eq_true', beq_eq_false_iff_ne, ne_eq, kII, kIB, kIT, kIS, kIL, kBI, kBB, kBT, kBS, kBL, kSI, kSB, kST, kSS, kSL, kNI, kNB, kNT, kNS, kNL, kTI, kTB, kTT, kTS, kTL, kLI, kLB, kLT, kLS, kLL]
  refine k1 (fun e => ?_) (fun e => ?_)
  · try simp only [sSeq, sSet, sIf, sRet, sDrop, sNil, sRaise, sAsg, sPar2, sPar3, gSet, gTupD, gsCons, gsNil, gSub, wVar, wC, wOp, wB, wTup, wFz, wSt, fLst, fCat, zNil, zCons, wAnd, wOr, wNot, wIf, wTst, uAnd, uOr, uNot, tstOp, wLeLe, uLtLt, wNeg, oSub, oMul, oDiv, oMod, oPow, oLt, oLe, oGt, oGe, oCmp, oAbs, wIsi, wCall, wIsN, uIsN, startD, lenD, viewL, List.map_cons, List.map_nil, List.length_cons, List.length_nil, List.replicate, List.cons_append, List.nil_append, List.getElem?_cons_zero, List.getElem?_cons_succ, List.set_cons_zero, List.set_cons_succ, Nat.add_sub_cancel, Nat.sub_self, Nat.zero_add, Nat.reduceAdd, Nat.reduceSub, if_true, if_false, true_and, and_true, Bool.false_eq_true, reduceIte, ↓reduceIte, min_ii, max_ii, add_ii, add_tt, add_ss, add_ll, len_tup, len_lst, len_scr, len_str, int_int, int_bl, tup_lst, tup_tup, see_non, see_bl, see_int, see_str, see_tup, see_lst, see_dic, see_adr, see_scr, see_kup, ty_non, ty_bl, ty_int, ty_str, ty_tup, ty_lst, ty_kup, reduceCtorEq, nn_non, nn_bl, nn_int, nn_str, nn_tup, nn_lst, nn_dic, wFrz, wSl, oSome, oNone, ixT0, ixT1, ixT2, ixT3, ixL0, ixL1, ixL2, ixL3, eqII, neII, eqBB, neBB, eqPP, nePP, sz0, sz1, sz2, sz3, sz4, sz5, sz6, sz7, sz8, sz9, sz10, sz12, sz1b, sz2b, sz3b, sz4b, Option.bind_some, Bool.not_true, Bool.not_false, decide_eq_true_eq, beq_iff_eq, Bool.not_eq_true', beq_eq_false_iff_ne, ne_eq, kII, kIB, kIT, kIS, kIL, kBI, kBB, kBT, kBS, kBL, kSI, kSB, kST, kSS, kSL, kNI, kNB, kNT, kNS, kNL, kTI, kTB, kTT, kTS, kTL, kLI, kLB, kLT, kLS, kLL]
    refine k2 ?_
    rw [e, if_neg (by decide)]
    refine eq_pure (ok_toldS l k) (ok_toldS l k) ?_
    rw [eqD_self _ (L3.D.ok_pure 60 _ (ok_toldS l k)).1]
    simp only [sSeq, sSet, sIf, sRet, sDrop, sNil, sRaise, sAsg, sPar2, sPar3, gSet, gTupD, gsCons, gsNil, gSub, wVar, wC, wOp, wB, wTup, wFz, wSt, fLst, fCat, zNil, zCons, wAnd, wOr, wNot, wIf, wTst, uAnd, uOr, uNot, tstOp, wLeLe, uLtLt, wNeg, oSub, oMul, oDiv, oMod, oPow, oLt, oLe, oGt, oGe, oCmp, oAbs, wIsi, wCall, wIsN, uIsN, startD, lenD, viewL, List.map_cons, List.map_nil, List.length_cons, List.length_nil, List.replicate, List.cons_append, List.nil_append, List.getElem?_cons_zero, List.getElem?_cons_succ, List.set_cons_zero, List.set_cons_succ, Nat.add_sub_cancel, Nat.sub_self, Nat.zero_add, Nat.reduceAdd, Nat.reduceSub, if_true, if_false, true_and, and_true, Bool.false_eq_true, reduceIte, ↓reduceIte, min_ii, max_ii, add_ii, add_tt, add_ss, add_ll, len_tup, len_lst, len_scr, len_str, int_int, int_bl, tup_lst, tup_tup, see_non, see_bl, see_int, see_str, see_tup, see_lst, see_dic, see_adr, see_scr, see_kup, ty_non, ty_bl, ty_int, ty_str, ty_tup, ty_lst, ty_kup, reduceCtorEq, nn_non, nn_bl, nn_int, nn_str, nn_tup, nn_lst, nn_dic, wFrz, wSl, oSome, oNone, ixT0, ixT1, ixT2, ixT3, ixL0, ixL1, ixL2, ixL3, eqII, neII, eqBB, neBB, eqPP, nePP, sz0, sz1, sz2, sz3, sz4, sz5, sz6, sz7, sz8, sz9, sz10, sz12, sz1b, sz2b, sz3b, sz4b, Option.bind_some, Bool.not_true, Bool.not_false, decide_eq_true_eq, beq_iff_eq, Bool.not_eq_true', beq_eq_false_iff_ne, ne_eq, kII, kIB, kIT, kIS, kIL, kBI, kBB, kBT, kBS, kBL, kSI, kSB, kST, kSS, kSL, kNI, kNB, kNT, kNS, kNL, kTI, kTB, kTT, kTS, kTL, kLI, kLB, kLT, kLS, kLL]
    exact h
  · refine ⟨good_num_x, ?_⟩
    refine k2 ?_
    rw [e, if_pos rfl]
    refine bad_num_t ?_
    simp only [sSeq, sSet, sIf, sRet, sDrop, sNil, sRaise, sAsg, sPar2, sPar3, gSet, gTupD, gsCons, gsNil, gSub, wVar, wC, wOp, wB, wTup, wFz, wSt, fLst, fCat, zNil, zCons, wAnd, wOr, wNot, wIf, wTst, uAnd, uOr, uNot, tstOp, wLeLe, uLtLt, wNeg, oSub, oMul, oDiv, oMod, oPow, oLt, oLe, oGt, oGe, oCmp, oAbs, wIsi, wCall, wIsN, uIsN, startD, lenD, viewL, List.map_cons, List.map_nil, List.length_cons, List.length_nil, List.replicate, List.cons_append, List.nil_append, List.getElem?_cons_zero, List.getElem?_cons_succ, List.set_cons_zero, List.set_cons_succ, Nat.add_sub_cancel, Nat.sub_self, Nat.zero_add, Nat.reduceAdd, Nat.reduceSub, if_true, if_false, true_and, and_true, Bool.false_eq_true, reduceIte, ↓reduceIte, min_ii, max_ii, add_ii, add_tt, add_ss, add_ll, len_tup, len_lst, len_scr, len_str, int_int, int_bl, tup_lst, tup_tup, see_non, see_bl, see_int, see_str, see_tup, see_lst, see_dic, see_adr, see_scr, see_kup, ty_non, ty_bl, ty_int, ty_str, ty_tup, ty_lst, ty_kup, reduceCtorEq, nn_non, nn_bl, nn_int, nn_str, nn_tup, nn_lst, nn_dic, wFrz, wSl, oSome, oNone, ixT0, ixT1, ixT2, ixT3, ixL0, ixL1, ixL2, ixL3, eqII, neII, eqBB, neBB, eqPP, nePP, sz0, sz1, sz2, sz3, sz4, sz5, sz6, sz7, sz8, sz9, sz10, sz12, sz1b, sz2b, sz3b, sz4b, Option.bind_some, Bool.not_true, Bool.not_false, decide_eq_true_eq, beq_iff_eq, Bool.not_eq_true', beq_eq_false_iff_ne, ne_eq, kII, kIB, kIT, kIS, kIL, kBI, kBB, kBT, kBS, kBL, kSI, kSB, kST, kSS, kSL, kNI, kNB, kNT, kNS, kNL, kTI, kTB, kTT, kTS, kTL, kLI, kLB, kLT, kLS, kLL]
    exact h
theorem turns14 {x0 x1 x2 x3 x4 x5 x7 x8 x9 x10 x11 x12 x14 : Option L3.D} (hl : l.ok) : ∀ (items : List L3.D) (y16 y17 : Option L3.D), (∀ d ∈ items, ∃ k : Int, d = .int k ∧ -100 ≤ k ∧ k ≤ 100) → (∀ z16 z17, D.nx [x0, x1, x2, x3, x4, x5, some (.int l.r), x7, x8, x9, x10, x11, x12, some (.int l.f), x14, some (.bl l.t), z16, z17] M) →
    sTurns (gSet 16) (sSeq blaw_s12 blaw_s13) items [x0, x1, x2, x3, x4, x5, some (.int l.r), x7, x8, x9, x10, x11, x12, some (.int l.f), x14, some (.bl l.t), y16, y17] M D E
  | [], y16, y17, hi, h => turns_nil (h y16 y17)
  | d :: items, y16, y17, hi, h => by
    obtain ⟨k, rfl, hk⟩ := hi d List.mem_cons_self
    refine turns_cons ?_
    refine t14_ok hl hk ?_
    exact turns14 hl items _ _ (fun x hx => hi x (List.mem_cons_of_mem _ hx)) h
theorem w14_ok {x0 x1 x2 x3 x4 x5 x7 x8 x9 x10 x11 x12 x14 x16 x17 : Option L3.D} (hl : l.ok) (h : ∀ z16 z17, D.nx [x0, x1, x2, x3, x4, x5, some (.int l.r), x7, x8, x9, x10, x11, x12, some (.int l.f), x14, some (.bl l.t), z16, z17] M) : blaw_s14 [x0, x1, x2, x3, x4, x5, some (.int l.r), x7, x8, x9, x10, x11, x12, some (.int l.f), x14, some (.bl l.t), x16, x17] M D E := by
  have key := turns14 (E := E) (D := D) (M := M) (x0 := x0) (x1 := x1) (x2 := x2) (x3 := x3) (x4 := x4) (x5 := x5) (x7 := x7) (x8 := x8) (x9 := x9) (x10 := x10) (x11 := x11) (x12 := x12) (x14 := x14) hl (rangeD (-1) (Int.toNat (6 - (-1)))) x16 x17 (fun d hd => by
    obtain ⟨a, ha⟩ := List.getElem?_of_mem hd
    obtain ⟨h1, e⟩ := rangeD_at ha
    exact ⟨_, e, by omega, by have : Int.toNat (6 - (-1)) = 7 := by decide
                              omega⟩) h
  simp only [blaw_s14, sFor]
  generalize (sSeq blaw_s12 blaw_s13) = body at key ⊢
  simp only [iRange2, sSeq, sSet, sIf, sRet, sDrop, sNil, sRaise, sAsg, sPar2, sPar3, gSet, gTupD, gsCons, gsNil, gSub, wVar, wC, wOp, wB, wTup, wFz, wSt, fLst, fCat, zNil, zCons, wAnd, wOr, wNot, wIf, wTst, uAnd, uOr, uNot, tstOp, wLeLe, uLtLt, wNeg, oSub, oMul, oDiv, oMod, oPow, oLt, oLe, oGt, oGe, oCmp, oAbs, wIsi, wCall, wIsN, uIsN, startD, lenD, viewL, List.map_cons, List.map_nil, List.length_cons, List.length_nil, List.replicate, List.cons_append, List.nil_append, List.getElem?_cons_zero, List.getElem?_cons_succ, List.set_cons_zero, List.set_cons_succ, Nat.add_sub_cancel, Nat.sub_self, Nat.zero_add, Nat.reduceAdd, Nat.reduceSub, if_true, if_false, true_and, and_true, Bool.false_eq_true, reduceIte, ↓reduceIte, min_ii, max_ii, add_ii, add_tt, add_ss, add_ll, len_tup, len_lst, len_scr, len_str, int_int, int_bl, tup_lst, tup_tup, see_non, see_bl, see_int, see_str, see_tup, see_lst, see_dic, see_adr, see_scr, see_kup, ty_non, ty_bl, ty_int, ty_str, ty_tup, ty_lst, ty_kup, reduceCtorEq, nn_non, nn_bl, nn_int, nn_str, nn_tup, nn_lst, nn_dic, wFrz, wSl, oSome, oNone, ixT0, ixT1, ixT2, ixT3, ixL0, ixL1, ixL2, ixL3, eqII, neII, eqBB, neBB, eqPP, nePP, sz0, sz1, sz2, sz3, sz4, sz5, sz6, sz7, sz8, sz9, sz10, sz12, sz1b, sz2b, sz3b, sz4b, Option.bind_some, Bool.not_true, Bool.not_false, decide_eq_true_eq, beq_iff_eq, Bool.not_eq_true', beq_eq_false_iff_ne, ne_eq, kII, kIB, kIT, kIS, kIL, kBI, kBB, kBT, kBS, kBL, kSI, kSB, kST, kSS, kSL, kNI, kNB, kNT, kNS, kNL, kTI, kTB, kTT, kTS, kTL, kLI, kLB, kLT, kLS, kLL]
  exact ⟨⟨by decide, by decide, by decide, by decide⟩, key⟩
theorem w15_ok {x0 x1 x2 x3 x4 x5 x7 x8 x9 x10 x11 x12 x14 x15 x16 x17 : Option L3.D} {r f : Nat} (hl : ∀ t, Ring.ok ⟨r, f, t⟩) (h : ∀ z15 z16 z17, D.nx [x0, x1, x2, x3, x4, x5, some (.int r), x7, x8, x9, x10, x11, x12, some (.int f), x14, z15, z16, z17] M) : blaw_s15 [x0, x1, x2, x3, x4, x5, some (.int r), x7, x8, x9, x10, x11, x12, some (.int f), x14, x15, x16, x17] M D E := by
  have one := fun {D : EndsD} (t : Bool) (x16 x17 : Option L3.D) h => w14_ok (M := M) (D := D) (E := E) (x0 := x0) (x1 := x1) (x2 := x2) (x3 := x3) (x4 := x4) (x5 := x5) (x7 := x7) (x8 := x8) (x9 := x9) (x10 := x10) (x11 := x11) (x12 := x12) (x14 := x14) (x16 := x16) (x17 := x17) (hl t) h
  simp only [blaw_s15, sFor]
  generalize blaw_s14 = body at one ⊢
  simp only [iSeq, sSeq, sSet, sIf, sRet, sDrop, sNil, sRaise, sAsg, sPar2, sPar3, gSet, gTupD, gsCons, gsNil, gSub, wVar, wC, wOp, wB, wTup, wFz, wSt, fLst, fCat, zNil, zCons, wAnd, wOr, wNot, wIf, wTst, uAnd, uOr, uNot, tstOp, wLeLe, uLtLt, wNeg, oSub, oMul, oDiv, oMod, oPow, oLt, oLe, oGt, oGe, oCmp, oAbs, wIsi, wCall, wIsN, uIsN, startD, lenD, viewL, List.map_cons, List.map_nil, List.length_cons, List.length_nil, List.replicate, List.cons_append, List.nil_append, List.getElem?_cons_zero, List.getElem?_cons_succ, List.set_cons_zero, List.set_cons_succ, Nat.add_sub_cancel, Nat.sub_self, Nat.zero_add, Nat.reduceAdd, Nat.reduceSub, if_true, if_false, true_and, and_true, Bool.false_eq_true, reduceIte, ↓reduceIte, min_ii, max_ii, add_ii, add_tt, add_ss, add_ll, len_tup, len_lst, len_scr, len_str, int_int, int_bl, tup_lst, tup_tup, see_non, see_bl, see_int, see_str, see_tup, see_lst, see_dic, see_adr, see_scr, see_kup, ty_non, ty_bl, ty_int, ty_str, ty_tup, ty_lst, ty_kup, reduceCtorEq, nn_non, nn_bl, nn_int, nn_str, nn_tup, nn_lst, nn_dic, wFrz, wSl, oSome, oNone, ixT0, ixT1, ixT2, ixT3, ixL0, ixL1, ixL2, ixL3, eqII, neII, eqBB, neBB, eqPP, nePP, sz0, sz1, sz2, sz3, sz4, sz5, sz6, sz7, sz8, sz9, sz10, sz12, sz1b, sz2b, sz3b, sz4b, Option.bind_some, Bool.not_true, Bool.not_false, decide_eq_true_eq, beq_iff_eq, Bool.not_eq_true', beq_eq_false_iff_ne, ne_eq, kII, kIB, kIT, kIS, kIL, kBI, kBB, kBT, kBS, kBL, kSI, kSB, kST, kSS, kSL, kNI, kNB, kNT, kNS, kNL, kTI, kTB, kTT, kTS, kTL, kLI, kLB, kLT, kLS, kLL]
  refine turns_cons (one false _ _ fun z16 z17 => ?_)
  dsimp only
  refine turns_cons (one true _ _ fun z16 z17 => ?_)
  dsimp only
  exact turns_nil (h _ _ _)
theorem w16_ok {x0 x1 x2 x3 x4 x5 x7 x8 x9 x10 x11 x12 x13 x14 x15 x16 x17 : Option L3.D} {r : Nat} (hr : 1 ≤ r ∧ r ≤ 4) (h : ∀ z13 z15 z16 z17, D.nx [x0, x1, x2, x3, x4, x5, some (.int r), x7, x8, x9, x10, x11, x12, z13, x14, z15, z16, z17] M) : blaw_s16 [x0, x1, x2, x3, x4, x5, some (.int r), x7, x8, x9, x10, x11, x12, x13, x14, x15, x16, x17] M D E := by
  have one := fun {D : EndsD} (f : Nat) (x15 x16 x17 : Option L3.D) (hf : f = 1 ∨ f = 2 ∨ f = 4) h => w15_ok (M := M) (D := D) (E := E) (x0 := x0) (x1 := x1) (x2 := x2) (x3 := x3) (x4 := x4) (x5 := x5) (x7 := x7) (x8 := x8) (x9 := x9) (x10 := x10) (x11 := x11) (x12 := x12) (x14 := x14) (x15 := x15) (x16 := x16) (x17 := x17) (r := r) (f := f) (fun _ => ⟨hr.1, hr.2, hf⟩) h
  simp only [blaw_s16, sFor]
  generalize blaw_s15 = body at one ⊢
  simp only [iSeq, sSeq, sSet, sIf, sRet, sDrop, sNil, sRaise, sAsg, sPar2, sPar3, gSet, gTupD, gsCons, gsNil, gSub, wVar, wC, wOp, wB, wTup, wFz, wSt, fLst, fCat, zNil, zCons, wAnd, wOr, wNot, wIf, wTst, uAnd, uOr, uNot, tstOp, wLeLe, uLtLt, wNeg, oSub, oMul, oDiv, oMod, oPow, oLt, oLe, oGt, oGe, oCmp, oAbs, wIsi, wCall, wIsN, uIsN, startD, lenD, viewL, List.map_cons, List.map_nil, List.length_cons, List.length_nil, List.replicate, List.cons_append, List.nil_append, List.getElem?_cons_zero, List.getElem?_cons_succ, List.set_cons_zero, List.set_cons_succ, Nat.add_sub_cancel, Nat.sub_self, Nat.zero_add, Nat.reduceAdd, Nat.reduceSub, if_true, if_false, true_and, and_true, Bool.false_eq_true, reduceIte, ↓reduceIte, min_ii, max_ii, add_ii, add_tt, add_ss, add_ll, len_tup, len_lst, len_scr, len_str, int_int, int_bl, tup_lst, tup_tup, see_non, see_bl, see_int, see_str, see_tup, see_lst, see_dic, see_adr, see_scr, see_kup, ty_non, ty_bl, ty_int, ty_str, ty_tup, ty_lst, ty_kup, reduceCtorEq, nn_non, nn_bl, nn_int, nn_str, nn_tup, nn_lst, nn_dic, wFrz, wSl, oSome, oNone, ixT0, ixT1, ixT2, ixT3, ixL0, ixL1, ixL2, ixL3, eqII, neII, eqBB, neBB, eqPP, nePP, sz0, sz1, sz2, sz3, sz4, sz5, sz6, sz7, sz8, sz9, sz10, sz12, sz1b, sz2b, sz3b, sz4b, Option.bind_some, Bool.not_true, Bool.not_false, decide_eq_true_eq, beq_iff_eq, Bool.not_eq_true', beq_eq_false_iff_ne, ne_eq, kII, kIB, kIT, kIS, kIL, kBI, kBB, kBT, kBS, kBL, kSI, kSB, kST, kSS, kSL, kNI, kNB, kNT, kNS, kNL, kTI, kTB, kTT, kTS, kTL, kLI, kLB, kLT, kLS, kLL]
  refine turns_cons (one 1 _ _ _ (.inl rfl) fun _ z16 z17 => ?_)
  dsimp only
  refine turns_cons (one 2 _ _ _ (.inr (.inl rfl)) fun _ z16 z17 => ?_)
  dsimp only
  refine turns_cons (one 4 _ _ _ (.inr (.inr rfl)) fun _ z16 z17 => ?_)
  dsimp only
  exact turns_nil (h _ _ _ _)
theorem w27_ok {x0 x1 x2 x3 x4 x5 x6 x7 x8 x9 x10 x11 x12 x13 x14 x15 x16 x17 : Option L3.D} (h : ∀ z6 z13 z15 z16 z17, D.nx [x0, x1, x2, x3, x4, x5, z6, x7, x8, x9, x10, x11, x12, z13, x14, z15, z16, z17] M) : blaw_s27 [x0, x1, x2, x3, x4, x5, x6, x7, x8, x9, x10, x11, x12, x13, x14, x15, x16, x17] M D E := by
  have one := fun {D : EndsD} (r : Nat) (x13 x15 x16 x17 : Option L3.D) (hr : 1 ≤ r ∧ r ≤ 4) h => w16_ok (M := M) (D := D) (E := E) (x0 := x0) (x1 := x1) (x2 := x2) (x3 := x3) (x4 := x4) (x5 := x5) (x7 := x7) (x8 := x8) (x9 := x9) (x10 := x10) (x11 := x11) (x12 := x12) (x13 := x13) (x14 := x14) (x15 := x15) (x16 := x16) (x17 := x17) (r := r) hr h
  simp only [blaw_s27, sFor]
  generalize blaw_s16 = body at one ⊢
  simp only [iSeq, sSeq, sSet, sIf, sRet, sDrop, sNil, sRaise, sAsg, sPar2, sPar3, gSet, gTupD, gsCons, gsNil, gSub, wVar, wC, wOp, wB, wTup, wFz, wSt, fLst, fCat, zNil, zCons, wAnd, wOr, wNot, wIf, wTst, uAnd, uOr, uNot, tstOp, wLeLe, uLtLt, wNeg, oSub, oMul, oDiv, oMod, oPow, oLt, oLe, oGt, oGe, oCmp, oAbs, wIsi, wCall, wIsN, uIsN, startD, lenD, viewL, List.map_cons, List.map_nil, List.length_cons, List.length_nil, List.replicate, List.cons_append, List.nil_append, List.getElem?_cons_zero, List.getElem?_cons_succ, List.set_cons_zero, List.set_cons_succ, Nat.add_sub_cancel, Nat.sub_self, Nat.zero_add, Nat.reduceAdd, Nat.reduceSub, if_true, if_false, true_and, and_true, Bool.false_eq_true, reduceIte, ↓reduceIte, min_ii, max_ii, add_ii, add_tt, add_ss, add_ll, len_tup, len_lst, len_scr, len_str, int_int, int_bl, tup_lst, tup_tup, see_non, see_bl, see_int, see_str, see_tup, see_lst, see_dic, see_adr, see_scr, see_kup, ty_non, ty_bl, ty_int, ty_str, ty_tup, ty_lst, ty_kup, reduceCtorEq, nn_non, nn_bl, nn_int, nn_str, nn_tup, nn_lst, nn_dic, wFrz, wSl, oSome, oNone, ixT0, ixT1, ixT2, ixT3, ixL0, ixL1, ixL2, ixL3, eqII, neII, eqBB, neBB, eqPP, nePP, sz0, sz1, sz2, sz3, sz4, sz5, sz6, sz7, sz8, sz9, sz10, sz12, sz1b, sz2b, sz3b, sz4b, Option.bind_some, Bool.not_true, Bool.not_false, decide_eq_true_eq, beq_iff_eq, Bool.not_eq_true', beq_eq_false_iff_ne, ne_eq, kII, kIB, kIT, kIS, kIL, kBI, kBB, kBT, kBS, kBL, kSI, kSB, kST, kSS, kSL, kNI, kNB, kNT, kNS, kNL, kTI, kTB, kTT, kTS, kTL, kLI, kLB, kLT, kLS, kLL]
  refine turns_cons (one 1 _ _ _ _ (by decide) fun _ _ z16 z17 => ?_)
  dsimp only
  refine turns_cons (one 2 _ _ _ _ (by decide) fun _ _ z16 z17 => ?_)
  dsimp only
  refine turns_cons (one 3 _ _ _ _ (by decide) fun _ _ z16 z17 => ?_)
  dsimp only
  refine turns_cons (one 4 _ _ _ _ (by decide) fun _ _ z16 z17 => ?_)
  dsimp only
  exact turns_nil (h _ _ _ _ _)
/-! ### numbers that are none -/
theorem bad_length (hl : l.ok) (hv : v.pure = true) (hb : isIntD v 1 1000000000000000000000000000000 = false) (h : E ⟨"InvalidNumber", none⟩ M) : C_length [l.d, v] M Q E := by
  have lo := loop_ok hl
  simp only [Cq_length, blength, blength_s1, blength_s2, sSeq, sSet, sIf, sRet, sDrop, sNil, sRaise, sAsg, sPar2, sPar3, gSet, gTupD, gsCons, gsNil, gSub, wVar, wC, wOp, wB, wTup, wFz, wSt, fLst, fCat, zNil, zCons, wAnd, wOr, wNot, wIf, wTst, uAnd, uOr, uNot, tstOp, wLeLe, uLtLt, wNeg, oSub, oMul, oDiv, oMod, oPow, oLt, oLe, oGt, oGe, oCmp, oAbs, wIsi, wCall, wIsN, uIsN, startD, lenD, viewL, List.map_cons, List.map_nil, List.length_cons, List.length_nil, List.replicate, List.cons_append, List.nil_append, List.getElem?_cons_zero, List.getElem?_cons_succ, List.set_cons_zero, List.set_cons_succ, Nat.add_sub_cancel, Nat.sub_self, Nat.zero_add, Nat.reduceAdd, Nat.reduceSub, if_true, if_false, true_and, and_true, Bool.false_eq_true, reduceIte, ↓reduceIte, min_ii, max_ii, add_ii, add_tt, add_ss, add_ll, len_tup, len_lst, len_scr, len_str, int_int, int_bl, tup_lst, tup_tup, see_non, see_bl, see_int, see_str, see_tup, see_lst, see_dic, see_adr, see_scr, see_kup, ty_non, ty_bl, ty_int, ty_str, ty_tup, ty_lst, ty_kup, reduceCtorEq, nn_non, nn_bl, nn_int, nn_str, nn_tup, nn_lst, nn_dic, wFrz, wSl, oSome, oNone, ixT0, ixT1, ixT2, ixT3, ixL0, ixL1, ixL2, ixL3, eqII, neII, eqBB, neBB, eqPP, nePP, sz0, sz1, sz2, sz3, sz4, sz5, sz6, sz7, sz8, sz9, sz10, sz12, sz1b, sz2b, sz3b, sz4b, Option.bind_some, Bool.not_true, Bool.not_false, decide_eq_true_eq, beq_iff_eq, Bool.not_eq_true', beq_eq_false_iff_ne, ne_eq, kII, kIB, kIT, kIS, kIL, kBI, kBB, kBT, kBS, kBL, kSI, kSB, kST, kSS, kSL, kNI, kNB, kNT, kNS, kNL, kTI, kTB, kTT, kTS, kTL, kLI, kLB, kLT, kLS, kLL]
  refine need_loop_ok rfl (fun _ => ?_) (fun e => by rw [lo] at e; cases e)
  try simp only [sSeq, sSet, sIf, sRet, sDrop, sNil, sRaise, sAsg, sPar2, sPar3, gSet, gTupD, gsCons, gsNil, gSub, wVar, wC, wOp, wB, wTup, wFz, wSt, fLst, fCat, zNil, zCons, wAnd, wOr, wNot, wIf, wTst, uAnd, uOr, uNot, tstOp, wLeLe, uLtLt, wNeg, oSub, oMul, oDiv, oMod, oPow, oLt, oLe, oGt, oGe, oCmp, oAbs, wIsi, wCall, wIsN, uIsN, startD, lenD, viewL, List.map_cons, List.map_nil, List.length_cons, List.length_nil, List.replicate, List.cons_append, List.nil_append, List.getElem?_cons_zero, List.getElem?_cons_succ, List.set_cons_zero, List.set_cons_succ, Nat.add_sub_cancel, Nat.sub_self, Nat.zero_add, Nat.reduceAdd, Nat.reduceSub, if_true, if_false, true_and, and_true, Bool.false_eq_true, reduceIte, ↓reduceIte, min_ii, max_ii, add_ii, add_tt, add_ss, add_ll, len_tup, len_lst, len_scr, len_str, int_int, int_bl, tup_lst, tup_tup, see_non, see_bl, see_int, see_str, see_tup, see_lst, see_dic, see_adr, see_scr, see_kup, ty_non, ty_bl, ty_int, ty_str, ty_tup, ty_lst, ty_kup, reduceCtorEq, nn_non, nn_bl, nn_int, nn_str, nn_tup, nn_lst, nn_dic, wFrz, wSl, oSome, oNone, ixT0, ixT1, ixT2, ixT3, ixL0, ixL1, ixL2, ixL3, eqII, neII, eqBB, neBB, eqPP, nePP, sz0, sz1, sz2, sz3, sz4, sz5, sz6, sz7, sz8, sz9, sz10, sz12, sz1b, sz2b, sz3b, sz4b, Option.bind_some, Bool.not_true, Bool.not_false, decide_eq_true_eq, beq_iff_eq, Bool.not_eq_true', beq_eq_false_iff_ne, ne_eq, kII, kIB, kIT, kIS, kIL, kBI, kBB, kBT, kBS, kBL, kSI, kSB, kST, kSS, kSL, kNI, kNB, kNT, kNS, kNL, kTI, kTB, kTT, kTS, kTL, kLI, kLB, kLT, kLS, kLL]
  exact need_number_ok hv (fun e => by rw [hb] at e; cases e) (fun _ => h)
theorem bad_slit (hl : l.ok) (h : E ⟨"InvalidNumber", none⟩ M) : C_slit [l.d, .non] M Q E := by
  have lo := loop_ok hl
  unfold Ring.d at lo ⊢
  simp only [Cq_slit, bslit, bslit_s3, bslit_s4, bslit_s5, sSeq, sSet, sIf, sRet, sDrop, sNil, sRaise, sAsg, sPar2, sPar3, gSet, gTupD, gsCons, gsNil, gSub, wVar, wC, wOp, wB, wTup, wFz, wSt, fLst, fCat, zNil, zCons, wAnd, wOr, wNot, wIf, wTst, uAnd, uOr, uNot, tstOp, wLeLe, uLtLt, wNeg, oSub, oMul, oDiv, oMod, oPow, oLt, oLe, oGt, oGe, oCmp, oAbs, wIsi, wCall, wIsN, uIsN, startD, lenD, viewL, List.map_cons, List.map_nil, List.length_cons, List.length_nil, List.replicate, List.cons_append, List.nil_append, List.getElem?_cons_zero, List.getElem?_cons_succ, List.set_cons_zero, List.set_cons_succ, Nat.add_sub_cancel, Nat.sub_self, Nat.zero_add, Nat.reduceAdd, Nat.reduceSub, if_true, if_false, true_and, and_true, Bool.false_eq_true, reduceIte, ↓reduceIte, min_ii, max_ii, add_ii, add_tt, add_ss, add_ll, len_tup, len_lst, len_scr, len_str, int_int, int_bl, tup_lst, tup_tup, see_non, see_bl, see_int, see_str, see_tup, see_lst, see_dic, see_adr, see_scr, see_kup, ty_non, ty_bl, ty_int, ty_str, ty_tup, ty_lst, ty_kup, reduceCtorEq, nn_non, nn_bl, nn_int, nn_str, nn_tup, nn_lst, nn_dic, wFrz, wSl, oSome, oNone, ixT0, ixT1, ixT2, ixT3, ixL0, ixL1, ixL2, ixL3, eqII, neII, eqBB, neBB, eqPP, nePP, sz0, sz1, sz2, sz3, sz4, sz5, sz6, sz7, sz8, sz9, sz10, sz12, sz1b, sz2b, sz3b, sz4b, Option.bind_some, Bool.not_true, Bool.not_false, decide_eq_true_eq, beq_iff_eq, Bool.not_eq_true', beq_eq_false_iff_ne, ne_eq, kII, kIB, kIT, kIS, kIL, kBI, kBB, kBT, kBS, kBL, kSI, kSB, kST, kSS, kSL, kNI, kNB, kNT, kNS, kNL, kTI, kTB, kTT, kTS, kTL, kLI, kLB, kLT, kLS, kLL]
  refine need_loop_ok rfl (fun _ => ?_) (fun e => by rw [lo] at e; cases e)
  try simp only [sSeq, sSet, sIf, sRet, sDrop, sNil, sRaise, sAsg, sPar2, sPar3, gSet, gTupD, gsCons, gsNil, gSub, wVar, wC, wOp, wB, wTup, wFz, wSt, fLst, fCat, zNil, zCons, wAnd, wOr, wNot, wIf, wTst, uAnd, uOr, uNot, tstOp, wLeLe, uLtLt, wNeg, oSub, oMul, oDiv, oMod, oPow, oLt, oLe, oGt, oGe, oCmp, oAbs, wIsi, wCall, wIsN, uIsN, startD, lenD, viewL, List.map_cons, List.map_nil, List.length_cons, List.length_nil, List.replicate, List.cons_append, List.nil_append, List.getElem?_cons_zero, List.getElem?_cons_succ, List.set_cons_zero, List.set_cons_succ, Nat.add_sub_cancel, Nat.sub_self, Nat.zero_add, Nat.reduceAdd, Nat.reduceSub, if_true, if_false, true_and, and_true, Bool.false_eq_true, reduceIte, ↓reduceIte, min_ii, max_ii, add_ii, add_tt, add_ss, add_ll, len_tup, len_lst, len_scr, len_str, int_int, int_bl, tup_lst, tup_tup, see_non, see_bl, see_int, see_str, see_tup, see_lst, see_dic, see_adr, see_scr, see_kup, ty_non, ty_bl, ty_int, ty_str, ty_tup, ty_lst, ty_kup, reduceCtorEq, nn_non, nn_bl, nn_int, nn_str, nn_tup, nn_lst, nn_dic, wFrz, wSl, oSome, oNone, ixT0, ixT1, ixT2, ixT3, ixL0, ixL1, ixL2, ixL3, eqII, neII, eqBB, neBB, eqPP, nePP, sz0, sz1, sz2, sz3, sz4, sz5, sz6, sz7, sz8, sz9, sz10, sz12, sz1b, sz2b, sz3b, sz4b, Option.bind_some, Bool.not_true, Bool.not_false, decide_eq_true_eq, beq_iff_eq, Bool.not_eq_true', beq_eq_false_iff_ne, ne_eq, kII, kIB, kIT, kIS, kIL, kBI, kBB, kBT, kBS, kBL, kSI, kSB, kST, kSS, kSL, kNI, kNB, kNT, kNS, kNL, kTI, kTB, kTT, kTS, kTL, kLI, kLB, kLT, kLS, kLL]
  exact need_number_ok rfl (fun e => by cases e) (fun _ => h)
theorem length_ok (hl : l.ok) {n : Int} (h1 : 1 ≤ n) (h2 : n ≤ 1000000000000000000000000000000) (h : Q (.int ((l.f : Int) * n)) M) : C_length [l.d, .int n] M Q E := by
  have lo := loop_ok hl
  have hm := mul_fn hl (n := n) (by omega) h2
  simp only [Cq_length, blength, blength_s1, blength_s2, blength_s3, ix_r1, sSeq, sSet, sIf, sRet, sDrop, sNil, sRaise, sAsg, sPar2, sPar3, gSet, gTupD, gsCons, gsNil, gSub, wVar, wC, wOp, wB, wTup, wFz, wSt, fLst, fCat, zNil, zCons, wAnd, wOr, wNot, wIf, wTst, uAnd, uOr, uNot, tstOp, wLeLe, uLtLt, wNeg, oSub, oMul, oDiv, oMod, oPow, oLt, oLe, oGt, oGe, oCmp, oAbs, wIsi, wCall, wIsN, uIsN, startD, lenD, viewL, List.map_cons, List.map_nil, List.length_cons, List.length_nil, List.replicate, List.cons_append, List.nil_append, List.getElem?_cons_zero, List.getElem?_cons_succ, List.set_cons_zero, List.set_cons_succ, Nat.add_sub_cancel, Nat.sub_self, Nat.zero_add, Nat.reduceAdd, Nat.reduceSub, if_true, if_false, true_and, and_true, Bool.false_eq_true, reduceIte, ↓reduceIte, min_ii, max_ii, add_ii, add_tt, add_ss, add_ll, len_tup, len_lst, len_scr, len_str, int_int, int_bl, tup_lst, tup_tup, see_non, see_bl, see_int, see_str, see_tup, see_lst, see_dic, see_adr, see_scr, see_kup, ty_non, ty_bl, ty_int, ty_str, ty_tup, ty_lst, ty_kup, reduceCtorEq, nn_non, nn_bl, nn_int, nn_str, nn_tup, nn_lst, nn_dic, wFrz, wSl, oSome, oNone, ixT0, ixT1, ixT2, ixT3, ixL0, ixL1, ixL2, ixL3, eqII, neII, eqBB, neBB, eqPP, nePP, sz0, sz1, sz2, sz3, sz4, sz5, sz6, sz7, sz8, sz9, sz10, sz12, sz1b, sz2b, sz3b, sz4b, Option.bind_some, Bool.not_true, Bool.not_false, decide_eq_true_eq, beq_iff_eq, Bool.not_eq_true', beq_eq_false_iff_ne, ne_eq, kII, kIB, kIT, kIS, kIL, kBI, kBB, kBT, kBS, kBL, kSI, kSB, kST, kSS, kSL, kNI, kNB, kNT, kNS, kNL, kTI, kTB, kTT, kTS, kTL, kLI, kLB, kLT, kLS, kLL]
  refine need_loop_ok rfl (fun _ => ?_) (fun e => by rw [lo] at e; cases e)
  try simp only [sSeq, sSet, sIf, sRet, sDrop, sNil, sRaise, sAsg, sPar2, sPar3, gSet, gTupD, gsCons, gsNil, gSub, wVar, wC, wOp, wB, wTup, wFz, wSt, fLst, fCat, zNil, zCons, wAnd, wOr, wNot, wIf, wTst, uAnd, uOr, uNot, tstOp, wLeLe, uLtLt, wNeg, oSub, oMul, oDiv, oMod, oPow, oLt, oLe, oGt, oGe, oCmp, oAbs, wIsi, wCall, wIsN, uIsN, startD, lenD, viewL, List.map_cons, List.map_nil, List.length_cons, List.length_nil, List.replicate, List.cons_append, List.nil_append, List.getElem?_cons_zero, List.getElem?_cons_succ, List.set_cons_zero, List.set_cons_succ, Nat.add_sub_cancel, Nat.sub_self, Nat.zero_add, Nat.reduceAdd, Nat.reduceSub, if_true, if_false, true_and, and_true, Bool.false_eq_true, reduceIte, ↓reduceIte, min_ii, max_ii, add_ii, add_tt, add_ss, add_ll, len_tup, len_lst, len_scr, len_str, int_int, int_bl, tup_lst, tup_tup, see_non, see_bl, see_int, see_str, see_tup, see_lst, see_dic, see_adr, see_scr, see_kup, ty_non, ty_bl, ty_int, ty_str, ty_tup, ty_lst, ty_kup, reduceCtorEq, nn_non, nn_bl, nn_int, nn_str, nn_tup, nn_lst, nn_dic, wFrz, wSl, oSome, oNone, ixT0, ixT1, ixT2, ixT3, ixL0, ixL1, ixL2, ixL3, eqII, neII, eqBB, neBB, eqPP, nePP, sz0, sz1, sz2, sz3, sz4, sz5, sz6, sz7, sz8, sz9, sz10, sz12, sz1b, sz2b, sz3b, sz4b, Option.bind_some, Bool.not_true, Bool.not_false, decide_eq_true_eq, beq_iff_eq, Bool.not_eq_true', beq_eq_false_iff_ne, ne_eq, kII, kIB, kIT, kIS, kIL, kBI, kBB, kBT, kBS, kBL, kSI, kSB, kST, kSS, kSL, kNI, kNB, kNT, kNS, kNL, kTI, kTB, kTT, kTS, kTL, kLI, kLB, kLT, kLS, kLL]
  refine need_number_ok rfl (fun e => ?_) (fun e => absurd ⟨h1, h2⟩ (of_decide_eq_false e))
  try simp only [ix_r1, sSeq, sSet, sIf, sRet, sDrop, sNil, sRaise, sAsg, sPar2, sPar3, gSet, gTupD, gsCons, gsNil, gSub, wVar, wC, wOp, wB, wTup, wFz, wSt, fLst, fCat, zNil, zCons, wAnd, wOr, wNot, wIf, wTst, uAnd, uOr, uNot, tstOp, wLeLe, uLtLt, wNeg, oSub, oMul, oDiv, oMod, oPow, oLt, oLe, oGt, oGe, oCmp, oAbs, wIsi, wCall, wIsN, uIsN, startD, lenD, viewL, List.map_cons, List.map_nil, List.length_cons, List.length_nil, List.replicate, List.cons_append, List.nil_append, List.getElem?_cons_zero, List.getElem?_cons_succ, List.set_cons_zero, List.set_cons_succ, Nat.add_sub_cancel, Nat.sub_self, Nat.zero_add, Nat.reduceAdd, Nat.reduceSub, if_true, if_false, true_and, and_true, Bool.false_eq_true, reduceIte, ↓reduceIte, min_ii, max_ii, add_ii, add_tt, add_ss, add_ll, len_tup, len_lst, len_scr, len_str, int_int, int_bl, tup_lst, tup_tup, see_non, see_bl, see_int, see_str, see_tup, see_lst, see_dic, see_adr, see_scr, see_kup, ty_non, ty_bl, ty_int, ty_str, ty_tup, ty_lst, ty_kup, reduceCtorEq, nn_non, nn_bl, nn_int, nn_str, nn_tup, nn_lst, nn_dic, wFrz, wSl, oSome, oNone, ixT0, ixT1, ixT2, ixT3, ixL0, ixL1, ixL2, ixL3, eqII, neII, eqBB, neBB, eqPP, nePP, sz0, sz1, sz2, sz3, sz4, sz5, sz6, sz7, sz8, sz9, sz10, sz12, sz1b, sz2b, sz3b, sz4b, Option.bind_some, Bool.not_true, Bool.not_false, decide_eq_true_eq, beq_iff_eq, Bool.not_eq_true', beq_eq_false_iff_ne, ne_eq, kII, kIB, kIT, kIS, kIL, kBI, kBB, kBT, kBS, kBL, kSI, kSB, kST, kSS, kSL, kNI, kNB, kNT, kNS, kNL, kTI, kTB, kTT, kTS, kTL, kLI, kLB, kLT, kLS, kLL]
  exact ⟨hm, h⟩
theorem w18_ok {x0 x1 x2 x3 x4 x5 x6 x8 x10 x11 x12 x13 x14 x15 x16 x17 : Option L3.D} (hl : l.ok) (hv : v.pure = true) (hb : isIntD v 1 1000000000000000000000000000000 = false) (h : D.nx [x0, x1, x2, x3, x4, x5, x6, some v, x8, some l.d, x10, x11, x12, x13, x14, x15, x16, x17] M) : blaw_s18 [x0, x1, x2, x3, x4, x5, x6, some v, x8, some l.d, x10, x11, x12, x13, x14, x15, x16, x17] M D E := by
  have key := fun {Q : KD} {E : ExK} (h4 : E ⟨"InvalidNumber", none⟩ M) => bad_length (M := M) (E := E) (Q := Q) hl hv hb h4
  simp only [blaw_s17, blaw_s18, wCaught, sSeq, sSet, sIf, sRet, sDrop, sNil, sRaise, sAsg, sPar2, sPar3, gSet, gTupD, gsCons, gsNil, gSub, wVar, wC, wOp, wB, wTup, wFz, wSt, fLst, fCat, zNil, zCons, wAnd, wOr, wNot, wIf, wTst, uAnd, uOr, uNot, tstOp, wLeLe, uLtLt, wNeg, oSub, oMul, oDiv, oMod, oPow, oLt, oLe, oGt, oGe, oCmp, oAbs, wIsi, wCall, wIsN, uIsN, startD, lenD, viewL, List.map_cons, List.map_nil, List.length_cons, List.length_nil, List.replicate, List.cons_append, List.nil_append, List.getElem?_cons_zero, List.getElem?_cons_succ, List.set_cons_zero, List.set_cons_succ, Nat.add_sub_cancel, Nat.sub_self, Nat.zero_add, Nat.reduceAdd, Nat.reduceSub, if_true, if_false, true_and, and_true, Bool.false_eq_true, reduceIte, ↓reduceIte, min_ii, max_ii, add_ii, add_tt, add_ss, add_ll, len_tup, len_lst, len_scr, len_str, int_int, int_bl, tup_lst, tup_tup, see_non, see_bl, see_int, see_str, see_tup, see_lst, see_dic, see_adr, see_scr, see_kup, ty_non, ty_bl, ty_int, ty_str, ty_tup, ty_lst, ty_kup, reduceCtorEq, nn_non, nn_bl, nn_int, nn_str, nn_tup, nn_lst, nn_dic, wFrz, wSl, oSome, oNone, ixT0, ixT1, ixT2, ixT3, ixL0, ixL1, ixL2, ixL3, eqII, neII, eqBB, neBB, eqPP, nePP, sz0, sz1, sz2, sz3, sz4, sz5, sz6, sz7, sz8, sz9, sz10, sz12, sz1b, sz2b, sz3b, sz4b, Option.bind_some, Bool.not_true, Bool.not_false, decide_eq_true_eq, beq_iff_eq, Bool.not_eq_true', beq_eq_false_iff_ne, ne_eq, kII, kIB, kIT, kIS, kIL, kBI, kBB, kBT, kBS, kBL, kSI, kSB, kST, kSS, kSL, kNI, kNB, kNT, kNS, kNL, kTI, kTB, kTT, kTS, kTL, kLI, kLB, kLT, kLS, kLL]
  refine key ⟨good_num_x, ?_⟩
  refine bad_num_t ?_
  simp only [sSeq, sSet, sIf, sRet, sDrop, sNil, sRaise, sAsg, sPar2, sPar3, gSet, gTupD, gsCons, gsNil, gSub, wVar, wC, wOp, wB, wTup, wFz, wSt, fLst, fCat, zNil, zCons, wAnd, wOr, wNot, wIf, wTst, uAnd, uOr, uNot, tstOp, wLeLe, uLtLt, wNeg, oSub, oMul, oDiv, oMod, oPow, oLt, oLe, oGt, oGe, oCmp, oAbs, wIsi, wCall, wIsN, uIsN, startD, lenD, viewL, List.map_cons, List.map_nil, List.length_cons, List.length_nil, List.replicate, List.cons_append, List.nil_append, List.getElem?_cons_zero, List.getElem?_cons_succ, List.set_cons_zero, List.set_cons_succ, Nat.add_sub_cancel, Nat.sub_self, Nat.zero_add, Nat.reduceAdd, Nat.reduceSub, if_true, if_false, true_and, and_true, Bool.false_eq_true, reduceIte, ↓reduceIte, min_ii, max_ii, add_ii, add_tt, add_ss, add_ll, len_tup, len_lst, len_scr, len_str, int_int, int_bl, tup_lst, tup_tup, see_non, see_bl, see_int, see_str, see_tup, see_lst, see_dic, see_adr, see_scr, see_kup, ty_non, ty_bl, ty_int, ty_str, ty_tup, ty_lst, ty_kup, reduceCtorEq, nn_non, nn_bl, nn_int, nn_str, nn_tup, nn_lst, nn_dic, wFrz, wSl, oSome, oNone, ixT0, ixT1, ixT2, ixT3, ixL0, ixL1, ixL2, ixL3, eqII, neII, eqBB, neBB, eqPP, nePP, sz0, sz1, sz2, sz3, sz4, sz5, sz6, sz7, sz8, sz9, sz10, sz12, sz1b, sz2b, sz3b, sz4b, Option.bind_some, Bool.not_true, Bool.not_false, decide_eq_true_eq, beq_iff_eq, Bool.not_eq_true', beq_eq_false_iff_ne, ne_eq, kII, kIB, kIT, kIS, kIL, kBI, kBB, kBT, kBS, kBL, kSI, kSB, kST, kSS, kSL, kNI, kNB, kNT, kNS, kNL, kTI, kTB, kTT, kTS, kTL, kLI, kLB, kLT, kLS, kLL]
  exact h
theorem turns28 {x0 x1 x2 x3 x4 x5 x6 x8 x10 x11 x12 x13 x14 x15 x16 x17 : Option L3.D} (hl : l.ok) : ∀ (items : List L3.D) (y7 : Option L3.D), (∀ d ∈ items, d.pure = true ∧ isIntD d 1 1000000000000000000000000000000 = false) → (∀ z7, D.nx [x0, x1, x2, x3, x4, x5, x6, z7, x8, some l.d, x10, x11, x12, x13, x14, x15, x16, x17] M) →
    sTurns (gSet 7) blaw_s18 items [x0, x1, x2, x3, x4, x5, x6, y7, x8, some l.d, x10, x11, x12, x13, x14, x15, x16, x17] M D E
  | [], y7, hi, h => turns_nil (h y7)
  | d :: items, y7, hi, h => by
    refine turns_cons ?_
    refine w18_ok hl (hi d List.mem_cons_self).1 (hi d List.mem_cons_self).2 ?_
    exact turns28 hl items _ (fun x hx => hi x (List.mem_cons_of_mem _ hx)) h
theorem w28_ok {x0 x1 x2 x3 x4 x5 x6 x7 x8 x10 x11 x12 x13 x14 x15 x16 x17 : Option L3.D} (hl : l.ok) (h : ∀ z7, D.nx [x0, x1, x2, x3, x4, x5, x6, z7, x8, some l.d, x10, x11, x12, x13, x14, x15, x16, x17] M) : blaw_s28 [x0, x1, x2, x3, x4, x5, x6, x7, x8, some l.d, x10, x11, x12, x13, x14, x15, x16, x17] M D E := by
  have key := turns28 (E := E) (D := D) (M := M) (x0 := x0) (x1 := x1) (x2 := x2) (x3 := x3) (x4 := x4) (x5 := x5) (x6 := x6) (x8 := x8) (x10 := x10) (x11 := x11) (x12 := x12) (x13 := x13) (x14 := x14) (x15 := x15) (x16 := x16) (x17 := x17) hl [.non, .int 0, .bl true, .str "1", .int (10 ^ Int.toNat 30 + 1)] x7 (fun d hd => by
    have : ([.non, .int 0, .bl true, .str "1", .int (10 ^ Int.toNat 30 + 1)] : List L3.D).all (fun d => d.pure && !(isIntD d 1 1000000000000000000000000000000)) = true := by decide +kernel
    have := List.all_eq_true.mp this d hd
    rw [Bool.and_eq_true, Bool.not_eq_true'] at this
    exact this) h
  simp only [blaw_s28, sFor]
  generalize blaw_s18 = body at key ⊢
  simp only [iSeq, sSeq, sSet, sIf, sRet, sDrop, sNil, sRaise, sAsg, sPar2, sPar3, gSet, gTupD, gsCons, gsNil, gSub, wVar, wC, wOp, wB, wTup, wFz, wSt, fLst, fCat, zNil, zCons, wAnd, wOr, wNot, wIf, wTst, uAnd, uOr, uNot, tstOp, wLeLe, uLtLt, wNeg, oSub, oMul, oDiv, oMod, oPow, oLt, oLe, oGt, oGe, oCmp, oAbs, wIsi, wCall, wIsN, uIsN, startD, lenD, viewL, List.map_cons, List.map_nil, List.length_cons, List.length_nil, List.replicate, List.cons_append, List.nil_append, List.getElem?_cons_zero, List.getElem?_cons_succ, List.set_cons_zero, List.set_cons_succ, Nat.add_sub_cancel, Nat.sub_self, Nat.zero_add, Nat.reduceAdd, Nat.reduceSub, if_true, if_false, true_and, and_true, Bool.false_eq_true, reduceIte, ↓reduceIte, min_ii, max_ii, add_ii, add_tt, add_ss, add_ll, len_tup, len_lst, len_scr, len_str, int_int, int_bl, tup_lst, tup_tup, see_non, see_bl, see_int, see_str, see_tup, see_lst, see_dic, see_adr, see_scr, see_kup, ty_non, ty_bl, ty_int, ty_str, ty_tup, ty_lst, ty_kup, reduceCtorEq, nn_non, nn_bl, nn_int, nn_str, nn_tup, nn_lst, nn_dic, wFrz, wSl, oSome, oNone, ixT0, ixT1, ixT2, ixT3, ixL0, ixL1, ixL2, ixL3, eqII, neII, eqBB, neBB, eqPP, nePP, sz0, sz1, sz2, sz3, sz4, sz5, sz6, sz7, sz8, sz9, sz10, sz12, sz1b, sz2b, sz3b, sz4b, Option.bind_some, Bool.not_true, Bool.not_false, decide_eq_true_eq, beq_iff_eq, Bool.not_eq_true', beq_eq_false_iff_ne, ne_eq, kII, kIB, kIT, kIS, kIL, kBI, kBB, kBT, kBS, kBL, kSI, kSB, kST, kSS, kSL, kNI, kNB, kNT, kNS, kNL, kTI, kTB, kTT, kTS, kTL, kLI, kLB, kLT, kLS, kLL]
  exact ⟨cpow_ok (by decide) (by decide), key⟩
theorem w29_ok {x0 x1 x2 x3 x4 x5 x6 x7 x8 x10 x11 x12 x13 x14 x15 x16 x17 : Option L3.D} (hl : l.ok) (h : D.nx [x0, x1, x2, x3, x4, x5, x6, x7, x8, some l.d, x10, x11, x12, x13, x14, x15, x16, x17] M) : blaw_s29 [x0, x1, x2, x3, x4, x5, x6, x7, x8, some l.d, x10, x11, x12, x13, x14, x15, x16, x17] M D E := by
  have key := fun {Q : KD} {E : ExK} (h4 : E ⟨"InvalidNumber", none⟩ M) => bad_slit (M := M) (E := E) (Q := Q) hl h4
  simp only [blaw_s19, blaw_s29, wCaught, sSeq, sSet, sIf, sRet, sDrop, sNil, sRaise, sAsg, sPar2, sPar3, gSet, gTupD, gsCons, gsNil, gSub, wVar, wC, wOp, wB, wTup, wFz, wSt, fLst, fCat, zNil, zCons, wAnd, wOr, wNot, wIf, wTst, uAnd, uOr, uNot, tstOp, wLeLe, uLtLt, wNeg, oSub, oMul, oDiv, oMod, oPow, oLt, oLe, oGt, oGe, oCmp, oAbs, wIsi, wCall, wIsN, uIsN, startD, lenD, viewL, List.map_cons, List.map_nil, List.length_cons, List.length_nil, List.replicate, List.cons_append, List.nil_append, List.getElem?_cons_zero, List.getElem?_cons_succ, List.set_cons_zero, List.set_cons_succ, Nat.add_sub_cancel, Nat.sub_self, Nat.zero_add, Nat.reduceAdd, Nat.reduceSub, if_true, if_false, true_and, and_true, Bool.false_eq_true, reduceIte, ↓reduceIte, min_ii, max_ii, add_ii, add_tt, add_ss, add_ll, len_tup, len_lst, len_scr, len_str, int_int, int_bl, tup_lst, tup_tup, see_non, see_bl, see_int, see_str, see_tup, see_lst, see_dic, see_adr, see_scr, see_kup, ty_non, ty_bl, ty_int, ty_str, ty_tup, ty_lst, ty_kup, reduceCtorEq, nn_non, nn_bl, nn_int, nn_str, nn_tup, nn_lst, nn_dic, wFrz, wSl, oSome, oNone, ixT0, ixT1, ixT2, ixT3, ixL0, ixL1, ixL2, ixL3, eqII, neII, eqBB, neBB, eqPP, nePP, sz0, sz1, sz2, sz3, sz4, sz5, sz6, sz7, sz8, sz9, sz10, sz12, sz1b, sz2b, sz3b, sz4b, Option.bind_some, Bool.not_true, Bool.not_false, decide_eq_true_eq, beq_iff_eq, Bool.not_eq_true', beq_eq_false_iff_ne, ne_eq, kII, kIB, kIT, kIS, kIL, kBI, kBB, kBT, kBS, kBL, kSI, kSB, kST, kSS, kSL, kNI, kNB, kNT, kNS, kNL, kTI, kTB, kTT, kTS, kTL, kLI, kLB, kLT, kLS, kLL]
  refine key ⟨good_num_x, ?_⟩
  refine bad_num_t ?_
  simp only [sSeq, sSet, sIf, sRet, sDrop, sNil, sRaise, sAsg, sPar2, sPar3, gSet, gTupD, gsCons, gsNil, gSub, wVar, wC, wOp, wB, wTup, wFz, wSt, fLst, fCat, zNil, zCons, wAnd, wOr, wNot, wIf, wTst, uAnd, uOr, uNot, tstOp, wLeLe, uLtLt, wNeg, oSub, oMul, oDiv, oMod, oPow, oLt, oLe, oGt, oGe, oCmp, oAbs, wIsi, wCall, wIsN, uIsN, startD, lenD, viewL, List.map_cons, List.map_nil, List.length_cons, List.length_nil, List.replicate, List.cons_append, List.nil_append, List.getElem?_cons_zero, List.getElem?_cons_succ, List.set_cons_zero, List.set_cons_succ, Nat.add_sub_cancel, Nat.sub_self, Nat.zero_add, Nat.reduceAdd, Nat.reduceSub, if_true, if_false, true_and, and_true, Bool.false_eq_true, reduceIte, ↓reduceIte, min_ii, max_ii, add_ii, add_tt, add_ss, add_ll, len_tup, len_lst, len_scr, len_str, int_int, int_bl, tup_lst, tup_tup, see_non, see_bl, see_int, see_str, see_tup, see_lst, see_dic, see_adr, see_scr, see_kup, ty_non, ty_bl, ty_int, ty_str, ty_tup, ty_lst, ty_kup, reduceCtorEq, nn_non, nn_bl, nn_int, nn_str, nn_tup, nn_lst, nn_dic, wFrz, wSl, oSome, oNone, ixT0, ixT1, ixT2, ixT3, ixL0, ixL1, ixL2, ixL3, eqII, neII, eqBB, neBB, eqPP, nePP, sz0, sz1, sz2, sz3, sz4, sz5, sz6, sz7, sz8, sz9, sz10, sz12, sz1b, sz2b, sz3b, sz4b, Option.bind_some, Bool.not_true, Bool.not_false, decide_eq_true_eq, beq_iff_eq, Bool.not_eq_true', beq_eq_false_iff_ne, ne_eq, kII, kIB, kIT, kIS, kIL, kBI, kBB, kBT, kBS, kBL, kSI, kSB, kST, kSS, kSL, kNI, kNB, kNT, kNS, kNL, kTI, kTB, kTT, kTS, kTL, kLI, kLB, kLT, kLS, kLL]
  exact h
theorem p30 : (10 : Int) ^ Int.toNat 30 = 1000000000000000000000000000000 := by decide +kernel
theorem w30_ok {x0 x1 x3 x4 x5 x6 x7 x8 x9 x10 x11 x12 x13 x14 x15 x16 x17 : Option L3.D} (c : Crank M i) (h : ∀ (n : Int) M', 1 ≤ n → n ≤ 1000000000000000000000000000000 → Turned i M M' → D.nx [x0, x1, some (.ref i), x3, x4, x5, x6, x7, some (.int n), x9, x10, x11, x12, x13, x14, x15, x16, x17] M') : blaw_s30 [x0, x1, some (.ref i), x3, x4, x5, x6, x7, x8, x9, x10, x11, x12, x13, x14, x15, x16, x17] M D E := by
  simp only [blaw_s30, sSeq, sSet, sIf, sRet, sDrop, sNil, sRaise, sAsg, sPar2, sPar3, gSet, gTupD, gsCons, gsNil, gSub, wVar, wC, wOp, wB, wTup, wFz, wSt, fLst, fCat, zNil, zCons, wAnd, wOr, wNot, wIf, wTst, uAnd, uOr, uNot, tstOp, wLeLe, uLtLt, wNeg, oSub, oMul, oDiv, oMod, oPow, oLt, oLe, oGt, oGe, oCmp, oAbs, wIsi, wCall, wIsN, uIsN, startD, lenD, viewL, List.map_cons, List.map_nil, List.length_cons, List.length_nil, List.replicate, List.cons_append, List.nil_append, List.getElem?_cons_zero, List.getElem?_cons_succ, List.set_cons_zero, List.set_cons_succ, Nat.add_sub_cancel, Nat.sub_self, Nat.zero_add, Nat.reduceAdd, Nat.reduceSub, if_true, if_false, true_and, and_true, Bool.false_eq_true, reduceIte, ↓reduceIte, min_ii, max_ii, add_ii, add_tt, add_ss, add_ll, len_tup, len_lst, len_scr, len_str, int_int, int_bl, tup_lst, tup_tup, see_non, see_bl, see_int, see_str, see_tup, see_lst, see_dic, see_adr, see_scr, see_kup, ty_non, ty_bl, ty_int, ty_str, ty_tup, ty_lst, ty_kup, reduceCtorEq, nn_non, nn_bl, nn_int, nn_str, nn_tup, nn_lst, nn_dic, wFrz, wSl, oSome, oNone, ixT0, ixT1, ixT2, ixT3, ixL0, ixL1, ixL2, ixL3, eqII, neII, eqBB, neBB, eqPP, nePP, sz0, sz1, sz2, sz3, sz4, sz5, sz6, sz7, sz8, sz9, sz10, sz12, sz1b, sz2b, sz3b, sz4b, Option.bind_some, Bool.not_true, Bool.not_false, decide_eq_true_eq, beq_iff_eq, Bool.not_eq_true', beq_eq_false_iff_ne, ne_eq, kII, kIB, kIT, kIS, kIL, kBI, kBB, kBT, kBS, kBL, kSI, kSB, kST, kSS, kSL, kNI, kNB, kNT, kNS, kNL, kTI, kTB, kTT, kTS, kTL, kLI, kLB, kLT, kLS, kLL]
  refine ⟨cpow_ok (by decide) (by decide), ?_⟩
  rw [p30]
  refine spin_ok' c (by decide) (by decide) fun u M1 u1 u2 t => ?_
  try simp only [sSeq, sSet, sIf, sRet, sDrop, sNil, sRaise, sAsg, sPar2, sPar3, gSet, gTupD, gsCons, gsNil, gSub, wVar, wC, wOp, wB, wTup, wFz, wSt, fLst, fCat, zNil, zCons, wAnd, wOr, wNot, wIf, wTst, uAnd, uOr, uNot, tstOp, wLeLe, uLtLt, wNeg, oSub, oMul, oDiv, oMod, oPow, oLt, oLe, oGt, oGe, oCmp, oAbs, wIsi, wCall, wIsN, uIsN, startD, lenD, viewL, List.map_cons, List.map_nil, List.length_cons, List.length_nil, List.replicate, List.cons_append, List.nil_append, List.getElem?_cons_zero, List.getElem?_cons_succ, List.set_cons_zero, List.set_cons_succ, Nat.add_sub_cancel, Nat.sub_self, Nat.zero_add, Nat.reduceAdd, Nat.reduceSub, if_true, if_false, true_and, and_true, Bool.false_eq_true, reduceIte, ↓reduceIte, min_ii, max_ii, add_ii, add_tt, add_ss, add_ll, len_tup, len_lst, len_scr, len_str, int_int, int_bl, tup_lst, tup_tup, see_non, see_bl, see_int, see_str, see_tup, see_lst, see_dic, see_adr, see_scr, see_kup, ty_non, ty_bl, ty_int, ty_str, ty_tup, ty_lst, ty_kup, reduceCtorEq, nn_non, nn_bl, nn_int, nn_str, nn_tup, nn_lst, nn_dic, wFrz, wSl, oSome, oNone, ixT0, ixT1, ixT2, ixT3, ixL0, ixL1, ixL2, ixL3, eqII, neII, eqBB, neBB, eqPP, nePP, sz0, sz1, sz2, sz3, sz4, sz5, sz6, sz7, sz8, sz9, sz10, sz12, sz1b, sz2b, sz3b, sz4b, Option.bind_some, Bool.not_true, Bool.not_false, decide_eq_true_eq, beq_iff_eq, Bool.not_eq_true', beq_eq_false_iff_ne, ne_eq, kII, kIB, kIT, kIS, kIL, kBI, kBB, kBT, kBS, kBL, kSI, kSB, kST, kSS, kSL, kNI, kNB, kNT, kNS, kNL, kTI, kTB, kTT, kTS, kTL, kLI, kLB, kLT, kLS, kLL]
  exact h _ M1 (by omega) (by omega) t
theorem w31_ok {x0 x1 x2 x3 x4 x5 x6 x7 x10 x11 x12 x13 x14 x15 x16 x17 : Option L3.D} (hl : l.ok) {n : Int} (h1 : 1 ≤ n) (h2 : n ≤ 1000000000000000000000000000000) (h : D.nx [x0, x1, x2, x3, x4, x5, x6, x7, some (.int n), some l.d, x10, x11, x12, x13, x14, x15, x16, x17] M) : blaw_s31 [x0, x1, x2, x3, x4, x5, x6, x7, some (.int n), some l.d, x10, x11, x12, x13, x14, x15, x16, x17] M D E := by
  have hm := mul_fn hl (n := n) (by omega) h2
  simp only [blaw_s20, blaw_s31, sSeq, sSet, sIf, sRet, sDrop, sNil, sRaise, sAsg, sPar2, sPar3, gSet, gTupD, gsCons, gsNil, gSub, wVar, wC, wOp, wB, wTup, wFz, wSt, fLst, fCat, zNil, zCons, wAnd, wOr, wNot, wIf, wTst, uAnd, uOr, uNot, tstOp, wLeLe, uLtLt, wNeg, oSub, oMul, oDiv, oMod, oPow, oLt, oLe, oGt, oGe, oCmp, oAbs, wIsi, wCall, wIsN, uIsN, startD, lenD, viewL, List.map_cons, List.map_nil, List.length_cons, List.length_nil, List.replicate, List.cons_append, List.nil_append, List.getElem?_cons_zero, List.getElem?_cons_succ, List.set_cons_zero, List.set_cons_succ, Nat.add_sub_cancel, Nat.sub_self, Nat.zero_add, Nat.reduceAdd, Nat.reduceSub, if_true, if_false, true_and, and_true, Bool.false_eq_true, reduceIte, ↓reduceIte, min_ii, max_ii, add_ii, add_tt, add_ss, add_ll, len_tup, len_lst, len_scr, len_str, int_int, int_bl, tup_lst, tup_tup, see_non, see_bl, see_int, see_str, see_tup, see_lst, see_dic, see_adr, see_scr, see_kup, ty_non, ty_bl, ty_int, ty_str, ty_tup, ty_lst, ty_kup, reduceCtorEq, nn_non, nn_bl, nn_int, nn_str, nn_tup, nn_lst, nn_dic, wFrz, wSl, oSome, oNone, ixT0, ixT1, ixT2, ixT3, ixL0, ixL1, ixL2, ixL3, eqII, neII, eqBB, neBB, eqPP, nePP, sz0, sz1, sz2, sz3, sz4, sz5, sz6, sz7, sz8, sz9, sz10, sz12, sz1b, sz2b, sz3b, sz4b, Option.bind_some, Bool.not_true, Bool.not_false, decide_eq_true_eq, beq_iff_eq, Bool.not_eq_true', beq_eq_false_iff_ne, ne_eq, kII, kIB, kIT, kIS, kIL, kBI, kBB, kBT, kBS, kBL, kSI, kSB, kST, kSS, kSL, kNI, kNB, kNT, kNS, kNL, kTI, kTB, kTT, kTS, kTL, kLI, kLB, kLT, kLS, kLL]
  refine length_ok hl h1 h2 ?_
  try simp only [ix_r1, sSeq, sSet, sIf, sRet, sDrop, sNil, sRaise, sAsg, sPar2, sPar3, gSet, gTupD, gsCons, gsNil, gSub, wVar, wC, wOp, wB, wTup, wFz, wSt, fLst, fCat, zNil, zCons, wAnd, wOr, wNot, wIf, wTst, uAnd, uOr, uNot, tstOp, wLeLe, uLtLt, wNeg, oSub, oMul, oDiv, oMod, oPow, oLt, oLe, oGt, oGe, oCmp, oAbs, wIsi, wCall, wIsN, uIsN, startD, lenD, viewL, List.map_cons, List.map_nil, List.length_cons, List.length_nil, List.replicate, List.cons_append, List.nil_append, List.getElem?_cons_zero, List.getElem?_cons_succ, List.set_cons_zero, List.set_cons_succ, Nat.add_sub_cancel, Nat.sub_self, Nat.zero_add, Nat.reduceAdd, Nat.reduceSub, if_true, if_false, true_and, and_true, Bool.false_eq_true, reduceIte, ↓reduceIte, min_ii, max_ii, add_ii, add_tt, add_ss, add_ll, len_tup, len_lst, len_scr, len_str, int_int, int_bl, tup_lst, tup_tup, see_non, see_bl, see_int, see_str, see_tup, see_lst, see_dic, see_adr, see_scr, see_kup, ty_non, ty_bl, ty_int, ty_str, ty_tup, ty_lst, ty_kup, reduceCtorEq, nn_non, nn_bl, nn_int, nn_str, nn_tup, nn_lst, nn_dic, wFrz, wSl, oSome, oNone, ixT0, ixT1, ixT2, ixT3, ixL0, ixL1, ixL2, ixL3, eqII, neII, eqBB, neBB, eqPP, nePP, sz0, sz1, sz2, sz3, sz4, sz5, sz6, sz7, sz8, sz9, sz10, sz12, sz1b, sz2b, sz3b, sz4b, Option.bind_some, Bool.not_true, Bool.not_false, decide_eq_true_eq, beq_iff_eq, Bool.not_eq_true', beq_eq_false_iff_ne, ne_eq, kII, kIB, kIT, kIS, kIL, kBI, kBB, kBT, kBS, kBL, kSI, kSB, kST, kSS, kSL, kNI, kNB, kNT, kNS, kNL, kTI, kTB, kTT, kTS, kTL, kLI, kLB, kLT, kLS, kLL]
  refine ⟨hm, ?_⟩
  rw [if_neg (by simp)]
  exact h
theorem th20_ring (hl : l.ok) : thB 20 B38 l.d = true := by
  obtain ⟨h1, h2, h3⟩ := hl
  have b38 : (100 : Int) ≤ B38 := by decide
  refine th_tup.mpr ⟨by simp, fun d hd => ?_⟩
  simp only [List.mem_cons, List.not_mem_nil, or_false] at hd
  rcases hd with rfl | rfl | rfl
  · rw [th_int]; omega
  · rw [th_int]; omega
  · rfl
theorem w23_ok {x0 x1 x2 x3 x4 x5 x6 x7 x8 x11 x12 x13 x14 x15 x16 x17 : Option L3.D} {x : Wish} (hl : l.ok) (hx : WishOk x) (h : ∀ ds, Things 8 ds → D.nx [x0, x1, x2, some (.lst ds), x4, x5, x6, x7, x8, some l.d, some (wishD x), x11, x12, x13, x14, x15, x16, x17] M) : blaw_s23 [x0, x1, x2, x3, x4, x5, x6, x7, x8, some l.d, some (wishD x), x11, x12, x13, x14, x15, x16, x17] M D E := by
  have hx : -12 ≤ x.late ∧ x.late ≤ 12 := hx
  obtain ⟨h1, h2, h3⟩ := hl
  have i0 : thB 80 B2 (.int 0) = true := by decide
  have b38 : (100 : Int) ≤ B2 := by decide
  have ir : thB 80 B2 (.int l.r) = true := by rw [th_int]; omega
  have fr : thB 80 B2 (.int l.f) = true := by rw [th_int]; omega
  have il : thB 80 B2 (.int x.late) = true := by rw [th_int]; omega
  have rows : ∀ (a b c : L3.D), thB 80 B2 a = true → thB 80 B2 b = true → thB 80 B2 c = true → ∀ d ∈ [a, b, c], thB 80 B2 d = true := fun a b c ha hb hc d hd => by
    simp only [List.mem_cons, List.not_mem_nil, or_false] at hd
    rcases hd with rfl | rfl | rfl
    · exact ha
    · exact hb
    · exact hc
  have key := h [l.d, wishD x, .lst [.int l.r, .int l.f, .bl l.t], .lst [.int x.late, .bl x.back, .bl x.over], .tup [.bl l.t, .int l.f, .int l.r], .tup [.bl x.over, .bl x.back, .int x.late], .tup [.int l.r, .int l.f, .bl l.t, .int 0], .tup [.int x.late, .bl x.back]] ⟨by simp, fun d hd => by
    simp only [List.mem_cons, List.not_mem_nil, or_false] at hd
    rcases hd with rfl | rfl | rfl | rfl | rfl | rfl | rfl | rfl
    · exact th_tup.mpr ⟨by simp, rows _ _ _ ir fr rfl⟩
    · exact th_tup.mpr ⟨by simp, rows _ _ _ il rfl rfl⟩
    · exact th_lst.mpr ⟨by simp, rows _ _ _ ir fr rfl⟩
    · exact th_lst.mpr ⟨by simp, rows _ _ _ il rfl rfl⟩
    · exact th_tup.mpr ⟨by simp, rows _ _ _ rfl fr ir⟩
    · exact th_tup.mpr ⟨by simp, rows _ _ _ rfl rfl il⟩
    · refine th_tup.mpr ⟨by simp, fun d hd => ?_⟩
      simp only [List.mem_cons, List.not_mem_nil, or_false] at hd
      rcases hd with rfl | rfl | rfl | rfl
      · exact ir
      · exact fr
      · rfl
      · exact i0
    · refine th_tup.mpr ⟨by simp, fun d hd => ?_⟩
      simp only [List.mem_cons, List.not_mem_nil, or_false] at hd
      rcases hd with rfl | rfl
      · exact il
      · rfl⟩
  have cut : cutD [L3.D.int x.late, .bl x.back, .bl x.over] none (some 2) = [.int x.late, .bl x.back] := rfl
  unfold Ring.d wishD at key ⊢
  simp only [blaw_s23, fListc, wRevT, cut, List.reverse_cons, List.reverse_nil, sSeq, sSet, sIf, sRet, sDrop, sNil, sRaise, sAsg, sPar2, sPar3, gSet, gTupD, gsCons, gsNil, gSub, wVar, wC, wOp, wB, wTup, wFz, wSt, fLst, fCat, zNil, zCons, wAnd, wOr, wNot, wIf, wTst, uAnd, uOr, uNot, tstOp, wLeLe, uLtLt, wNeg, oSub, oMul, oDiv, oMod, oPow, oLt, oLe, oGt, oGe, oCmp, oAbs, wIsi, wCall, wIsN, uIsN, startD, lenD, viewL, List.map_cons, List.map_nil, List.length_cons, List.length_nil, List.replicate, List.cons_append, List.nil_append, List.getElem?_cons_zero, List.getElem?_cons_succ, List.set_cons_zero, List.set_cons_succ, Nat.add_sub_cancel, Nat.sub_self, Nat.zero_add, Nat.reduceAdd, Nat.reduceSub, if_true, if_false, true_and, and_true, Bool.false_eq_true, reduceIte, ↓reduceIte, min_ii, max_ii, add_ii, add_tt, add_ss, add_ll, len_tup, len_lst, len_scr, len_str, int_int, int_bl, tup_lst, tup_tup, see_non, see_bl, see_int, see_str, see_tup, see_lst, see_dic, see_adr, see_scr, see_kup, ty_non, ty_bl, ty_int, ty_str, ty_tup, ty_lst, ty_kup, reduceCtorEq, nn_non, nn_bl, nn_int, nn_str, nn_tup, nn_lst, nn_dic, wFrz, wSl, oSome, oNone, ixT0, ixT1, ixT2, ixT3, ixL0, ixL1, ixL2, ixL3, eqII, neII, eqBB, neBB, eqPP, nePP, sz0, sz1, sz2, sz3, sz4, sz5, sz6, sz7, sz8, sz9, sz10, sz12, sz1b, sz2b, sz3b, sz4b, Option.bind_some, Bool.not_true, Bool.not_false, decide_eq_true_eq, beq_iff_eq, Bool.not_eq_true', beq_eq_false_iff_ne, ne_eq, kII, kIB, kIT, kIS, kIL, kBI, kBB, kBT, kBS, kBL, kSI, kSB, kST, kSS, kSL, kNI, kNB, kNT, kNS, kNL, kTI, kTB, kTT, kTS, kTL, kLI, kLB, kLT, kLS, kLL]
  exact key
theorem w21_ok {ns : List Int} {k : Nat} (hk : k ≤ 100) {x2 x3 x4 x5 x6 x7 x8 x9 x10 x11 x12 x13 x14 x15 x16 x17 : Option L3.D} (h : ∀ (i : Nat) M', Crank M' i → D.nx [some (.scr ns), some (.int k), some (.ref i), x3, x4, x5, x6, x7, x8, x9, x10, x11, x12, x13, x14, x15, x16, x17] M') : blaw_s21 [some (.scr ns), some (.int k), x2, x3, x4, x5, x6, x7, x8, x9, x10, x11, x12, x13, x14, x15, x16, x17] M D E := by
  simp only [blaw_s21, sSeq, sSet, sIf, sRet, sDrop, sNil, sRaise, sAsg, sPar2, sPar3, gSet, gTupD, gsCons, gsNil, gSub, wVar, wC, wOp, wB, wTup, wFz, wSt, fLst, fCat, zNil, zCons, wAnd, wOr, wNot, wIf, wTst, uAnd, uOr, uNot, tstOp, wLeLe, uLtLt, wNeg, oSub, oMul, oDiv, oMod, oPow, oLt, oLe, oGt, oGe, oCmp, oAbs, wIsi, wCall, wIsN, uIsN, startD, lenD, viewL, List.map_cons, List.map_nil, List.length_cons, List.length_nil, List.replicate, List.cons_append, List.nil_append, List.getElem?_cons_zero, List.getElem?_cons_succ, List.set_cons_zero, List.set_cons_succ, Nat.add_sub_cancel, Nat.sub_self, Nat.zero_add, Nat.reduceAdd, Nat.reduceSub, if_true, if_false, true_and, and_true, Bool.false_eq_true, reduceIte, ↓reduceIte, min_ii, max_ii, add_ii, add_tt, add_ss, add_ll, len_tup, len_lst, len_scr, len_str, int_int, int_bl, tup_lst, tup_tup, see_non, see_bl, see_int, see_str, see_tup, see_lst, see_dic, see_adr, see_scr, see_kup, ty_non, ty_bl, ty_int, ty_str, ty_tup, ty_lst, ty_kup, reduceCtorEq, nn_non, nn_bl, nn_int, nn_str, nn_tup, nn_lst, nn_dic, wFrz, wSl, oSome, oNone, ixT0, ixT1, ixT2, ixT3, ixL0, ixL1, ixL2, ixL3, eqII, neII, eqBB, neBB, eqPP, nePP, sz0, sz1, sz2, sz3, sz4, sz5, sz6, sz7, sz8, sz9, sz10, sz12, sz1b, sz2b, sz3b, sz4b, Option.bind_some, Bool.not_true, Bool.not_false, decide_eq_true_eq, beq_iff_eq, Bool.not_eq_true', beq_eq_false_iff_ne, ne_eq, kII, kIB, kIT, kIS, kIL, kBI, kBB, kBT, kBS, kBL, kSI, kSB, kST, kSS, kSL, kNI, kNB, kNT, kNS, kNL, kTI, kTB, kTT, kTS, kTL, kLI, kLB, kLT, kLS, kLL]
  refine crank_ok hk fun M1 _ _ c => ?_
  exact h _ M1 c
theorem w22_ok {x0 x1 x3 x4 x5 x6 x7 x8 x9 x10 x11 x12 x13 x14 x15 x16 x17 : Option L3.D} (c : Crank M i) (h : ∀ (l : Ring) (x : Wish) M', l.ok → WishOk x → Turned i M M' → D.nx [x0, x1, some (.ref i), x3, x4, x5, x6, x7, x8, some l.d, some (wishD x), x11, x12, x13, x14, x15, x16, x17] M') : blaw_s22 [x0, x1, some (.ref i), x3, x4, x5, x6, x7, x8, x9, x10, x11, x12, x13, x14, x15, x16, x17] M D E := by
  simp only [blaw_s22, sSeq, sSet, sIf, sRet, sDrop, sNil, sRaise, sAsg, sPar2, sPar3, gSet, gTupD, gsCons, gsNil, gSub, wVar, wC, wOp, wB, wTup, wFz, wSt, fLst, fCat, zNil, zCons, wAnd, wOr, wNot, wIf, wTst, uAnd, uOr, uNot, tstOp, wLeLe, uLtLt, wNeg, oSub, oMul, oDiv, oMod, oPow, oLt, oLe, oGt, oGe, oCmp, oAbs, wIsi, wCall, wIsN, uIsN, startD, lenD, viewL, List.map_cons, List.map_nil, List.length_cons, List.length_nil, List.replicate, List.cons_append, List.nil_append, List.getElem?_cons_zero, List.getElem?_cons_succ, List.set_cons_zero, List.set_cons_succ, Nat.add_sub_cancel, Nat.sub_self, Nat.zero_add, Nat.reduceAdd, Nat.reduceSub, if_true, if_false, true_and, and_true, Bool.false_eq_true, reduceIte, ↓reduceIte, min_ii, max_ii, add_ii, add_tt, add_ss, add_ll, len_tup, len_lst, len_scr, len_str, int_int, int_bl, tup_lst, tup_tup, see_non, see_bl, see_int, see_str, see_tup, see_lst, see_dic, see_adr, see_scr, see_kup, ty_non, ty_bl, ty_int, ty_str, ty_tup, ty_lst, ty_kup, reduceCtorEq, nn_non, nn_bl, nn_int, nn_str, nn_tup, nn_lst, nn_dic, wFrz, wSl, oSome, oNone, ixT0, ixT1, ixT2, ixT3, ixL0, ixL1, ixL2, ixL3, eqII, neII, eqBB, neBB, eqPP, nePP, sz0, sz1, sz2, sz3, sz4, sz5, sz6, sz7, sz8, sz9, sz10, sz12, sz1b, sz2b, sz3b, sz4b, Option.bind_some, Bool.not_true, Bool.not_false, decide_eq_true_eq, beq_iff_eq, Bool.not_eq_true', beq_eq_false_iff_ne, ne_eq, kII, kIB, kIT, kIS, kIL, kBI, kBB, kBT, kBS, kBL, kSI, kSB, kST, kSS, kSL, kNI, kNB, kNT, kNS, kNL, kTI, kTB, kTT, kTS, kTL, kLI, kLB, kLT, kLS, kLL]
  refine ring_ok c fun l M2 hl t2 => ?_
  try simp only [sSeq, sSet, sIf, sRet, sDrop, sNil, sRaise, sAsg, sPar2, sPar3, gSet, gTupD, gsCons, gsNil, gSub, wVar, wC, wOp, wB, wTup, wFz, wSt, fLst, fCat, zNil, zCons, wAnd, wOr, wNot, wIf, wTst, uAnd, uOr, uNot, tstOp, wLeLe, uLtLt, wNeg, oSub, oMul, oDiv, oMod, oPow, oLt, oLe, oGt, oGe, oCmp, oAbs, wIsi, wCall, wIsN, uIsN, startD, lenD, viewL, List.map_cons, List.map_nil, List.length_cons, List.length_nil, List.replicate, List.cons_append, List.nil_append, List.getElem?_cons_zero, List.getElem?_cons_succ, List.set_cons_zero, List.set_cons_succ, Nat.add_sub_cancel, Nat.sub_self, Nat.zero_add, Nat.reduceAdd, Nat.reduceSub, if_true, if_false, true_and, and_true, Bool.false_eq_true, reduceIte, ↓reduceIte, min_ii, max_ii, add_ii, add_tt, add_ss, add_ll, len_tup, len_lst, len_scr, len_str, int_int, int_bl, tup_lst, tup_tup, see_non, see_bl, see_int, see_str, see_tup, see_lst, see_dic, see_adr, see_scr, see_kup, ty_non, ty_bl, ty_int, ty_str, ty_tup, ty_lst, ty_kup, reduceCtorEq, nn_non, nn_bl, nn_int, nn_str, nn_tup, nn_lst, nn_dic, wFrz, wSl, oSome, oNone, ixT0, ixT1, ixT2, ixT3, ixL0, ixL1, ixL2, ixL3, eqII, neII, eqBB, neBB, eqPP, nePP, sz0, sz1, sz2, sz3, sz4, sz5, sz6, sz7, sz8, sz9, sz10, sz12, sz1b, sz2b, sz3b, sz4b, Option.bind_some, Bool.not_true, Bool.not_false, decide_eq_true_eq, beq_iff_eq, Bool.not_eq_true', beq_eq_false_iff_ne, ne_eq, kII, kIB, kIT, kIS, kIL, kBI, kBB, kBT, kBS, kBL, kSI, kSB, kST, kSS, kSL, kNI, kNB, kNT, kNS, kNL, kTI, kTB, kTT, kTS, kTL, kLI, kLB, kLT, kLS, kLL]
  refine hope_ok t2.1 fun x M3 hx t3 => ?_
  try simp only [sSeq, sSet, sIf, sRet, sDrop, sNil, sRaise, sAsg, sPar2, sPar3, gSet, gTupD, gsCons, gsNil, gSub, wVar, wC, wOp, wB, wTup, wFz, wSt, fLst, fCat, zNil, zCons, wAnd, wOr, wNot, wIf, wTst, uAnd, uOr, uNot, tstOp, wLeLe, uLtLt, wNeg, oSub, oMul, oDiv, oMod, oPow, oLt, oLe, oGt, oGe, oCmp, oAbs, wIsi, wCall, wIsN, uIsN, startD, lenD, viewL, List.map_cons, List.map_nil, List.length_cons, List.length_nil, List.replicate, List.cons_append, List.nil_append, List.getElem?_cons_zero, List.getElem?_cons_succ, List.set_cons_zero, List.set_cons_succ, Nat.add_sub_cancel, Nat.sub_self, Nat.zero_add, Nat.reduceAdd, Nat.reduceSub, if_true, if_false, true_and, and_true, Bool.false_eq_true, reduceIte, ↓reduceIte, min_ii, max_ii, add_ii, add_tt, add_ss, add_ll, len_tup, len_lst, len_scr, len_str, int_int, int_bl, tup_lst, tup_tup, see_non, see_bl, see_int, see_str, see_tup, see_lst, see_dic, see_adr, see_scr, see_kup, ty_non, ty_bl, ty_int, ty_str, ty_tup, ty_lst, ty_kup, reduceCtorEq, nn_non, nn_bl, nn_int, nn_str, nn_tup, nn_lst, nn_dic, wFrz, wSl, oSome, oNone, ixT0, ixT1, ixT2, ixT3, ixL0, ixL1, ixL2, ixL3, eqII, neII, eqBB, neBB, eqPP, nePP, sz0, sz1, sz2, sz3, sz4, sz5, sz6, sz7, sz8, sz9, sz10, sz12, sz1b, sz2b, sz3b, sz4b, Option.bind_some, Bool.not_true, Bool.not_false, decide_eq_true_eq, beq_iff_eq, Bool.not_eq_true', beq_eq_false_iff_ne, ne_eq, kII, kIB, kIT, kIS, kIL, kBI, kBB, kBT, kBS, kBL, kSI, kSB, kST, kSS, kSL, kNI, kNB, kNT, kNS, kNL, kTI, kTB, kTT, kTS, kTL, kLI, kLB, kLT, kLS, kLL]
  exact h l x M3 hl hx (t2.trans t3)
theorem cell_ok {ns : List Int} {k : Nat} (hk : k ≤ 100) {x2 x3 x4 x5 x6 x7 x8 x9 x10 x11 x12 x13 x14 x15 x16 x17 : Option L3.D} (h : ∀ y2 y3 y4 y5 y6 y7 y8 y9 y10 y11 y12 y13 y14 y15 y16 y17 M', D.nx [some (.scr ns), some (.int k), y2, y3, y4, y5, y6, y7, y8, y9, y10, y11, y12, y13, y14, y15, y16, y17] M') :
    (sSeq blaw_s21 (sSeq blaw_s22 (sSeq blaw_s23 (sSeq blaw_s24 (sSeq blaw_s25 (sSeq (blaw_s26 af) (sSeq blaw_s27 (sSeq blaw_s28 (sSeq blaw_s29 (sSeq blaw_s30 blaw_s31)))))))))) [some (.scr ns), some (.int k), x2, x3, x4, x5, x6, x7, x8, x9, x10, x11, x12, x13, x14, x15, x16, x17] M D E := by
  unfold sSeq
  refine w21_ok hk fun i M1 c => ?_
  dsimp only
  refine w22_ok c fun l x M3 hl hx t3 => ?_
  dsimp only
  refine w23_ok hl hx fun ds hds => ?_
  dsimp only
  refine w24_ok (n := 0) hl hx t3.1 hds fun ds' z4 z11 M4 hds' t4 => ?_
  dsimp only
  refine w25_ok hds' fun ds2 z5 hds2 => ?_
  dsimp only
  refine w26_ok t4.1 hds2 fun z4 z12 z14 M5 t5 => ?_
  dsimp only
  refine w27_ok fun z6 z13 z15 z16 z17 => ?_
  dsimp only
  refine w28_ok hl fun z7 => ?_
  dsimp only
  refine w29_ok hl ?_
  dsimp only
  refine w30_ok t5.1 fun n M6 n1 n2 t6 => ?_
  dsimp only
  exact w31_ok hl n1 n2 (h _ _ _ _ _ _ _ _ _ _ _ _ _ _ _ _ M6)
theorem last_ok {x0 x1 x2 x3 x4 x5 x6 x7 x8 x9 x10 x11 x12 x13 x14 x15 x16 x17 : Option L3.D} (h : D.rt (.bl true) M) : blaw_s33 [x0, x1, x2, x3, x4, x5, x6, x7, x8, x9, x10, x11, x12, x13, x14, x15, x16, x17] M D E := by
  simp only [blaw_s33, sSeq, sSet, sIf, sRet, sDrop, sNil, sRaise, sAsg, sPar2, sPar3, gSet, gTupD, gsCons, gsNil, gSub, wVar, wC, wOp, wB, wTup, wFz, wSt, fLst, fCat, zNil, zCons, wAnd, wOr, wNot, wIf, wTst, uAnd, uOr, uNot, tstOp, wLeLe, uLtLt, wNeg, oSub, oMul, oDiv, oMod, oPow, oLt, oLe, oGt, oGe, oCmp, oAbs, wIsi, wCall, wIsN, uIsN, startD, lenD, viewL, List.map_cons, List.map_nil, List.length_cons, List.length_nil, List.replicate, List.cons_append, List.nil_append, List.getElem?_cons_zero, List.getElem?_cons_succ, List.set_cons_zero, List.set_cons_succ, Nat.add_sub_cancel, Nat.sub_self, Nat.zero_add, Nat.reduceAdd, Nat.reduceSub, if_true, if_false, true_and, and_true, Bool.false_eq_true, reduceIte, ↓reduceIte, min_ii, max_ii, add_ii, add_tt, add_ss, add_ll, len_tup, len_lst, len_scr, len_str, int_int, int_bl, tup_lst, tup_tup, see_non, see_bl, see_int, see_str, see_tup, see_lst, see_dic, see_adr, see_scr, see_kup, ty_non, ty_bl, ty_int, ty_str, ty_tup, ty_lst, ty_kup, reduceCtorEq, nn_non, nn_bl, nn_int, nn_str, nn_tup, nn_lst, nn_dic, wFrz, wSl, oSome, oNone, ixT0, ixT1, ixT2, ixT3, ixL0, ixL1, ixL2, ixL3, eqII, neII, eqBB, neBB, eqPP, nePP, sz0, sz1, sz2, sz3, sz4, sz5, sz6, sz7, sz8, sz9, sz10, sz12, sz1b, sz2b, sz3b, sz4b, Option.bind_some, Bool.not_true, Bool.not_false, decide_eq_true_eq, beq_iff_eq, Bool.not_eq_true', beq_eq_false_iff_ne, ne_eq, kII, kIB, kIT, kIS, kIL, kBI, kBB, kBT, kBS, kBL, kSI, kSB, kST, kSS, kSL, kNI, kNB, kNT, kNS, kNL, kTI, kTB, kTT, kTS, kTL, kLI, kLB, kLT, kLS, kLL]
  exact h
end
end L3.K01
set_option maxRecDepth 100000
set_option maxHeartbeats 1000000
/-! Q01: the law holds. -/
namespace L3.K01
open PySem PySem.Spec PyProof.Rows L2 L3 Gl

theorem law_true (af : Str → Addr) (ns : List Int) (hl : ns.length ≤ 63) (hb : ∀ z ∈ ns, Builtin.Int.intBits z ≤ 1048576) : C_law af [.scr ns] [] (fun d _ => d = .bl true) noE := by
  have last : ∀ (M : Mem) (D : EndsD) (x0 x1 x2 x3 x4 x5 x6 x7 x8 x9 x10 x11 x12 x13 x14 x15 x16 x17 : Option L3.D), (∀ M', D.rt (.bl true) M') → (blaw_s33) [x0, x1, x2, x3, x4, x5, x6, x7, x8, x9, x10, x11, x12, x13, x14, x15, x16, x17] M D noE := fun M D x0 x1 x2 x3 x4 x5 x6 x7 x8 x9 x10 x11 x12 x13 x14 x15 x16 x17 h => last_ok (h M)
  rw [Cq_law]
  have go : ∀ (D : EndsD), (∀ M (x0 x1 x2 x3 x4 x5 x6 x7 x8 x9 x10 x11 x12 x13 x14 x15 x16 x17 : Option L3.D), D.nx [x0, x1, x2, x3, x4, x5, x6, x7, x8, x9, x10, x11, x12, x13, x14, x15, x16, x17] M) → ∀ (items : List L3.D) (j : Nat) (M : Mem) (x1 x2 x3 x4 x5 x6 x7 x8 x9 x10 x11 x12 x13 x14 x15 x16 x17 : Option L3.D), (∀ (a : Nat) d, items[a]? = some d → d = .int ((j + a : Nat) : Int)) → j + items.length ≤ 100 →
      sTurns (gSet 1) (sSeq blaw_s21 (sSeq blaw_s22 (sSeq blaw_s23 (sSeq blaw_s24 (sSeq blaw_s25 (sSeq (blaw_s26 af) (sSeq blaw_s27 (sSeq blaw_s28 (sSeq blaw_s29 (sSeq blaw_s30 blaw_s31)))))))))) items [some (.scr ns), x1, x2, x3, x4, x5, x6, x7, x8, x9, x10, x11, x12, x13, x14, x15, x16, x17] M D noE := by
    intro D hd items
    induction items with
    | nil => intros; exact turns_nil (hd _ _ _ _ _ _ _ _ _ _ _ _ _ _ _ _ _ _ _)
    | cons d items ih =>
      intros j M x1 x2 x3 x4 x5 x6 x7 x8 x9 x10 x11 x12 x13 x14 x15 x16 x17 hi hj
      have e : d = .int (j : Int) := hi 0 d rfl
      rw [e]
      refine turns_cons ?_
      refine cell_ok (by simp at hj; omega) fun y2 y3 y4 y5 y6 y7 y8 y9 y10 y11 y12 y13 y14 y15 y16 y17 M' => ?_
      refine ih (j + 1) M' _ _ _ _ _ _ _ _ _ _ _ _ _ _ _ _ _ (fun a d' hd' => ?_) (by simp at hj; omega)
      rw [hi (a + 1) d' (by simpa using hd')]
      congr 1
      omega
  have hs : startD ["_law_script", "_law_k", "_law_crank_here", "_law_things", "_law_thing", "_law_amount", "_law_rows", "_law_bad", "_law_size", "_law_ring_here", "_law_hope_here", "_law_first_so", "_law_good", "_law_fold", "_law_call_so", "_law_turned_so", "_law_number", "_law_one"] [D.scr ns] = [some (.scr ns), none, none, none, none, none, none, none, none, none, none, none, none, none, none, none, none, none] := rfl
  dsimp only
  rw [hs]
  have hlaw : blaw af = sSeq (blaw_s32 af) (blaw_s33) := rfl
  rw [hlaw]
  generalize (blaw_s33) = t1 at last
  show (blaw_s32 af) _ [] _ noE
  generalize hbody : (sSeq blaw_s21 (sSeq blaw_s22 (sSeq blaw_s23 (sSeq blaw_s24 (sSeq blaw_s25 (sSeq (blaw_s26 af) (sSeq blaw_s27 (sSeq blaw_s28 (sSeq blaw_s29 (sSeq blaw_s30 blaw_s31)))))))))) = body at go
  simp only [blaw_s32, hbody, sFor, iRange1, sSeq, sSet, sIf, sRet, sDrop, sNil, sRaise, sAsg, sPar2, sPar3, gSet, gTupD, gsCons, gsNil, gSub, wVar, wC, wOp, wB, wTup, wFz, wSt, fLst, fCat, zNil, zCons, wAnd, wOr, wNot, wIf, wTst, uAnd, uOr, uNot, tstOp, wLeLe, uLtLt, wNeg, oSub, oMul, oDiv, oMod, oPow, oLt, oLe, oGt, oGe, oCmp, oAbs, wIsi, wCall, wIsN, uIsN, startD, lenD, viewL, List.map_cons, List.map_nil, List.length_cons, List.length_nil, List.replicate, List.cons_append, List.nil_append, List.getElem?_cons_zero, List.getElem?_cons_succ, List.set_cons_zero, List.set_cons_succ, Nat.add_sub_cancel, Nat.sub_self, Nat.zero_add, Nat.reduceAdd, Nat.reduceSub, if_true, if_false, true_and, and_true, Bool.false_eq_true, reduceIte, ↓reduceIte, min_ii, max_ii, add_ii, add_tt, add_ss, add_ll, len_tup, len_lst, len_scr, len_str, int_int, int_bl, tup_lst, tup_tup, see_non, see_bl, see_int, see_str, see_tup, see_lst, see_dic, see_adr, see_scr, see_kup, ty_non, ty_bl, ty_int, ty_str, ty_tup, ty_lst, ty_kup, reduceCtorEq, nn_non, nn_bl, nn_int, nn_str, nn_tup, nn_lst, nn_dic, wFrz, wSl, oSome, oNone, ixT0, ixT1, ixT2, ixT3, ixL0, ixL1, ixL2, ixL3, eqII, neII, eqBB, neBB, eqPP, nePP, sz0, sz1, sz2, sz3, sz4, sz5, sz6, sz7, sz8, sz9, sz10, sz12, sz1b, sz2b, sz3b, sz4b, Option.bind_some, Bool.not_true, Bool.not_false, decide_eq_true_eq, beq_iff_eq, Bool.not_eq_true', beq_eq_false_iff_ne, ne_eq, kII, kIB, kIT, kIS, kIL, kBI, kBB, kBT, kBS, kBL, kSI, kSB, kST, kSS, kSL, kNI, kNB, kNT, kNS, kNL, kTI, kTB, kTT, kTS, kTL, kLI, kLB, kLT, kLS, kLL]
  generalize hz : (if (if (ns.length : Int) < 10 then (ns.length : Int) else 10) > 1 then if (ns.length : Int) < 10 then (ns.length : Int) else 10 else 1) = z
  have bz : 0 ≤ z ∧ z ≤ 63 := by
    rw [← hz]
    split <;> split <;> omega
  refine ⟨by omega, by omega, go _ (fun M x0 x1 x2 x3 x4 x5 x6 x7 x8 x9 x10 x11 x12 x13 x14 x15 x16 x17 => last M _ x0 x1 x2 x3 x4 x5 x6 x7 x8 x9 x10 x11 x12 x13 x14 x15 x16 x17 fun _ => rfl) (rangeD 0 z.toNat) 0 [] _ _ _ _ _ _ _ _ _ _ _ _ _ _ _ _ _ (fun a d hd => ?_) (by unfold rangeD; simp; omega)⟩
  obtain ⟨_, e⟩ := rangeD_at hd
  rw [e]
  congr 1
end L3.K01
set_option maxRecDepth 100000
namespace L3.K01
open PySem PySem.Spec PyProof.Rows L2 L3
theorem txt_mk {K : PySem.W.Frag} {h : Heap} {mg : Str → Option Value} (X : K.In h) (G : h.Ns mainGlobals mg)
    (nn : L3.noneB K ["ValueError", "abs", "bool", "int", "isinstance", "len", "list", "max", "min", "range", "str", "tuple", "zip"] = true)
    (l_MOST_LATE : L3.ciB K "MOST_LATE" 12 = true)
    (l_MOST_NUMBER : ∃ t, mg "MOST_NUMBER" = some (.int 1000000000000000000000000000000 t))
    (l_MOST_ROWS : L3.ciB K "MOST_ROWS" 4 = true)
    (l_InvalidLoop : L3.rsB K "InvalidLoop" = true)
    (l_InvalidNumber : L3.rsB K "InvalidNumber" = true)
    (l_FOLDS : L3.tupB K "FOLDS" [1, 2, 4] = true)
    (l_err : L3.errNames.all (L3.errB K) = true)
    (e_is_int : L3.DefAt K mg "is_int" (topS 16) ["value", "low", "high"])
    (e_is_loop : L3.DefAt K mg "is_loop" (topS 17) ["value"])
    (e_is_wish : L3.DefAt K mg "is_wish" (topS 18) ["value"])
    (e_need_loop : L3.DefAt K mg "need_loop" (topS 19) ["loop"])
    (e_need_number : L3.DefAt K mg "need_number" (topS 20) ["number", "low", "high"])
    (e_length : L3.DefAt K mg "length" (topS 21) ["loop", "n"])
    (e_slit : L3.DefAt K mg "slit" (topS 22) ["loop", "number"])
    (e__law_crank : L3.DefAt K mg "_law_crank" (topS 24) ["_law_script", "_law_k"])
    (e__law_spin : L3.DefAt K mg "_law_spin" (topS 25) ["_law_crank_here", "_law_many"])
    (e__law_any : L3.DefAt K mg "_law_any" (topS 26) ["_law_crank_here", "_law_things"])
    (e__law_ring : L3.DefAt K mg "_law_ring" (topS 27) ["_law_crank_here"])
    (e__law_hope : L3.DefAt K mg "_law_hope" (topS 28) ["_law_crank_here"])
    (e__law_is_whole : L3.DefAt K mg "_law_is_whole" (topS 29) ["_law_thing", "_law_low", "_law_high"])
    (e__law_is_ring : L3.DefAt K mg "_law_is_ring" (topS 30) ["_law_thing"])
    (e__law_is_hope : L3.DefAt K mg "_law_is_hope" (topS 31) ["_law_thing"])
    (e__law_stuff : L3.DefAt K mg "_law_stuff" (topS 32) ["_law_crank_here", "_law_deep"])
    (e__law_shaken : L3.DefAt K mg "_law_shaken" (topS 33) ["_law_crank_here", "_law_thing", "_law_deep"])
    (e__law_is_told : L3.DefAt K mg "_law_is_told" (topS 34) ["_law_found", "_law_due"])
    (e__law_kinds : L3.DefAt K mg "_law_kinds" (topS 35) ["_law_e"])
    (e__law_parts : L3.DefAt K mg "_law_parts" (topS 37) ["_law_ring_here", "_law_number"])
    (e__law_call : L3.DefAt K mg "_law_call" (topS 36) ["_law_call_so"]) : Txt K mg where
  g_MOST_LATE := L3.ciB_of X G l_MOST_LATE
  g_MOST_NUMBER := l_MOST_NUMBER
  g_MOST_ROWS := L3.ciB_of X G l_MOST_ROWS
  x_InvalidLoop := L3.rsB_of X G l_InvalidLoop
  x_InvalidNumber := L3.rsB_of X G l_InvalidNumber
  g_FOLDS := L3.tupB_of X G l_FOLDS
  n_ValueError := L3.none_of X G nn "ValueError" (by decide)
  n_abs := L3.none_of X G nn "abs" (by decide)
  n_bool := L3.none_of X G nn "bool" (by decide)
  n_int := L3.none_of X G nn "int" (by decide)
  n_isinstance := L3.none_of X G nn "isinstance" (by decide)
  n_len := L3.none_of X G nn "len" (by decide)
  n_list := L3.none_of X G nn "list" (by decide)
  n_max := L3.none_of X G nn "max" (by decide)
  n_min := L3.none_of X G nn "min" (by decide)
  n_range := L3.none_of X G nn "range" (by decide)
  n_str := L3.none_of X G nn "str" (by decide)
  n_tuple := L3.none_of X G nn "tuple" (by decide)
  n_zip := L3.none_of X G nn "zip" (by decide)
  err := L3.errs_of X G l_err
  d_is_int := e_is_int
  d_is_loop := e_is_loop
  d_is_wish := e_is_wish
  d_need_loop := e_need_loop
  d_need_number := e_need_number
  d_length := e_length
  d_slit := e_slit
  d__law_crank := e__law_crank
  d__law_spin := e__law_spin
  d__law_any := e__law_any
  d__law_ring := e__law_ring
  d__law_hope := e__law_hope
  d__law_is_whole := e__law_is_whole
  d__law_is_ring := e__law_is_ring
  d__law_is_hope := e__law_is_hope
  d__law_stuff := e__law_stuff
  d__law_shaken := e__law_shaken
  d__law_is_told := e__law_is_told
  d__law_kinds := e__law_kinds
  d__law_parts := e__law_parts
  d__law_call := e__law_call
end L3.K01
open PySem PySem.W PyProof.Rows
set_option maxHeartbeats 0 in
theorem PySem.Challenge.cw_glueloops_k01_loops_wishes_and_slits_holds : PySem.Challenge.rw_glueloops_k01_loops_wishes_and_slits.Holds := by
  w_on; o_law; k_head; (case hw => w_witness2)
  k_fill
  refine L3.walk_end (l := PySem.Challenge.rw_glueloops_k01_loops_wishes_and_slits) (n := 63) (k := 13) (x := "_law_script") (CX := fun w => L2N.CX PySem.Challenge.rw_glueloops_k01_loops_wishes_and_slits.prog w) rfl (by decide) rfl ⟨rfl, by decide, by decide⟩ ?F (fun w H s e s' z => L3.cx_false z)
  case F =>
    intro w mg fa h Y X9 G hmg
    have KX := km_in_of Y
    have hT := km_tabs_of Y
    have T := L3.K01.txt_mk KX G
      (by kernel_rfl)
      (by kernel_rfl)
      (L3.loose_int X9 (by first | exact List.mem_cons_self | exact List.mem_cons_of_mem _ List.mem_cons_self | exact List.mem_cons_of_mem _ (List.mem_cons_of_mem _ List.mem_cons_self) | simp))
      (by kernel_rfl)
      (by kernel_rfl)
      (by kernel_rfl)
      (by kernel_rfl)
      (by kernel_rfl)
      (by refine' L3.defAt_mk KX G ?a ?l ?c ?k ?b; (case a => k_is); (case l => k_is); (case c => k_is); (case k => k_is); (case b => exact fun _ _ _ _ _ _ us hl => match us, hl with | [_, _, _], _ => rfl))
      (by refine' L3.defAt_mk KX G ?a ?l ?c ?k ?b; (case a => k_is); (case l => k_is); (case c => k_is); (case k => k_is); (case b => exact fun _ _ _ _ _ _ us hl => match us, hl with | [_], _ => rfl))
      (by refine' L3.defAt_mk KX G ?a ?l ?c ?k ?b; (case a => k_is); (case l => k_is); (case c => k_is); (case k => k_is); (case b => exact fun _ _ _ _ _ _ us hl => match us, hl with | [_], _ => rfl))
      (by refine' L3.defAt_mk KX G ?a ?l ?c ?k ?b; (case a => k_is); (case l => k_is); (case c => k_is); (case k => k_is); (case b => exact fun _ _ _ _ _ _ us hl => match us, hl with | [_], _ => rfl))
      (by refine' L3.defAt_mk KX G ?a ?l ?c ?k ?b; (case a => k_is); (case l => k_is); (case c => k_is); (case k => k_is); (case b => exact fun _ _ _ _ _ _ us hl => match us, hl with | [_, _, _], _ => rfl))
      (by refine' L3.defAt_mk KX G ?a ?l ?c ?k ?b; (case a => k_is); (case l => k_is); (case c => k_is); (case k => k_is); (case b => exact fun _ _ _ _ _ _ us hl => match us, hl with | [_, _], _ => rfl))
      (by refine' L3.defAt_mk KX G ?a ?l ?c ?k ?b; (case a => k_is); (case l => k_is); (case c => k_is); (case k => k_is); (case b => exact fun _ _ _ _ _ _ us hl => match us, hl with | [_, _], _ => rfl))
      (by refine' L3.defAt_mk KX G ?a ?l ?c ?k ?b; (case a => k_is); (case l => k_is); (case c => k_is); (case k => k_is); (case b => exact fun _ _ _ _ _ _ us hl => match us, hl with | [_, _], _ => rfl))
      (by refine' L3.defAt_mk KX G ?a ?l ?c ?k ?b; (case a => k_is); (case l => k_is); (case c => k_is); (case k => k_is); (case b => exact fun _ _ _ _ _ _ us hl => match us, hl with | [_, _], _ => rfl))
      (by refine' L3.defAt_mk KX G ?a ?l ?c ?k ?b; (case a => k_is); (case l => k_is); (case c => k_is); (case k => k_is); (case b => exact fun _ _ _ _ _ _ us hl => match us, hl with | [_, _], _ => rfl))
      (by refine' L3.defAt_mk KX G ?a ?l ?c ?k ?b; (case a => k_is); (case l => k_is); (case c => k_is); (case k => k_is); (case b => exact fun _ _ _ _ _ _ us hl => match us, hl with | [_], _ => rfl))
      (by refine' L3.defAt_mk KX G ?a ?l ?c ?k ?b; (case a => k_is); (case l => k_is); (case c => k_is); (case k => k_is); (case b => exact fun _ _ _ _ _ _ us hl => match us, hl with | [_], _ => rfl))
      (by refine' L3.defAt_mk KX G ?a ?l ?c ?k ?b; (case a => k_is); (case l => k_is); (case c => k_is); (case k => k_is); (case b => exact fun _ _ _ _ _ _ us hl => match us, hl with | [_, _, _], _ => rfl))
      (by refine' L3.defAt_mk KX G ?a ?l ?c ?k ?b; (case a => k_is); (case l => k_is); (case c => k_is); (case k => k_is); (case b => exact fun _ _ _ _ _ _ us hl => match us, hl with | [_], _ => rfl))
      (by refine' L3.defAt_mk KX G ?a ?l ?c ?k ?b; (case a => k_is); (case l => k_is); (case c => k_is); (case k => k_is); (case b => exact fun _ _ _ _ _ _ us hl => match us, hl with | [_], _ => rfl))
      (by refine' L3.defAt_mk KX G ?a ?l ?c ?k ?b; (case a => k_is); (case l => k_is); (case c => k_is); (case k => k_is); (case b => exact fun _ _ _ _ _ _ us hl => match us, hl with | [_, _], _ => rfl))
      (by refine' L3.defAt_mk KX G ?a ?l ?c ?k ?b; (case a => k_is); (case l => k_is); (case c => k_is); (case k => k_is); (case b => exact fun _ _ _ _ _ _ us hl => match us, hl with | [_, _, _], _ => rfl))
      (by refine' L3.defAt_mk KX G ?a ?l ?c ?k ?b; (case a => k_is); (case l => k_is); (case c => k_is); (case k => k_is); (case b => exact fun _ _ _ _ _ _ us hl => match us, hl with | [_, _], _ => rfl))
      (by refine' L3.defAt_mk KX G ?a ?l ?c ?k ?b; (case a => k_is); (case l => k_is); (case c => k_is); (case k => k_is); (case b => exact fun _ _ _ _ _ _ us hl => match us, hl with | [_], _ => rfl))
      (by refine' L3.defAt_mk KX G ?a ?l ?c ?k ?b; (case a => k_is); (case l => k_is); (case c => k_is); (case k => k_is); (case b => exact fun _ _ _ _ _ _ us hl => match us, hl with | [_, _], _ => rfl))
      (by refine' L3.defAt_mk KX G ?a ?l ?c ?k ?b; (case a => k_is); (case l => k_is); (case c => k_is); (case k => k_is); (case b => exact fun _ _ _ _ _ _ us hl => match us, hl with | [_], _ => rfl))
    refine ⟨_, KX, ?_⟩
    have FC : ∀ base : Heap, L3.CallOk PySem.Challenge.rw_glueloops_k01_loops_wishes_and_slits.prog w _ mg base := fun base => L3.K01.call_ok T
    have F_is_int := fun base : Heap => L3.K01.dv_is_int (P := PySem.Challenge.rw_glueloops_k01_loops_wishes_and_slits.prog) (w := w) (base := base) T
    have F_is_loop := fun base : Heap => L3.K01.dv_is_loop (P := PySem.Challenge.rw_glueloops_k01_loops_wishes_and_slits.prog) (w := w) (base := base) T (F_is_int base)
    have F_is_wish := fun base : Heap => L3.K01.dv_is_wish (P := PySem.Challenge.rw_glueloops_k01_loops_wishes_and_slits.prog) (w := w) (base := base) T (F_is_int base)
    have F_need_loop := fun base : Heap => L3.K01.dv_need_loop (P := PySem.Challenge.rw_glueloops_k01_loops_wishes_and_slits.prog) (w := w) (base := base) T (F_is_loop base)
    have F_need_number := fun base : Heap => L3.K01.dv_need_number (P := PySem.Challenge.rw_glueloops_k01_loops_wishes_and_slits.prog) (w := w) (base := base) T (F_is_int base)
    have F_length := fun base : Heap => L3.K01.dv_length (P := PySem.Challenge.rw_glueloops_k01_loops_wishes_and_slits.prog) (w := w) (base := base) T (F_need_loop base) (F_need_number base)
    have F_slit := fun base : Heap => L3.K01.dv_slit (P := PySem.Challenge.rw_glueloops_k01_loops_wishes_and_slits.prog) (w := w) (base := base) T (F_need_loop base) (F_need_number base)
    have F__law_crank := fun base : Heap => L3.K01.dv__law_crank (P := PySem.Challenge.rw_glueloops_k01_loops_wishes_and_slits.prog) (w := w) (base := base) T
    have F__law_spin := fun base : Heap => L3.K01.dv__law_spin (P := PySem.Challenge.rw_glueloops_k01_loops_wishes_and_slits.prog) (w := w) (base := base) T
    have F__law_any := fun base : Heap => L3.K01.dv__law_any (P := PySem.Challenge.rw_glueloops_k01_loops_wishes_and_slits.prog) (w := w) (base := base) T (F__law_spin base)
    have F__law_ring := fun base : Heap => L3.K01.dv__law_ring (P := PySem.Challenge.rw_glueloops_k01_loops_wishes_and_slits.prog) (w := w) (base := base) T (F__law_spin base) (F__law_any base)
    have F__law_hope := fun base : Heap => L3.K01.dv__law_hope (P := PySem.Challenge.rw_glueloops_k01_loops_wishes_and_slits.prog) (w := w) (base := base) T (F__law_spin base) (F__law_any base)
    have F__law_is_whole := fun base : Heap => L3.K01.dv__law_is_whole (P := PySem.Challenge.rw_glueloops_k01_loops_wishes_and_slits.prog) (w := w) (base := base) T
    have F__law_is_ring := fun base : Heap => L3.K01.dv__law_is_ring (P := PySem.Challenge.rw_glueloops_k01_loops_wishes_and_slits.prog) (w := w) (base := base) T (F__law_is_whole base)
    have F__law_is_hope := fun base : Heap => L3.K01.dv__law_is_hope (P := PySem.Challenge.rw_glueloops_k01_loops_wishes_and_slits.prog) (w := w) (base := base) T (F__law_is_whole base)
    have F__law_stuff := fun base : Heap => L3.K01.dv__law_stuff (P := PySem.Challenge.rw_glueloops_k01_loops_wishes_and_slits.prog) (w := w) (base := base) T (F__law_spin base) (F__law_any base)
    have F__law_shaken := fun base : Heap => L3.K01.dv__law_shaken (P := PySem.Challenge.rw_glueloops_k01_loops_wishes_and_slits.prog) (w := w) (base := base) T (F__law_spin base) (F__law_stuff base) (F__law_any base)
    have F__law_is_told := fun base : Heap => L3.K01.dv__law_is_told (P := PySem.Challenge.rw_glueloops_k01_loops_wishes_and_slits.prog) (w := w) (base := base) T
    have F__law_parts := fun base : Heap => L3.K01.dv__law_parts (P := PySem.Challenge.rw_glueloops_k01_loops_wishes_and_slits.prog) (w := w) (base := base) T
    refine' L3.lawAt_lam (st := L3.K01.topS 38) (N := ["_law_script", "_law_k", "_law_crank_here", "_law_things", "_law_thing", "_law_amount", "_law_rows", "_law_bad", "_law_size", "_law_ring_here", "_law_hope_here", "_law_first_so", "_law_good", "_law_fold", "_law_call_so", "_law_turned_so", "_law_number", "_law_one"]) (k := 12) (n := 63) (ct := (L3.K01.C_law (L3.addrOf mg))) (wb := (L3.K01.blaw (L3.addrOf mg))) (tn := "law.<locals>.<lambda>") KX G hmg hT L3.K01.S_law ?a ?l ?c ?nK ?cH ?b (fun base TB A outer s H E B hB hr => L3.K01.dv_law T (FC base) (F__law_crank base) (F__law_hope base) (F__law_ring base) (F__law_shaken base) (F__law_stuff base) (F__law_is_ring base) (F_is_loop base) (F__law_is_told base) (F__law_is_hope base) (F_is_wish base) (F_length base) (F_slit base) (F__law_parts base) (F__law_spin base) TB hB hr) (fun _ _ _ _ _ h => by rw [L3.K01.Cq_law] at h; exact h) (L3.K01.law_true (L3.addrOf mg))
    (case a => k_is); (case l => k_is); (case c => k_is); (case nK => kernel_rfl); (case cH => kernel_rfl)
    (case b => exact fun _ _ _ _ _ _ us hl => match us, hl with | [_], _ => rfl)
