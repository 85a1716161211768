import PyProof.Rows.All
import Wide.All
import OpenK.AllK
import Wide.FinOn
import HandS.ForMost
import HandS.ForExc
import HandS.CallSlots
import HandS.Wide
import HandS.Deep
import HandS.Zip
import HandS.Strs
import HandS.TupSets
import HandS.TupAny
import HandS.TupLe
import HandS.IsInst
import KE.GoesEnum
import KE.GoesZip
import KE.GoesMore
import HandS.Conv
import HandS.SetFor
import HandS.ExcIs
import HandS.TryMany
import HandS.Style
import KE.DataFind
import HandS.More
import KE.SortData
import HandS.Dict
import PySem.Challenge.RW_matchmargins_k20_whole_suspects
set_option Elab.async false
set_option linter.all false
set_option maxRecDepth 100000
set_option maxHeartbeats 4000000
/-! DL: data-level readings over HandS. -/
namespace DL
open PySem PySem.Spec PyProof.Rows L2

abbrev D := PyData
abbrev St := L2.St
/-- results: stuck | an exception of the class named | a value -/
abbrev R (α : Type) := Option (Except Str α)
abbrev ok {α : Type} (a : α) : R α := some (.ok a)
abbrev er {α : Type} (n : Str) : R α := some (.error n)
def bnd {α β : Type} (x : R α) (f : α → R β) : R β := match x with
  | none => none
  | some (.error c) => some (.error c)
  | some (.ok a) => f a
@[simp] theorem bnd_ok {α β : Type} (a : α) (f : α → R β) : bnd (some (.ok a)) f = f a := rfl
@[simp] theorem bnd_er {α β : Type} (c : Str) (f : α → R β) : bnd (some (.error c)) f = some (.error c) := rfl
@[simp] theorem bnd_no {α β : Type} (f : α → R β) : bnd none f = none := rfl
theorem bnd_some {α β : Type} {x : R α} {f : α → R β} {r : Except Str β} (h : bnd x f = some r) : (∃ c, x = some (.error c) ∧ r = .error c) ∨ ∃ a, x = some (.ok a) ∧ f a = some r := by
  cases x with
  | none => cases h
  | some y =>
    cases y with
    | error c => cases h; exact .inl ⟨c, rfl, rfl⟩
    | ok a => exact .inr ⟨a, rfl, h⟩
/-- a slot: unknown | frozen data | an own list -/
inductive SV where
  | u | d (x : D) | o (xs : List D) | m (xss : List (List D)) | k (kvs : List (Int × D))
abbrev Ta := List SV

/-! ### data in a heap -/
mutual
inductive Dq (K : PySem.W.Frag) (F : Hp) : V → D → Prop
  | non : Dq K F .non .none
  | bl (b : Bool) : Dq K F (.bl b) (.bool b)
  | int (i : Int) : Dq K F (.int i) (.int i)
  | str (x : Str) : Dq K F (.str x) (.str x)
  | lst {a : Addr} {xs : List V} {ds : List D} : F a = some (.lst xs) → DqAll K F xs ds → Dq K F (.ref a) (.list ds)
  | tup {a : Addr} {xs : List V} {ds : List D} : SqT K F a xs → DqAll K F xs ds → Dq K F (.ref a) (.tuple ds)
  | scr {a : Addr} {ns : List Int} : SqL K F a (ns.map V.int) → Dq K F (.ref a) (.dict [(.none, .list (ns.map .int))])
  | dic {a : Addr} {l : List (Key × V)} {ks : List Int} {ds : List D} : F a = some (.dK l) → l.map (·.1) = ks.map Sum.inl → DqAll K F (l.map (·.2)) ds → ks.length = ds.length → Dq K F (.ref a) (.dict ((.bool true, .none) :: ks.zipWith (fun k d => (.int k, d)) ds))
inductive DqAll (K : PySem.W.Frag) (F : Hp) : List V → List D → Prop
  | nil : DqAll K F [] []
  | cons {v : V} {vs : List V} {d : D} {ds : List D} : Dq K F v d → DqAll K F vs ds → DqAll K F (v :: vs) (d :: ds)
end

theorem sameT {K : PySem.W.Frag} {H H' : Hp} {a : Addr} {xs : List V} (e : Same H H') (h : SqT K H a xs) : SqT K H' a xs := by
  rcases h with (h | ⟨o, h⟩) | h
  · exact .inl (.inl (e _ _ h))
  · exact .inl (.inr ⟨o, e _ _ h⟩)
  · exact .inr h

mutual
theorem Dq.mono {K : PySem.W.Frag} {F F' : Hp} (e : Same F F') : ∀ {v : V} {d : D}, Dq K F v d → Dq K F' v d
  | _, _, .non => .non
  | _, _, .bl b => .bl b
  | _, _, .int i => .int i
  | _, _, .str x => .str x
  | _, _, .lst h a => .lst (e _ _ h) (DqAll.mono e a)
  | _, _, .tup h a => .tup (sameT e h) (DqAll.mono e a)
  | _, _, .scr h => .scr (e.seq h)
  | _, _, .dic h hk a hl => .dic (e _ _ h) hk (DqAll.mono e a) hl
theorem DqAll.mono {K : PySem.W.Frag} {F F' : Hp} (e : Same F F') : ∀ {vs : List V} {ds : List D}, DqAll K F vs ds → DqAll K F' vs ds
  | _, _, .nil => .nil
  | _, _, .cons h t => .cons (Dq.mono e h) (DqAll.mono e t)
end
/- the dict-free data is Dp -/
mutual
theorem Dq.dp {K : PySem.W.Frag} {F : Hp} : ∀ {v : V} {d : D}, Dq K F v d → d.canLay0 = true → Dp K F v d
  | _, _, .non, _ => .non
  | _, _, .bl b, _ => .bl b
  | _, _, .int i, _ => .int i
  | _, _, .str x, _ => .str x
  | _, _, .lst h a, c => .lst (.of h) (DqAll.dp a (by simpa [PyData.canLay0] using c))
  | _, _, .tup h a, c => .tup h (DqAll.dp a (by simpa [PyData.canLay0] using c))
  | _, _, .scr h, c => by simp [PyData.canLay0] at c
  | _, _, .dic _ _ _ _, c => by simp [PyData.canLay0] at c
theorem DqAll.dp {K : PySem.W.Frag} {F : Hp} : ∀ {vs : List V} {ds : List D}, DqAll K F vs ds → PyData.canLayAll0 ds = true → DpAll K F vs ds
  | _, _, .nil, _ => .nil
  | _, _, .cons h t, c => by
    simp only [PyData.canLayAll0, Bool.and_eq_true] at c
    exact .cons (Dq.dp h c.1) (DqAll.dp t c.2)
end
theorem DqAll.length {K : PySem.W.Frag} {F : Hp} : ∀ {vs : List V} {ds : List D}, DqAll K F vs ds → vs.length = ds.length
  | _, _, .nil => rfl
  | _, _, .cons _ t => by simp [DqAll.length t]
theorem DqAll.get {K : PySem.W.Frag} {F : Hp} : ∀ {vs : List V} {ds : List D}, DqAll K F vs ds → ∀ {i : Nat} {d : D}, ds[i]? = some d → ∃ v, vs[i]? = some v ∧ Dq K F v d
  | _, _, .nil, i, d, h => by simp at h
  | _, _, .cons h t, 0, d, e => by simp at e; subst e; exact ⟨_, rfl, h⟩
  | _, _, .cons h t, i + 1, d, e => by
    obtain ⟨v, a, b⟩ := DqAll.get t (i := i) (d := d) (by simpa using e)
    exact ⟨v, by simpa using a, b⟩
theorem DqAll.append {K : PySem.W.Frag} {F : Hp} : ∀ {vs ws : List V} {ds es : List D}, DqAll K F vs ds → DqAll K F ws es → DqAll K F (vs ++ ws) (ds ++ es)
  | _, _, _, _, .nil, s => s
  | _, _, _, _, .cons h t, s => .cons h (DqAll.append t s)
theorem DqAll.take {K : PySem.W.Frag} {F : Hp} : ∀ {vs : List V} {ds : List D} (n : Nat), DqAll K F vs ds → DqAll K F (vs.take n) (ds.take n)
  | _, _, 0, _ => .nil
  | _, _, _ + 1, .nil => .nil
  | _, _, n + 1, .cons h t => .cons h (DqAll.take n t)
theorem DqAll.drop {K : PySem.W.Frag} {F : Hp} : ∀ {vs : List V} {ds : List D} (n : Nat), DqAll K F vs ds → DqAll K F (vs.drop n) (ds.drop n)
  | _, _, 0, h => h
  | _, _, _ + 1, .nil => .nil
  | _, _, n + 1, .cons h t => DqAll.drop n t
theorem DqAll.set {K : PySem.W.Frag} {F : Hp} {v : V} {d : D} (h : Dq K F v d) : ∀ {vs : List V} {ds : List D} (n : Nat), DqAll K F vs ds → DqAll K F (vs.set n v) (ds.set n d)
  | _, _, _, .nil => .nil
  | _, _, 0, .cons _ t => .cons h t
  | _, _, n + 1, .cons a t => .cons a (DqAll.set h n t)
theorem DqAll.eraseIdx {K : PySem.W.Frag} {F : Hp} : ∀ {vs : List V} {ds : List D} (n : Nat), DqAll K F vs ds → DqAll K F (vs.eraseIdx n) (ds.eraseIdx n)
  | _, _, _, .nil => .nil
  | _, _, 0, .cons _ t => t
  | _, _, n + 1, .cons a t => .cons a (DqAll.eraseIdx n t)
theorem DqAll.rep {K : PySem.W.Frag} {F : Hp} {vs : List V} {ds : List D} (h : DqAll K F vs ds) : ∀ k : Nat, DqAll K F (List.replicate k vs).flatten (List.replicate k ds).flatten
  | 0 => .nil
  | k + 1 => by
    rw [List.replicate_succ, List.replicate_succ, List.flatten_cons, List.flatten_cons]
    exact h.append (DqAll.rep h k)
theorem DqAll.reverse {K : PySem.W.Frag} {F : Hp} : ∀ {vs : List V} {ds : List D}, DqAll K F vs ds → DqAll K F vs.reverse ds.reverse
  | _, _, .nil => .nil
  | _, _, .cons h t => by
    rw [List.reverse_cons, List.reverse_cons]
    exact (DqAll.reverse t).append (.cons h .nil)
theorem DqAll.ints {K : PySem.W.Frag} {F : Hp} : ∀ {vs : List V} {ns : List Int}, DqAll K F vs (ns.map .int) → vs = ns.map V.int
  | _, [], h => by cases h; rfl
  | _, n :: ns, h => by
    cases h with
    | cons a t =>
      cases a
      rw [DqAll.ints t]; rfl
theorem DqAll.ofInts {K : PySem.W.Frag} {F : Hp} : ∀ (ns : List Int), DqAll K F (ns.map V.int) (ns.map .int)
  | [] => .nil
  | n :: ns => .cons (.int n) (DqAll.ofInts ns)

/-! ### heaps that grow -/
structure Ext (F H F' H' : Hp) : Prop where
  hh : Same H H'
  ff : Same F F'
  fh : Same F' H'
  fx : ∀ p, H p ≠ none → F' p = F p
theorem Ext.refl {F H : Hp} (h : Same F H) : Ext F H F H := ⟨Same.refl _, Same.refl _, h, fun _ _ => rfl⟩
theorem Ext.trans {F H F1 H1 F2 H2 : Hp} (a : Ext F H F1 H1) (b : Ext F1 H1 F2 H2) : Ext F H F2 H2 :=
  ⟨a.hh.trans b.hh, a.ff.trans b.ff, b.fh, fun p h => by
    have h1 : H1 p ≠ none := by
      cases e : H p with
      | none => exact absurd e h
      | some o => rw [a.hh p o e]; simp
    rw [b.fx p h1, a.fx p h]⟩
/-- a new object, frozen at once -/
theorem Ext.new {F H : Hp} {p : Addr} {o : HO} (h : Same F H) (n : H p = none) : Ext F H (upd F p o) (upd H p o) := by
  have nF : F p = none := h.free n
  refine ⟨fun b x e => ?_, fun b x e => ?_, fun b x e => ?_, fun q hq => ?_⟩
  · rw [upd_ne (ne_of_none e n)]; exact e
  · rw [upd_ne (ne_of_none e nF)]; exact e
  · by_cases hb : b = p
    · subst hb; rw [upd_same] at e ⊢; exact e
    · rw [upd_ne hb] at e ⊢; exact h _ _ e
  · have : q ≠ p := fun z => by subst z; exact hq n
    rw [upd_ne this]
/-- a new object, own -/
theorem Ext.newO {F H : Hp} {p : Addr} {o : HO} (h : Same F H) (n : H p = none) : Ext F H F (upd H p o) := by
  refine ⟨fun b x e => ?_, Same.refl _, fun b x e => ?_, fun _ _ => rfl⟩
  · rw [upd_ne (ne_of_none e n)]; exact e
  · have e' := h b x e
    rw [upd_ne (ne_of_none e' n)]; exact e'
/-- what is own since H is frozen -/
theorem Ext.freeze {F H F' H' : Hp} {p : Addr} {o : HO} (a : Ext F H F' H') (n : H p = none) (nF : F' p = none) (h : H' p = some o) : Ext F H (upd F' p o) H' := by
  refine ⟨a.hh, fun b x e => ?_, fun b x e => ?_, fun q hq => ?_⟩
  · have e' := a.ff b x e
    rw [upd_ne (ne_of_none e' nF)]; exact e'
  · by_cases hb : b = p
    · subst hb; rw [upd_same] at e; rw [← e]; exact h
    · rw [upd_ne hb] at e; exact a.fh _ _ e
  · have : q ≠ p := fun z => by subst z; exact hq n
    rw [upd_ne this]; exact a.fx q hq

/-! ### the state -/
def Own (τ : Ta) (i : Nat) : Prop := (∃ xs, τ[i]? = some (.o xs)) ∨ (∃ xss, τ[i]? = some (.m xss)) ∨ ∃ kvs, τ[i]? = some (.k kvs)
/-- rows that are own lists -/
inductive Rws (K : PySem.W.Frag) (F H : Hp) : List Addr → List (List D) → Prop
  | nil : Rws K F H [] []
  | cons {a : Addr} {as : List Addr} {vs : List V} {xs : List D} {xss : List (List D)} : H a = some (.lst vs) → DqAll K F vs xs → Rws K F H as xss → Rws K F H (a :: as) (xs :: xss)
/-- a table and its data -/
inductive KvR (K : PySem.W.Frag) (F : Hp) : List (Key × V) → List (Int × D) → Prop
  | nil : KvR K F [] []
  | cons {n : Int} {v : V} {d : D} {l : List (Key × V)} {kvs : List (Int × D)} : Dq K F v d → KvR K F l kvs → KvR K F ((.inl n, v) :: l) ((n, d) :: kvs)
theorem KvR.mono {K : PySem.W.Frag} {F F' : Hp} (e : Same F F') {l : List (Key × V)} {kvs : List (Int × D)} (h : KvR K F l kvs) : KvR K F' l kvs := by
  induction h with
  | nil => exact .nil
  | cons a _ ih => exact .cons (a.mono e) ih
/-- A: the addresses of each slot that is own -/
structure Ows (K : PySem.W.Frag) (F H H0 : Hp) (σ : St) (τ : Ta) (A : Nat → List Addr) : Prop where
  o : ∀ (i : Nat) xs, τ[i]? = some (.o xs) → ∃ p vs, A i = [p] ∧ σ[i]? = some (some (.ref p)) ∧ H p = some (.lst vs) ∧ DqAll K F vs xs
  m : ∀ (i : Nat) xss, τ[i]? = some (.m xss) → ∃ p ps, A i = p :: ps ∧ σ[i]? = some (some (.ref p)) ∧ H p = some (.lst (ps.map V.ref)) ∧ Rws K F H ps xss
  k : ∀ (i : Nat) kvs, τ[i]? = some (.k kvs) → ∃ p l, A i = [p] ∧ σ[i]? = some (some (.ref p)) ∧ H p = some (.dK l) ∧ KvR K F l kvs
  fr : ∀ i, Own τ i → ∀ a ∈ A i, F a = none ∧ H0 a = none
  nd : ∀ i, Own τ i → (A i).Nodup
  sp : ∀ i j, i ≠ j → Own τ i → Own τ j → ∀ a ∈ A i, a ∉ A j
structure StR (K : PySem.W.Frag) (F0 H0 F H : Hp) (σ : St) (τ : Ta) : Prop where
  ext : Ext F0 H0 F H
  len : σ.length = τ.length
  dat : ∀ (i : Nat) x, τ[i]? = some (.d x) → ∃ v, σ[i]? = some (some v) ∧ Dq K F v x
  ows : ∃ A, Ows K F H H0 σ τ A
section
variable {K : PySem.W.Frag} {F0 H0 F H F' H' : Hp} {σ : St} {τ : Ta}
theorem Rws.live {ps : List Addr} {xss : List (List D)} (h : Rws K F H ps xss) : ∀ a ∈ ps, H a ≠ none := by
  induction h with
  | nil => intro a h; cases h
  | cons e _ _ ih =>
    intro a h
    rcases List.mem_cons.mp h with rfl | h
    · rw [e]; simp
    · exact ih a h
theorem Rws.go {ps : List Addr} {xss : List (List D)} (h : Rws K F H ps xss) (e : Same F F') (e' : ∀ a ∈ ps, ∀ o, H a = some o → H' a = some o) : Rws K F' H' ps xss := by
  induction h with
  | nil => exact .nil
  | cons a b c ih => exact .cons (e' _ List.mem_cons_self _ a) (b.mono e) (ih fun x hx => e' x (List.mem_cons_of_mem _ hx))
theorem Ows.live {A : Nat → List Addr} (W : Ows K F H H0 σ τ A) {i : Nat} (h : Own τ i) : ∀ a ∈ A i, H a ≠ none := by
  intro a ha
  rcases h with ⟨xs, e⟩ | ⟨xss, e⟩ | ⟨kvs, e⟩
  case' inr.inr =>
    obtain ⟨p, vs, e1, _, e2, _⟩ := W.k i kvs e
    rw [e1] at ha
    rw [List.mem_singleton.mp ha, e2]; simp
  · obtain ⟨p, vs, e1, _, e2, _⟩ := W.o i xs e
    rw [e1] at ha
    rw [List.mem_singleton.mp ha, e2]; simp
  · obtain ⟨p, ps, e1, _, e2, e3⟩ := W.m i xss e
    rw [e1] at ha
    rcases List.mem_cons.mp ha with rfl | ha
    · rw [e2]; simp
    · exact e3.live a ha
theorem StR.fh (s : StR K F0 H0 F H σ τ) : Same F H := s.ext.fh
theorem StR.own (s : StR K F0 H0 F H σ τ) (i : Nat) (xs : List D) (h : τ[i]? = some (.o xs)) : ∃ p vs, σ[i]? = some (some (.ref p)) ∧ H p = some (.lst vs) ∧ F p = none ∧ H0 p = none ∧ DqAll K F vs xs := by
  obtain ⟨A, W⟩ := s.ows
  obtain ⟨p, vs, e1, e2, e3, e4⟩ := W.o i xs h
  have := W.fr i (.inl ⟨xs, h⟩) p (by rw [e1]; simp)
  exact ⟨p, vs, e2, e3, this.1, this.2, e4⟩
theorem StR.go (s : StR K F0 H0 F H σ τ) (e : Ext F H F' H') : StR K F0 H0 F' H' σ τ where
  ext := s.ext.trans e
  len := s.len
  dat := fun i x h => let ⟨v, a, b⟩ := s.dat i x h; ⟨v, a, b.mono e.ff⟩
  ows := by
    obtain ⟨A, W⟩ := s.ows
    refine ⟨A, fun i xs h => ?_, fun i xss h => ?_, fun i kvs h => ?_, fun i h a ha => ?_, W.nd, W.sp⟩
    case' refine_3 =>
      obtain ⟨p, vs, e1, e2, e3, e4⟩ := W.k i kvs h
      exact ⟨p, vs, e1, e2, e.hh _ _ e3, e4.mono e.ff⟩
    · obtain ⟨p, vs, e1, e2, e3, e4⟩ := W.o i xs h
      exact ⟨p, vs, e1, e2, e.hh _ _ e3, e4.mono e.ff⟩
    · obtain ⟨p, ps, e1, e2, e3, e4⟩ := W.m i xss h
      exact ⟨p, ps, e1, e2, e.hh _ _ e3, e4.go e.ff fun a _ o => e.hh a o⟩
    · rw [e.fx a (W.live h a ha)]
      exact W.fr i h a ha
end

/-! ### readings -/
def xcl (mg : Str → Option Value) (n : Str) : Value := (mg n).getD .none
section
variable {α β γ : Type}
/-- what is wanted of a result -/
def RQ (mg : Str → Option Value) (W : WX) (σ : St) (F H : Hp) (Rel : Hp → β → α → Prop) (Q : β → Hp → Prop) : Except Str α → Prop
  | .ok d => ∀ v F' H', Ext F H F' H' → Rel F' v d → Q v H'
  | .error n => ∀ F' H', Ext F H F' H' → W (xcl mg n) none σ H'
def tX (K : PySem.W.Frag) (mg : Str → Option Value) (W : WX) (Rel : Hp → β → α → Prop) (f : Ta → R α) : St → Hp → (β → Hp → Prop) → Prop := fun σ H Q => ∃ F0 H0 F τ r, StR K F0 H0 F H σ τ ∧ f τ = some r ∧ RQ mg W σ F H Rel Q r
variable {K : PySem.W.Frag} {mg : Str → Option Value} {W : WX} {F0 H0 F H : Hp} {σ : St} {τ : Ta} {Rel : Hp → β → α → Prop} {Q Q' : β → Hp → Prop} {r : Except Str α}
theorem RQ.imp (h : RQ mg W σ F H Rel Q r) (i : ∀ v F' H', Ext F H F' H' → Q v H' → Q' v H') : RQ mg W σ F H Rel Q' r := by
  cases r with
  | ok d => exact fun v F' H' e q => i v F' H' e (h v F' H' e q)
  | error n => exact h
theorem RQ.go {F1 H1 : Hp} (h : RQ mg W σ F H Rel Q r) (e : Ext F H F1 H1) : RQ mg W σ F1 H1 Rel Q r := by
  cases r with
  | ok d => exact fun v F' H' e' q => h v F' H' (e.trans e') q
  | error n => exact fun F' H' e' => h F' H' (e.trans e')
/-- the first of two: what is left -/
theorem tX_bnd {γ δ : Type} {Rel' : Hp → δ → γ → Prop} {fa : Ta → R γ} {k : γ → R α} {Z : δ → Hp → Prop} (s : StR K F0 H0 F H σ τ) (hf : bnd (fa τ) k = some r) (q : RQ mg W σ F H Rel Q r)
    (c : ∀ x v F1 H1, Ext F H F1 H1 → StR K F0 H0 F1 H1 σ τ → Rel' F1 v x → k x = some r → RQ mg W σ F1 H1 Rel Q r → Z v H1) : tX K mg W Rel' fa σ H Z := by
  rcases bnd_some hf with ⟨n, e1, rfl⟩ | ⟨x, e1, hf⟩
  · exact ⟨F0, H0, F, τ, _, s, e1, q⟩
  · exact ⟨F0, H0, F, τ, _, s, e1, fun v F1 H1 x1 dv => c x v F1 H1 x1 (s.go x1) dv hf (q.go x1)⟩
end
abbrev tE (K : PySem.W.Frag) (mg : Str → Option Value) (W : WX) (f : Ta → R D) : TE := tX K mg W (Dq K) f
abbrev tT (K : PySem.W.Frag) (mg : Str → Option Value) (W : WX) (f : Ta → R Bool) : TT := tX K mg W (fun _ (b c : Bool) => b = c) f
abbrev tA (K : PySem.W.Frag) (mg : Str → Option Value) (W : WX) (f : Ta → R (List D)) : TA := tX K mg W (DqAll K) f
abbrev PD (X : Cx) (W : WX) (e : Expr) (f : Ta → R D) : Prop := PE X e (tE X.K X.mg W f)
abbrev PB (X : Cx) (W : WX) (e : Expr) (f : Ta → R Bool) : Prop := PT X e (tT X.K X.mg W f)
abbrev PAs (X : Cx) (W : WX) (es : List Expr) (f : Ta → R (List D)) : Prop := PA X es (tA X.K X.mg W f)
theorem PE.conseq {X : Cx} {e : Expr} {t t' : TE} (h : PE X e t) (i : ∀ σ H Q, t' σ H Q → t σ H Q) : PE X e t' := ⟨fun pins s σ H Q I q => h.run pins s σ H Q I (i σ H Q q)⟩
theorem PT.conseq {X : Cx} {e : Expr} {t t' : TT} (h : PT X e t) (i : ∀ σ H Q, t' σ H Q → t σ H Q) : PT X e t' := ⟨fun pins s σ H Q I q => h.run pins s σ H Q I (i σ H Q q)⟩
theorem PW.conseq {X : Cx} {e : Expr} {t t' : TT} (h : PW X e t) (i : ∀ σ H Q, t' σ H Q → t σ H Q) : PW X e t' := ⟨fun wh pins s σ H Q I q => h.run wh pins s σ H Q I (i σ H Q q)⟩
theorem PA.conseq {X : Cx} {e : List Expr} {t t' : TA} (h : PA X e t) (i : ∀ σ H Q, t' σ H Q → t σ H Q) : PA X e t' := ⟨fun pos pins s σ H Q I q => h.run pos pins s σ H Q I (i σ H Q q)⟩
theorem PS.conseq {X : Cx} {e : Stmt} {t t' : TS} (h : PS X e t) (i : ∀ D σ H, t' D σ H → t D σ H) : PS X e t' := ⟨fun pins s σ H D I q => h.run pins s σ H D I (i D σ H q)⟩
theorem PSs.conseq {X : Cx} {e : List Stmt} {t t' : TS} (h : PSs X e t) (i : ∀ D σ H, t' D σ H → t D σ H) : PSs X e t' := ⟨fun pins s σ H D I q => h.run pins s σ H D I (i D σ H q)⟩
theorem PG.conseq {X : Cx} {e : Expr} {t t' : TG} (h : PG X e t) (i : ∀ v σ H Q, t' v σ H Q → t v σ H Q) : PG X e t' := ⟨fun pins s σ H v u Q I r q => h.run pins s σ H v u Q I r (i v σ H Q q)⟩

/-! ### names, constants -/
def fV (i : Nat) : Ta → R D := fun τ => match τ[i]? with
  | some (.d x) => ok x
  | _ => none
def fC (d : D) : Ta → R D := fun _ => ok d
section
variable {X : Cx} {W : WX} {pos : Pos}
theorem dv (i : Nat) {x : Str} (hN : X.N[i]? = some x := by rfl) (hv : Vis X.env.scope x := by first | exact Or.inl rfl | exact Or.inr (Or.inl rfl) | exact Or.inr (Or.inr rfl)) (hd : (x == ("__debug__" : Str)) = false := by decide)
    (hcd : (x == ("__classdict__" : Str)) = false := by decide) : PD X W (.Name x pos) (fV i) := by
  refine PE.conseq (pe_var (i := i) hN hv hd hcd) fun σ H Q ⟨F0, H0, F, τ, r, s, hf, q⟩ => ?_
  unfold fV at hf
  split at hf
  · rename_i x hx
    cases hf
    obtain ⟨v, a, b⟩ := s.dat _ _ hx
    exact ⟨v, a, q v F H (.refl s.fh) b⟩
  · cases hf
theorem dC {d : D} {v : V} {e : Expr} (h : PE X e (tC v)) (hd : ∀ F, Dq X.K F v d) : PD X W e (fC d) := by
  refine PE.conseq h fun σ H Q ⟨F0, H0, F, τ, r, s, hf, q⟩ => ?_
  cases hf
  exact q v F H (.refl s.fh) (hd F)
theorem dInt {i j} : PD X W (.Constant (.int i) j pos) (fC (.int i)) := dC pe_int fun _ => .int i
theorem dBl {b j} : PD X W (.Constant (.bool b) j pos) (fC (.bool b)) := dC pe_bl fun _ => .bl b
theorem dNon {j} : PD X W (.Constant .none j pos) (fC .none) := dC pe_non fun _ => .non
theorem dStr {x j} : PD X W (.Constant (.str x) j pos) (fC (.str x)) := dC pe_str fun _ => .str x
/-- a constant of the module -/
def Glo (K : PySem.W.Frag) (mg : Str → Option Value) (x : Str) (d : D) : Prop := ∃ v u, mg x = some u ∧ RelV v u ∧ ∀ F, Dq K F v d
theorem dG {x : Str} {d : D} (g : Glo X.K X.mg x d) (hg : Gl X x := by rfl) (hd : (x == ("__debug__" : Str)) = false := by decide) : PD X W (.Name x pos) (fC d) := by
  obtain ⟨v, u, e, r, h⟩ := g
  exact dC (pe_glob hg e r hd) h
end

/-! ### operations by values -/
def rD2 (K : PySem.W.Frag) (h : D → D → Option D) : R2 := fun x y H Q => ∃ F d e r, Same F H ∧ Dq K F x d ∧ Dq K F y e ∧ h d e = some r ∧ ∀ v F' H', Ext F H F' H' → Dq K F' v r → Q v H'
def rD1 (K : PySem.W.Frag) (h : D → Option D) : V → Hp → VK → Prop := fun x H Q => ∃ F d r, Same F H ∧ Dq K F x d ∧ h d = some r ∧ ∀ v F' H', Ext F H F' H' → Dq K F' v r → Q v H'
def rDs (K : PySem.W.Frag) (h : List D → Option D) : List V → Hp → VK → Prop := fun xs H Q => ∃ F ds r, Same F H ∧ DqAll K F xs ds ∧ h ds = some r ∧ ∀ v F' H', Ext F H F' H' → Dq K F' v r → Q v H'
def lft {α : Type} (x : Option α) : R α := x.map .ok
@[simp] theorem lft_some {α : Type} (a : α) : lft (some a) = some (.ok a) := rfl
@[simp] theorem lft_none {α : Type} : lft (none : Option α) = none := rfl
theorem lft_eq {α : Type} {x : Option α} {r : Except Str α} (h : lft x = some r) : ∃ a, x = some a ∧ r = .ok a := by
  cases x with
  | none => cases h
  | some a => cases h; exact ⟨a, rfl, rfl⟩
def fB (h : D → D → Option D) (fa fb : Ta → R D) : Ta → R D := fun τ => bnd (fa τ) fun x => bnd (fb τ) fun y => lft (h x y)
def fU (h : D → Option D) (fa : Ta → R D) : Ta → R D := fun τ => bnd (fa τ) fun x => lft (h x)
def fN (h : List D → Option D) (fs : Ta → R (List D)) : Ta → R D := fun τ => bnd (fs τ) fun x => lft (h x)
section
variable {X : Cx} {W : WX} {a b c : Expr} {fa fb fc : Ta → R D} {h h' : D → D → Option D} {pos : Pos}
theorem tE_op {K : PySem.W.Frag} {mg : Str → Option Value} {σ : St} {H : Hp} {Q : VK} (q : tE K mg W (fB h fa fb) σ H Q) :
    tOp (rD2 K h) (tE K mg W fa) (tE K mg W fb) σ H Q := by
  obtain ⟨F0, H0, F, τ, r, s, hf, q⟩ := q
  refine tX_bnd s hf q fun x v F1 H1 x1 s1 dv hf q => ?_
  refine tX_bnd s1 hf q fun y w F2 H2 x2 s2 dw hf q => ?_
  obtain ⟨z, e, rfl⟩ := lft_eq hf
  exact ⟨F2, x, y, z, x2.fh, dv.mono x2.ff, dw, e, q⟩
theorem dOp {op : Operator} (ho : OpR X (binaryOp op) (rD2 X.K h)) (ha : PD X W a fa) (hb : PD X W b fb) : PD X W (.BinOp a op b pos) (fB h fa fb) := PE.conseq (pe_op ho ha hb) fun _ _ _ q => tE_op q
theorem dUn {op : UnaryOp} {h : D → Option D} (ho : UnR X (unaryOp op) (rD1 X.K h)) (ha : PD X W a fa) : PD X W (.UnaryOp op a pos) (fU h fa) := by
  refine PE.conseq (pe_un ho ha) fun σ H Q ⟨F0, H0, F, τ, r, s, hf, q⟩ => ?_
  refine tX_bnd s hf q fun x v F1 H1 x1 s1 dv hf q => ?_
  obtain ⟨z, e, rfl⟩ := lft_eq hf
  exact ⟨F1, x, z, x1.fh, dv, e, q⟩
theorem dCmp {op : CmpOp} (ho : OpR X (compareOp op) (rD2 X.K h)) (ha : PD X W a fa) (hb : PD X W b fb) (hm : behindInMarks op b = false) : PD X W (.Compare a [op] [b] pos) (fB h fa fb) := PE.conseq (pe_cmpR ho ha hb hm) fun _ _ _ q => tE_op q
theorem dIx (ho : IxR X (rD2 X.K h)) (ha : PD X W a fa) (hb : PD X W b fb) (hs : PlainIx b := by exact fun _ _ => rfl) : PD X W (.Subscript a b pos) (fB h fa fb) := PE.conseq (pe_ix ho ha hb hs) fun _ _ _ q => tE_op q
/-- a op1 b op2 c, each a bool -/
def fCh (h h' : D → D → Option D) (fa fb fc : Ta → R D) : Ta → R D := fun τ => bnd (fa τ) fun x => bnd (fb τ) fun y => bnd (lft (h x y)) fun z => match z with
  | .bool true => bnd (fc τ) fun w => lft (h' y w)
  | .bool false => ok (.bool false)
  | _ => none
theorem tE_ch {K : PySem.W.Frag} {mg : Str → Option Value} {σ : St} {H : Hp} {Q : VK} (q : tE K mg W (fCh h h' fa fb fc) σ H Q) : tChain (rD2 K h) (rD2 K h') (tE K mg W fa) (tE K mg W fb) (tE K mg W fc) σ H Q := by
  obtain ⟨F0, H0, F, τ, r, s, hf, q⟩ := q
  refine tX_bnd s hf q fun x v F1 H1 x1 s1 dv hf q => ?_
  refine tX_bnd s1 hf q fun y w F2 H2 x2 s2 dw hf q => ?_
  rcases bnd_some hf with ⟨n, e1, rfl⟩ | ⟨z, e1, hf⟩
  · obtain ⟨z, e, e'⟩ := lft_eq e1; cases e'
  · obtain ⟨z', e, e'⟩ := lft_eq e1
    cases e'
    refine ⟨F2, x, y, z, x2.fh, dv.mono x2.ff, dw, e, fun v3 F3 H3 x3 d3 => ?_⟩
    have s3 := s2.go x3
    have q3 := q.go x3
    cases d3 with
    | bl k =>
      refine ⟨k, rfl, ?_⟩
      cases k with
      | true =>
        rw [if_pos rfl]
        refine tX_bnd s3 hf q3 fun u v4 F4 H4 x4 s4 d4 hf q => ?_
        obtain ⟨t, e, rfl⟩ := lft_eq hf
        exact ⟨F4, y, u, t, x4.fh, (dw.mono x3.ff).mono x4.ff, d4, e, q⟩
      | false =>
        rw [if_neg Bool.false_ne_true]
        cases hf
        exact q3 _ F3 H3 (.refl x3.fh) (.bl false)
    | _ => cases hf
theorem dCh {op op' : CmpOp} (ho : OpR X (compareOp op) (rD2 X.K h)) (ho' : OpR X (compareOp op') (rD2 X.K h')) (ha : PD X W a fa) (hb : PD X W b fb) (hc : PD X W c fc)
    (hm : lastMarks [op, op'] [b, c] = false := by with_unfolding_all rfl) : PD X W (.Compare a [op, op'] [b, c] pos) (fCh h h' fa fb fc) := PE.conseq (pe_chain ho ho' ha hb hc hm) fun _ _ _ q => tE_ch q
end

/-! ### truth -/
def truD : D → Option Bool
  | .none => some false
  | .bool b => some b
  | .int i => some (i != 0)
  | .str x => if x.length ≤ 100000 then some (x.length != 0) else none
  | .list xs => some (!xs.isEmpty)
  | .tuple xs => some (!xs.isEmpty)
  | _ => none
def fTr (f : Ta → R D) : Ta → R Bool := fun τ => bnd (f τ) fun x => lft (truD x)
def fNo (f : Ta → R Bool) : Ta → R Bool := fun τ => bnd (f τ) fun b => ok (!b)
def fAnd (f g : Ta → R Bool) : Ta → R Bool := fun τ => bnd (f τ) fun b => if b then g τ else ok false
def fOr (f g : Ta → R Bool) : Ta → R Bool := fun τ => bnd (f τ) fun b => if b then ok true else g τ
theorem small5 {n : Nat} (h : n ≤ 100000) : n ≤ sizeLine := by rw [sizeLine_eq]; omega
theorem DqAll.isEmpty {K : PySem.W.Frag} {F : Hp} {vs : List V} {ds : List D} (h : DqAll K F vs ds) : vs.isEmpty = ds.isEmpty := by cases h <;> rfl
theorem truV_of {K : PySem.W.Frag} {F H : Hp} {v : V} {d : D} {k : Bool} (hs : Same F H) (h : Dq K F v d) (e : truD d = some k) : TruV K v H k := by
  cases h with
  | non => cases e; rfl
  | bl b => cases e; rfl
  | int i => cases e; rfl
  | str x =>
    simp only [truD] at e
    split at e
    · rename_i hl
      cases e
      refine ⟨small5 hl, ?_⟩
      rw [Bool.eq_iff_iff]
      simp
    · cases e
  | lst a b => cases e; exact .inl ⟨_, .of (hs _ _ a), by rw [b.isEmpty]⟩
  | tup a b => cases e; exact .inr (.inl ⟨_, sameT hs a, by rw [b.isEmpty]⟩)
  | scr a => cases e
  | dic _ _ _ _ => cases e
section
variable {X : Cx} {W : WX} {a b c : Expr} {fa fb fc : Ta → R D} {ft fu : Ta → R Bool} {pos : Pos} {rest : List Expr}
theorem dT (ha : PD X W a fa) (he : ∀ whole, isTrue a X.env whole = (do let v ← whole; standAt a.pos; holding [v] (truthy v)) := by intro _; rfl) : PB X W a (fTr fa) := by
  refine PT.conseq (pt_truth ha he) fun σ H Q ⟨F0, H0, F, τ, r, s, hf, q⟩ => ?_
  refine tX_bnd s hf q fun x v F1 H1 x1 s1 dv hf q => ?_
  obtain ⟨k, e, rfl⟩ := lft_eq hf
  exact ⟨k, truV_of x1.fh dv e, q k F1 H1 (.refl x1.fh) rfl⟩
theorem tT_test {K : PySem.W.Frag} {mg : Str → Option Value} {t : TE} {f : Ta → R D} (h : ∀ σ H Q, tE K mg W f σ H Q → t σ H Q) (hb : ∀ τ d, f τ = ok d → ∃ k, d = .bool k) {σ : St} {H : Hp} {Q : Bool → Hp → Prop} (q : tT K mg W (fTr f) σ H Q) : tTest t σ H Q := by
  obtain ⟨F0, H0, F, τ, r, s, hf, q⟩ := q
  refine h σ H _ ?_
  rcases bnd_some hf with ⟨n, e1, rfl⟩ | ⟨x, e1, hf⟩
  · exact ⟨F0, H0, F, τ, _, s, e1, q⟩
  · refine ⟨F0, H0, F, τ, _, s, e1, fun v F1 H1 x1 dv => ?_⟩
    obtain ⟨k, rfl⟩ := hb τ x e1
    cases dv
    obtain ⟨k', e, rfl⟩ := lft_eq hf
    cases e
    exact ⟨k, rfl, q k F1 H1 x1 rfl⟩
def Bln (h : D → D → Option D) : Prop := ∀ x y z, h x y = some z → ∃ k, z = .bool k
theorem fB_bool {h : D → D → Option D} (hb : Bln h) (τ : Ta) (d : D) (e : fB h fa fb τ = ok d) : ∃ k, d = .bool k := by
  rcases bnd_some e with ⟨n, e1, e2⟩ | ⟨x, e1, hf⟩
  · cases e2
  · rcases bnd_some hf with ⟨n, e1, e2⟩ | ⟨y, e1, hf⟩
    · cases e2
    · obtain ⟨z, e, e'⟩ := lft_eq hf
      cases e'
      exact hb _ _ _ e
theorem dTCmp {op : CmpOp} {h : D → D → Option D} (hb' : Bln h) (ho : OpR X (compareOp op) (rD2 X.K h)) (ha : PD X W a fa) (hb : PD X W b fb) (hm : behindInMarks op b = false) : PB X W (.Compare a [op] [b] pos) (fTr (fB h fa fb)) :=
  PT.conseq (pt_cmpR ho ha hb hm) fun _ _ _ q => tT_test (fun _ _ _ q => tE_op q) (fB_bool hb') q
theorem dTNot (ha : PB X W a ft) : PB X W (.UnaryOp .Not a pos) (fNo ft) := by
  refine PT.conseq (pt_not ha) fun σ H Q ⟨F0, H0, F, τ, r, s, hf, q⟩ => ?_
  refine tX_bnd s hf q fun x v F1 H1 x1 s1 dv hf q => ?_
  cases hf
  exact q _ F1 H1 (.refl x1.fh) (by rw [dv])
theorem wAnd1 (ha : PB X W a ft) : PW X (.BoolOp .And [a] pos) (tT X.K X.mg W ft) := pw_and1 ha
theorem wOr1 (ha : PB X W a ft) : PW X (.BoolOp .Or [a] pos) (tT X.K X.mg W ft) := pw_or1 ha
theorem wAnd (ha : PB X W a ft) (hb : PW X (.BoolOp .And (b :: rest) pos) (tT X.K X.mg W fu)) : PW X (.BoolOp .And (a :: b :: rest) pos) (tT X.K X.mg W (fAnd ft fu)) := by
  refine PW.conseq (pw_and ha hb) fun σ H Q ⟨F0, H0, F, τ, r, s, hf, q⟩ => ?_
  refine tX_bnd s hf q fun x v F1 H1 x1 s1 dv hf q => ?_
  subst dv
  cases v with
  | true => exact ⟨F0, H0, F1, τ, r, s1, hf, q⟩
  | false => cases hf; exact q _ F1 H1 (.refl x1.fh) rfl
theorem wOr (ha : PB X W a ft) (hb : PW X (.BoolOp .Or (b :: rest) pos) (tT X.K X.mg W fu)) : PW X (.BoolOp .Or (a :: b :: rest) pos) (tT X.K X.mg W (fOr ft fu)) := by
  refine PW.conseq (pw_or ha hb) fun σ H Q ⟨F0, H0, F, τ, r, s, hf, q⟩ => ?_
  refine tX_bnd s hf q fun x v F1 H1 x1 s1 dv hf q => ?_
  subst dv
  cases v with
  | false => exact ⟨F0, H0, F1, τ, r, s1, hf, q⟩
  | true => cases hf; exact q _ F1 H1 (.refl x1.fh) rfl
/-- and, or as values: all but the last are bools -/
def vAnd (f g : Ta → R D) : Ta → R D := fun τ => bnd (f τ) fun x => match x with
  | .bool true => g τ
  | .bool false => ok (.bool false)
  | _ => none
def vOr (f g : Ta → R D) : Ta → R D := fun τ => bnd (f τ) fun x => match x with
  | .bool true => ok (.bool true)
  | .bool false => g τ
  | _ => none
def notD : D → Option D
  | .bool b => some (.bool (!b))
  | _ => none
theorem dOne {op} (h : PD X W a fa) : PD X W (.BoolOp op [a] pos) fa := pe_one h
theorem dAnd (ha : PD X W a fa) (hb : PD X W (.BoolOp .And (b :: rest) pos) fb) : PD X W (.BoolOp .And (a :: b :: rest) pos) (vAnd fa fb) := by
  refine PE.conseq (pe_and ha hb) fun σ H Q ⟨F0, H0, F, τ, r, s, hf, q⟩ => ?_
  refine tX_bnd s hf q fun x v F1 H1 x1 s1 dv hf q => ?_
  cases dv with
  | bl k =>
    refine ⟨k, rfl, ?_⟩
    cases k with
    | true => exact ⟨F0, H0, F1, τ, r, s1, hf, q⟩
    | false => cases hf; exact q _ F1 H1 (.refl x1.fh) (.bl false)
  | _ => cases hf
theorem dOr (ha : PD X W a fa) (hb : PD X W (.BoolOp .Or (b :: rest) pos) fb) : PD X W (.BoolOp .Or (a :: b :: rest) pos) (vOr fa fb) := by
  refine PE.conseq (pe_or ha hb) fun σ H Q ⟨F0, H0, F, τ, r, s, hf, q⟩ => ?_
  refine tX_bnd s hf q fun x v F1 H1 x1 s1 dv hf q => ?_
  cases dv with
  | bl k =>
    refine ⟨k, rfl, ?_⟩
    cases k with
    | false => exact ⟨F0, H0, F1, τ, r, s1, hf, q⟩
    | true => cases hf; exact q _ F1 H1 (.refl x1.fh) (.bl true)
  | _ => cases hf
/-- not e as a value, by the truth of e -/
def fNoV (f : Ta → R D) : Ta → R D := fun τ => bnd (f τ) fun x => bnd (lft (truD x)) fun b => ok (.bool (!b))
theorem dNot (ha : PD X W a fa) : PD X W (.UnaryOp .Not a pos) (fNoV fa) := by
  refine ⟨fun pins st σ H Q I ⟨F0, H0, F, τ, r, s, hf, q⟩ => ?_⟩
  refine UnaryOp_ (thn (ha.run pins st σ H _ I (tX_bnd (Z := fun v H1 => ∃ k, TruV X.K v H1 k ∧ Q (.bl (!k)) H1) s hf q fun x v F1 H1 x1 s1 dv hf q => ?_)) fun v s1 ⟨x, H1, I1, r1, k, t1, q1⟩ => ?_)
  · rcases bnd_some hf with ⟨n, e1, rfl⟩ | ⟨k, e1, hf⟩
    · obtain ⟨z, e, e'⟩ := lft_eq e1; cases e'
    · obtain ⟨z, e, e'⟩ := lft_eq e1
      cases e'; cases hf
      exact ⟨k, truV_of x1.fh dv e, q _ F1 H1 (.refl x1.fh) (.bl _)⟩
  · exact not_of (thn (tru_ok pins s1 σ H1 x v (fun b H' => Q (.bl (!b)) H') I1 r1 ⟨k, t1, q1⟩) fun b s2 ⟨H2, I2, q2⟩ => ⟨.bl (!b), H2, I2, rfl, q2⟩)
/-- a if t else b -/
def fIf (t : Ta → R Bool) (f g : Ta → R D) : Ta → R D := fun τ => bnd (t τ) fun b => if b then f τ else g τ
theorem dIf (hc : PB X W c ft) (ha : PD X W a fa) (hb : PD X W b fb) : PD X W (.IfExp c a b pos) (fIf ft fa fb) := by
  refine PE.conseq (pe_ifExp hc ha hb) fun σ H Q ⟨F0, H0, F, τ, r, s, hf, q⟩ => ?_
  refine tX_bnd s hf q fun x v F1 H1 x1 s1 dv hf q => ?_
  subst dv
  cases v with
  | false => exact ⟨F0, H0, F1, τ, r, s1, hf, q⟩
  | true => exact ⟨F0, H0, F1, τ, r, s1, hf, q⟩
end

/-! ### argument lists, displays, calls -/
def fNil : Ta → R (List D) := fun _ => ok []
def fCons (f : Ta → R D) (fs : Ta → R (List D)) : Ta → R (List D) := fun τ => bnd (f τ) fun x => bnd (fs τ) fun xs => ok (x :: xs)
def fTup (fs : Ta → R (List D)) : Ta → R D := fun τ => bnd (fs τ) fun xs => if xs.length ≤ 100000 then ok (.tuple xs) else none
def fLst (fs : Ta → R (List D)) : Ta → R (List D) := fun τ => bnd (fs τ) fun xs => if xs.length ≤ 100000 then ok xs else none
/-- a new list that is own -/
def RO (K : PySem.W.Frag) (mg : Str → Option Value) (W : WX) (σ : St) (F H : Hp) (Q : VK) : Except Str (List D) → Prop
  | .ok ds => ∀ p vs F' H', Ext F H F' H' → H p = none → H' p = some (.lst vs) → F' p = none → DqAll K F' vs ds → Q (.ref p) H'
  | .error n => ∀ F' H', Ext F H F' H' → W (xcl mg n) none σ H'
def tO (K : PySem.W.Frag) (mg : Str → Option Value) (W : WX) (f : Ta → R (List D)) : TE := fun σ H Q => ∃ F0 H0 F τ r, StR K F0 H0 F H σ τ ∧ f τ = some r ∧ RO K mg W σ F H Q r
abbrev PL (X : Cx) (W : WX) (e : Expr) (f : Ta → R (List D)) : Prop := PE X e (tO X.K X.mg W f)
def fFr (f : Ta → R (List D)) : Ta → R D := fun τ => bnd (f τ) fun xs => ok (.list xs)
theorem tO_fr {K : PySem.W.Frag} {mg : Str → Option Value} {W : WX} {f : Ta → R (List D)} {σ : St} {H : Hp} {Q : VK} (q : tE K mg W (fFr f) σ H Q) : tO K mg W f σ H Q := by
  obtain ⟨F0, H0, F, τ, r, s, hf, q⟩ := q
  rcases bnd_some hf with ⟨n, e1, rfl⟩ | ⟨xs, e1, hf⟩
  · exact ⟨F0, H0, F, τ, _, s, e1, q⟩
  · cases hf
    refine ⟨F0, H0, F, τ, _, s, e1, fun p vs F1 H1 x1 n1 h1 nF dv => ?_⟩
    exact q _ _ H1 (x1.freeze n1 nF h1) (.lst upd_same (dv.mono (Ext.newO (fun _ _ e => e) nF).hh))
section
variable {X : Cx} {W : WX} {e : Expr} {es : List Expr} {f : Ta → R D} {fs : Ta → R (List D)} {pos : Pos}
theorem dFr (h : PL X W e fs) : PD X W e (fFr fs) := PE.conseq h fun _ _ _ q => tO_fr q
theorem aNil : PAs X W [] fNil := PA.conseq pa_nil fun σ H Q ⟨F0, H0, F, τ, r, s, hf, q⟩ => by
  cases hf
  exact q _ F H (.refl s.fh) .nil
theorem aCons (ha : PD X W e f) (hr : PAs X W es fs) (hs : starEach (e :: es) X.env = (false, eval e X.env) :: starEach es X.env := by rfl) : PAs X W (e :: es) (fCons f fs) := by
  refine PA.conseq (pa_cons ha hr hs) fun σ H Q ⟨F0, H0, F, τ, r, s, hf, q⟩ => ?_
  refine tX_bnd s hf q fun x v F1 H1 x1 s1 dv hf q => ?_
  refine tX_bnd s1 hf q fun y w F2 H2 x2 s2 dw hf q => ?_
  cases hf
  exact q _ F2 H2 (.refl x2.fh) (.cons (dv.mono x2.ff) dw)
theorem dTup {x1} (h : PAs X W es fs) : PD X W (.Tuple es x1 pos) (fTup fs) := by
  refine PE.conseq (pe_tup h) fun σ H Q ⟨F0, H0, F, τ, r, s, hf, q⟩ => ?_
  refine tX_bnd s hf q fun x v F1 H1 x1 s1 dv hf q => ?_
  split at hf
  · rename_i hl
    cases hf
    refine ⟨by rw [dv.length]; exact small5 hl, fun p hp => ?_⟩
    have x2 := Ext.new (o := .tup v) x1.fh hp
    exact q _ _ _ x2 (.tup (.of upd_same) (dv.mono x2.ff))
  · cases hf
theorem lLst (h : PAs X W es fs) : PL X W (.List es pos) (fLst fs) := by
  refine PE.conseq (pe_lst h) fun σ H Q ⟨F0, H0, F, τ, r, s, hf, q⟩ => ?_
  rcases bnd_some hf with ⟨n, e1, rfl⟩ | ⟨xs, e1, hf⟩
  · exact ⟨F0, H0, F, τ, _, s, e1, q⟩
  · refine ⟨F0, H0, F, τ, _, s, e1, fun v F1 H1 x1 dv => ?_⟩
    split at hf
    · rename_i hl
      cases hf
      refine ⟨by rw [dv.length]; exact small5 hl, fun p hp => ?_⟩
      refine q p v F1 _ (x1.trans (Ext.newO x1.fh hp)) (x1.hh.free hp) upd_same (x1.fh.free hp) dv
    · cases hf
/-- a built-in function or class by values -/
theorem dCallB {id : String} {x : Str} {p : Pos} {h : List D → Option D} (hc : CallR X (.builtin id) (rDs X.K h)) (hm : X.mg x = none) (hv : bootBuiltins x = some (.builtin id)) (ha : PAs X W (e :: es) fs) (hg : Gl X x := by rfl) (hn : x ≠ "__name__" := by decide) (hdb : (x == ("__debug__" : Str)) = false := by decide)
    (he : starEach (e :: es) X.env = (false, eval e X.env) :: starEach es X.env := by rfl) (hpl : (backTo pos (starEach es X.env)).any (·.1) = false := by rfl) : PD X W (.Call (.Name x p) (e :: es) [] pos) (fN h fs) := by
  refine PE.conseq (pe_callB hc hg hm hv ha hn hdb he hpl) fun σ H Q ⟨F0, H0, F, τ, r, s, hf, q⟩ => ?_
  refine tX_bnd s hf q fun x v F1 H1 x1 s1 dv hf q => ?_
  obtain ⟨z, e, rfl⟩ := lft_eq hf
  exact ⟨F1, x, z, x1.fh, dv, e, q⟩
theorem dCallT {T : String} {x : Str} {p : Pos} {h : List D → Option D} (hc : CallR X (.type T) (rDs X.K h)) (hm : X.mg x = none) (hv : bootBuiltins x = some (.type T)) (ha : PAs X W (e :: es) fs) (hg : Gl X x := by rfl) (hn : x ≠ "__name__" := by decide) (hdb : (x == ("__debug__" : Str)) = false := by decide)
    (he : starEach (e :: es) X.env = (false, eval e X.env) :: starEach es X.env := by rfl) (hpl : (backTo pos (starEach es X.env)).any (·.1) = false := by rfl) : PD X W (.Call (.Name x p) (e :: es) [] pos) (fN h fs) := by
  refine PE.conseq (pe_callTy hc hg hm hv ha hn hdb he hpl) fun σ H Q ⟨F0, H0, F, τ, r, s, hf, q⟩ => ?_
  refine tX_bnd s hf q fun x v F1 H1 x1 s1 dv hf q => ?_
  obtain ⟨z, e, rfl⟩ := lft_eq hf
  exact ⟨F1, x, z, x1.fh, dv, e, q⟩
end
/-- what a def promises: a plain function -/
def spR (K : PySem.W.Frag) (mg : Str → Option Value) (n : Nat) (f : List D → R D) : Sp := fun vs H Q E => ∃ F ds r, vs.length = n ∧ Same F H ∧ DqAll K F vs ds ∧ f ds = some r ∧ match r with
  | .ok d => ∀ v F' H', Ext F H F' H' → Dq K F' v d → Q v H'
  | .error m => ∀ F' H', Ext F H F' H' → E (xcl mg m) none H'
/-- the def x of the module -/
structure Def (P : Program) (w : World) (K : PySem.W.Frag) (mg : Str → Option Value) (base : Heap) (x : Str) (n k : Nat) (f : List D → R D) : Prop where
  ex : ∃ a fd ps, FnOk P w K mg base (L2.CX P w) k a fd ps (spR K mg n f) ∧ mg x = some (.ref a) ∧ PySem.W.keepIn K (.ref a) = true ∧ L2.Binds K fd ps []
  ln : ∀ ds r, f ds = some r → ds.length = n
/-- exceptions of callees are taken -/
def Psd (X : Cx) (W : WX) : Prop := ∀ σ, PassesAt (L2.CX X.prog X.w) X σ (fun cls d H => W cls d σ H)
abbrev W0 : WX := fun _ _ _ _ => False
theorem psd_of {X : Cx} {W : WX} (tk : Takes X W) : Psd X W := fun σ => passAt tk σ
theorem psd0 {X : Cx} : Psd X W0 := fun σ pins H s e s' I c => by
  obtain ⟨_, _, _, _, _, _, _, _, _, _, _, _, z⟩ := c
  exact z.elim
def fCl (f : List D → R D) (fs : Ta → R (List D)) : Ta → R D := fun τ => bnd (fs τ) f
section
variable {X : Cx} {W : WX} {e : Expr} {es : List Expr} {fs : Ta → R (List D)} {pos p : Pos} {x : Str} {n k : Nat} {f : List D → R D}
theorem dCall (G : Def X.prog X.w X.K X.mg X.base x n k f) (hr : Room k X.A) (hp : Psd X W) (ha : PAs X W (e :: es) fs) (hg : Gl X x := by rfl) (hdb : (x == ("__debug__" : Str)) = false := by decide)
    (he : starEach (e :: es) X.env = (false, eval e X.env) :: starEach es X.env := by rfl) (hpl : (backTo pos (starEach es X.env)).any (·.1) = false := by rfl) :
    PD X W (.Call (.Name x p) (e :: es) [] pos) (fCl f fs) := by
  obtain ⟨a, fd, ps, F, hm, hk, hb⟩ := G.ex
  refine PE.conseq (pe_callSD (E := fun σ cls d H => W cls d σ H) F hr hg hm hk hb (dvs := []) .nil hp ha hdb he hpl) fun σ H Q ⟨F0, H0, F, τ, r, s, hf, q⟩ => ?_
  rcases bnd_some hf with ⟨c, e1, rfl⟩ | ⟨ds, e1, hf⟩
  · exact ⟨F0, H0, F, τ, _, s, e1, q⟩
  · refine ⟨F0, H0, F, τ, _, s, e1, fun v F1 H1 x1 dv => ?_⟩
    show spR X.K X.mg n f (v ++ []) H1 Q _
    rw [List.append_nil]
    refine ⟨F1, ds, r, by rw [dv.length]; exact G.ln ds r hf, x1.fh, dv, hf, ?_⟩
    cases r with
    | ok d => exact fun v F' H' e' q' => q v F' H' (x1.trans e') q'
    | error n => exact fun F' H' e' => q F' H' (x1.trans e')
end
end DL
set_option Elab.async false
set_option linter.all false
set_option maxRecDepth 100000
set_option maxHeartbeats 4000000
namespace DL
open PySem PySem.Spec PyProof.Rows L2

/-! ### slots -/
theorem set_get {τ : Ta} {i j : Nat} {x y : SV} (h : (τ.set i x)[j]? = some y) : (i = j ∧ x = y ∧ i < τ.length) ∨ (i ≠ j ∧ τ[j]? = some y) := by
  by_cases hj : i = j
  · subst hj
    by_cases hi : i < τ.length
    · rw [List.getElem?_set_self hi] at h
      cases h
      exact .inl ⟨rfl, rfl, hi⟩
    · rw [List.getElem?_eq_none (by simpa using hi)] at h; cases h
  · rw [List.getElem?_set_ne hj] at h
    exact .inr ⟨hj, h⟩
theorem own_set_d {τ : Ta} {i j : Nat} {x : D} (h : Own (τ.set i (.d x)) j) : i ≠ j ∧ Own τ j := by
  rcases h with ⟨xs, h⟩ | ⟨xss, h⟩ | ⟨kvs, h⟩
  · rcases set_get h with ⟨_, e, _⟩ | ⟨a, b⟩
    · cases e
    · exact ⟨a, .inl ⟨xs, b⟩⟩
  · rcases set_get h with ⟨_, e, _⟩ | ⟨a, b⟩
    · cases e
    · exact ⟨a, .inr (.inl ⟨xss, b⟩)⟩
  · rcases set_get h with ⟨_, e, _⟩ | ⟨a, b⟩
    · cases e
    · exact ⟨a, .inr (.inr ⟨kvs, b⟩)⟩
theorem own_set {τ : Ta} {i j : Nat} {x : SV} (h : Own (τ.set i x) j) (hj : i ≠ j) : Own τ j := by
  rcases h with ⟨xs, h⟩ | ⟨xss, h⟩ | ⟨kvs, h⟩
  · rw [List.getElem?_set_ne hj] at h; exact .inl ⟨xs, h⟩
  · rw [List.getElem?_set_ne hj] at h; exact .inr (.inl ⟨xss, h⟩)
  · rw [List.getElem?_set_ne hj] at h; exact .inr (.inr ⟨kvs, h⟩)
section
variable {K : PySem.W.Frag} {F0 H0 F H : Hp} {σ : St} {τ : Ta}
theorem StR.setD {v : V} {d : D} (s : StR K F0 H0 F H σ τ) (i : Nat) (h : Dq K F v d) : StR K F0 H0 F H (σ.set i (some v)) (τ.set i (.d d)) where
  ext := s.ext
  len := by rw [List.length_set, List.length_set]; exact s.len
  dat := fun j x e => by
    rcases set_get e with ⟨rfl, e', hi⟩ | ⟨hj, e'⟩
    · cases e'
      exact ⟨v, List.getElem?_set_self (by rw [s.len]; exact hi), h⟩
    · rw [List.getElem?_set_ne hj]
      exact s.dat j x e'
  ows := by
    obtain ⟨A, W⟩ := s.ows
    refine ⟨A, fun j xs e => ?_, fun j xss e => ?_, fun j kvs e => by
      rcases set_get e with ⟨_, e', _⟩ | ⟨hj, e'⟩
      · cases e'
      · rw [List.getElem?_set_ne hj]
        exact W.k j kvs e', fun j e => W.fr j (own_set_d e).2, fun j e => W.nd j (own_set_d e).2, fun j k hjk e1 e2 => W.sp j k hjk (own_set_d e1).2 (own_set_d e2).2⟩
    · rcases set_get e with ⟨_, e', _⟩ | ⟨hj, e'⟩
      · cases e'
      · rw [List.getElem?_set_ne hj]
        exact W.o j xs e'
    · rcases set_get e with ⟨_, e', _⟩ | ⟨hj, e'⟩
      · cases e'
      · rw [List.getElem?_set_ne hj]
        exact W.m j xss e'
/-- a new own list into a slot -/
theorem StR.setO {F1 H1 : Hp} {p : Addr} {vs : List V} {ds : List D} (s : StR K F0 H0 F H σ τ) (i : Nat) (x1 : Ext F H F1 H1) (n : H p = none) (hp : H1 p = some (.lst vs)) (hF : F1 p = none) (h : DqAll K F1 vs ds) :
    StR K F0 H0 F1 H1 (σ.set i (some (.ref p))) (τ.set i (.o ds)) where
  ext := s.ext.trans x1
  len := by rw [List.length_set, List.length_set]; exact s.len
  dat := fun j x e => by
    rcases set_get e with ⟨_, e', _⟩ | ⟨hj, e'⟩
    · cases e'
    · rw [List.getElem?_set_ne hj]
      exact (s.go x1).dat j x e'
  ows := by
    obtain ⟨A, W⟩ := s.ows
    have nA : ∀ j, Own τ j → p ∉ A j := fun j hj hm => W.live hj p hm n
    obtain ⟨A', W'⟩ : ∃ A', A' = fun j => if j = i then [p] else A j := ⟨_, rfl⟩
    have e0 : A' i = [p] := by rw [W']; exact if_pos rfl
    have e1 : ∀ j, i ≠ j → A' j = A j := fun j hj => by rw [W']; exact if_neg fun z => hj z.symm
    have up : Own (τ.set i (.o ds)) i → True := fun _ => trivial
    refine ⟨A', fun j xs e => ?_, fun j xss e => ?_, fun j kvs e => by
      rcases set_get e with ⟨_, e', _⟩ | ⟨hj, e'⟩
      · cases e'
      · rw [List.getElem?_set_ne hj, e1 j hj]
        obtain ⟨p', vs', a1, a2, a3, a4⟩ := W.k j kvs e'
        exact ⟨p', vs', a1, a2, x1.hh _ _ a3, a4.mono x1.ff⟩, fun j e a ha => ?_, fun j e => ?_, fun j k hjk o1 o2 a ha => ?_⟩
    · rcases set_get e with ⟨rfl, e', hi⟩ | ⟨hj, e'⟩
      · cases e'
        exact ⟨p, vs, e0, List.getElem?_set_self (by rw [s.len]; exact hi), hp, h⟩
      · rw [List.getElem?_set_ne hj, e1 j hj]
        obtain ⟨p', vs', a1, a2, a3, a4⟩ := W.o j xs e'
        exact ⟨p', vs', a1, a2, x1.hh _ _ a3, a4.mono x1.ff⟩
    · rcases set_get e with ⟨_, e', _⟩ | ⟨hj, e'⟩
      · cases e'
      · rw [List.getElem?_set_ne hj, e1 j hj]
        obtain ⟨p', ps', a1, a2, a3, a4⟩ := W.m j xss e'
        exact ⟨p', ps', a1, a2, x1.hh _ _ a3, a4.go x1.ff fun a _ o => x1.hh a o⟩
    · by_cases hj : i = j
      · subst hj
        rw [e0] at ha
        rw [List.mem_singleton.mp ha]
        exact ⟨hF, s.ext.hh.free n⟩
      · rw [e1 j hj] at ha
        have := W.fr j (own_set e hj) a ha
        rw [x1.fx a (W.live (own_set e hj) a ha)]
        exact this
    · by_cases hj : i = j
      · subst hj
        rw [e0]; simp
      · rw [e1 j hj]
        exact W.nd j (own_set e hj)
    · by_cases hj : i = j
      · subst hj
        rw [e0] at ha
        rw [List.mem_singleton.mp ha, e1 k hjk]
        exact nA k (own_set o2 hjk)
      · rw [e1 j hj] at ha
        by_cases hk : i = k
        · subst hk
          rw [e0]
          intro z
          rw [List.mem_singleton.mp z] at ha
          exact nA j (own_set o1 hj) ha
        · rw [e1 k hk]
          exact W.sp j k hjk (own_set o1 hj) (own_set o2 hk) a ha
/-- an own list is frozen -/
theorem StR.frz (s : StR K F0 H0 F H σ τ) {i : Nat} {xs : List D} (e : τ[i]? = some (.o xs)) : ∃ F', Same F F' ∧ StR K F0 H0 F' H σ (τ.set i (.d (.list xs))) := by
  obtain ⟨A, W⟩ := s.ows
  obtain ⟨p, vs, eA, a, b, q⟩ := W.o i xs e
  have oi : Own τ i := .inl ⟨xs, e⟩
  obtain ⟨c, d⟩ := W.fr i oi p (by rw [eA]; simp)
  have mo : Same F (upd F p (.lst vs)) := (Ext.newO (fun _ _ e => e) c).hh
  refine ⟨upd F p (.lst vs), mo, s.ext.freeze d c b, by rw [List.length_set]; exact s.len, fun j x ej => ?_, A, fun j ys ej => ?_, fun j yss ej => ?_, fun j kvs ej => by
    rcases set_get ej with ⟨_, e', _⟩ | ⟨hj, e'⟩
    · cases e'
    · obtain ⟨p', vs', a1, a2, a3, a4⟩ := W.k j kvs e'
      exact ⟨p', vs', a1, a2, a3, a4.mono mo⟩, fun j ej x hx => ?_, fun j ej => W.nd j (own_set_d ej).2, fun j k hjk e1 e2 => W.sp j k hjk (own_set_d e1).2 (own_set_d e2).2⟩
  · rcases set_get ej with ⟨rfl, e', _⟩ | ⟨hj, e'⟩
    · cases e'
      exact ⟨_, a, .lst upd_same (q.mono mo)⟩
    · obtain ⟨v, a, b⟩ := s.dat j x e'
      exact ⟨v, a, b.mono mo⟩
  · rcases set_get ej with ⟨_, e', _⟩ | ⟨hj, e'⟩
    · cases e'
    · obtain ⟨p', vs', a1, a2, a3, a4⟩ := W.o j ys e'
      exact ⟨p', vs', a1, a2, a3, a4.mono mo⟩
  · rcases set_get ej with ⟨_, e', _⟩ | ⟨hj, e'⟩
    · cases e'
    · obtain ⟨p', vs', a1, a2, a3, a4⟩ := W.m j yss e'
      exact ⟨p', vs', a1, a2, a3, a4.go mo fun _ _ _ z => z⟩
  · obtain ⟨hj, oj⟩ := own_set_d ej
    have := W.fr j oj x hx
    have hne : x ≠ p := fun z => by
      subst z
      exact W.sp i j hj oi oj x (by rw [eA]; simp) hx
    rw [upd_ne hne]
    exact this
/-- an own list is changed -/
theorem StR.mut (s : StR K F0 H0 F H σ τ) {i : Nat} {xs ds : List D} {p : Addr} {ws : List V} (e : τ[i]? = some (.o xs)) (a : σ[i]? = some (some (.ref p))) (h : DqAll K F ws ds) : StR K F0 H0 F (upd H p (.lst ws)) σ (τ.set i (.o ds)) := by
  obtain ⟨A, W⟩ := s.ows
  obtain ⟨p', vs, eA, a', b, q⟩ := W.o i xs e
  rw [a] at a'; cases a'
  have oi : Own τ i := .inl ⟨xs, e⟩
  obtain ⟨c, d⟩ := W.fr i oi p (by rw [eA]; simp)
  have hi : i < τ.length := (List.getElem?_eq_some_iff.mp e).1
  have ow : ∀ {j}, Own (τ.set i (.o ds)) j → Own τ j := fun {j} z => by
    by_cases hj : i = j
    · subst hj; exact oi
    · exact own_set z hj
  have np : ∀ j, i ≠ j → Own τ j → ∀ x ∈ A j, x ≠ p := fun j hj oj x hx z => by
    subst z
    exact W.sp i j hj oi oj x (by rw [eA]; simp) hx
  refine ⟨⟨fun x o z => ?_, s.ext.ff, fun x o z => ?_, s.ext.fx⟩, by rw [List.length_set]; exact s.len, fun j x ej => ?_, A, fun j ys ej => ?_, fun j yss ej => ?_, fun j kvs ej => by
    rcases set_get ej with ⟨_, e', _⟩ | ⟨hj, e'⟩
    · cases e'
    · obtain ⟨p', vs', a1, a2, a3, a4⟩ := W.k j kvs e'
      exact ⟨p', vs', a1, a2, by rw [upd_ne (np j hj (.inr (.inr ⟨kvs, e'⟩)) p' (by rw [a1]; simp))]; exact a3, a4⟩, fun j ej => W.fr j (ow ej), fun j ej => W.nd j (ow ej), fun j k hjk e1 e2 => W.sp j k hjk (ow e1) (ow e2)⟩
  · rw [upd_ne (ne_of_none z d)]; exact s.ext.hh x o z
  · rw [upd_ne (ne_of_none z c)]; exact s.ext.fh x o z
  · rcases set_get ej with ⟨_, e', _⟩ | ⟨hj, e'⟩
    · cases e'
    · exact s.dat j x e'
  · rcases set_get ej with ⟨rfl, e', _⟩ | ⟨hj, e'⟩
    · cases e'
      exact ⟨p, ws, eA, a, upd_same, h⟩
    · obtain ⟨p', vs', a1, a2, a3, a4⟩ := W.o j ys e'
      exact ⟨p', vs', a1, a2, by rw [upd_ne (np j hj (.inl ⟨ys, e'⟩) p' (by rw [a1]; simp))]; exact a3, a4⟩
  · rcases set_get ej with ⟨_, e', _⟩ | ⟨hj, e'⟩
    · cases e'
    · obtain ⟨p', ps', a1, a2, a3, a4⟩ := W.m j yss e'
      have oj : Own τ j := .inr (.inl ⟨yss, e'⟩)
      exact ⟨p', ps', a1, a2, by rw [upd_ne (np j hj oj p' (by rw [a1]; simp))]; exact a3, a4.go (Same.refl _) fun x hx o z => by rw [upd_ne (np j hj oj x (by rw [a1]; exact List.mem_cons_of_mem _ hx))]; exact z⟩
end

/-! ### statements -/
inductive Out where
  | nx (τ : Ta) | rt (d : D) | ex (n : Str) (τ : Ta) | bk (τ : Ta) | ct (τ : Ta)
def Pst (K : PySem.W.Frag) (mg : Str → Option Value) (W : WX) (F0 H0 F : Hp) (D : Ends) : Out → Prop
  | .nx τ' => ∀ F' H' σ', Same F F' → StR K F0 H0 F' H' σ' τ' → D.nx σ' H'
  | .bk τ' => ∀ F' H' σ', Same F F' → StR K F0 H0 F' H' σ' τ' → D.bk σ' H'
  | .ct τ' => ∀ F' H' σ', Same F F' → StR K F0 H0 F' H' σ' τ' → D.ct σ' H'
  | .rt d => ∀ F' H' v, Ext F0 H0 F' H' → Dq K F' v d → D.rt v H'
  | .ex n τ' => ∀ F' H' σ', StR K F0 H0 F' H' σ' τ' → W (xcl mg n) none σ' H'
def tS (K : PySem.W.Frag) (mg : Str → Option Value) (W : WX) (g : Ta → Option Out) : TS := fun D σ H => ∃ F0 H0 F τ o, StR K F0 H0 F H σ τ ∧ g τ = some o ∧ Pst K mg W F0 H0 F D o
abbrev PD1 (X : Cx) (W : WX) (st : Stmt) (g : Ta → Option Out) : Prop := PS X st (tS X.K X.mg W g)
abbrev PDs (X : Cx) (W : WX) (st : List Stmt) (g : Ta → Option Out) : Prop := PSs X st (tS X.K X.mg W g)
def bndS {α : Type} (x : R α) (τ : Ta) (k : α → Option Out) : Option Out := match x with
  | none => none
  | some (.error n) => some (.ex n τ)
  | some (.ok a) => k a
@[simp] theorem bndS_ok {α : Type} (a : α) (τ : Ta) (k : α → Option Out) : bndS (some (.ok a)) τ k = k a := rfl
@[simp] theorem bndS_er {α : Type} (n : Str) (τ : Ta) (k : α → Option Out) : bndS (some (.error n)) τ k = some (.ex n τ) := rfl
@[simp] theorem bndS_no {α : Type} (τ : Ta) (k : α → Option Out) : bndS none τ k = none := rfl
theorem bndS_some {α : Type} {x : R α} {τ : Ta} {k : α → Option Out} {o : Out} (h : bndS x τ k = some o) : (∃ n, x = some (.error n) ∧ o = .ex n τ) ∨ ∃ a, x = some (.ok a) ∧ k a = some o := by
  cases x with
  | none => cases h
  | some y =>
    cases y with
    | error n => cases h; exact .inl ⟨n, rfl, rfl⟩
    | ok a => exact .inr ⟨a, rfl, h⟩
section
variable {K : PySem.W.Frag} {mg : Str → Option Value} {W : WX} {F0 H0 F H : Hp} {σ : St} {τ : Ta} {D : Ends} {o : Out}
theorem Pst.go {F1 : Hp} (h : Pst K mg W F0 H0 F D o) (e : Same F F1) : Pst K mg W F0 H0 F1 D o := by
  cases o with
  | nx τ => exact fun F' H' σ' a b => h F' H' σ' (e.trans a) b
  | bk τ => exact fun F' H' σ' a b => h F' H' σ' (e.trans a) b
  | ct τ => exact fun F' H' σ' a b => h F' H' σ' (e.trans a) b
  | rt d => exact h
  | ex n τ => exact h
theorem tX_S {α β : Type} {Rel : Hp → β → α → Prop} {fa : Ta → R α} {k : α → Option Out} {Z : β → Hp → Prop} (s : StR K F0 H0 F H σ τ) (hf : bndS (fa τ) τ k = some o) (q : Pst K mg W F0 H0 F D o)
    (c : ∀ x v F1 H1, Ext F H F1 H1 → StR K F0 H0 F1 H1 σ τ → Rel F1 v x → k x = some o → Pst K mg W F0 H0 F1 D o → Z v H1) : tX K mg W Rel fa σ H Z := by
  rcases bndS_some hf with ⟨n, e1, rfl⟩ | ⟨x, e1, hf⟩
  · exact ⟨F0, H0, F, τ, _, s, e1, fun F' H' x' => q F' H' σ (s.go x')⟩
  · exact ⟨F0, H0, F, τ, _, s, e1, fun v F1 H1 x1 dv => c x v F1 H1 x1 (s.go x1) dv hf (q.go x1.ff)⟩
theorem tO_S {fa : Ta → R (List DL.D)} {k : List DL.D → Option Out} {Z : VK} (s : StR K F0 H0 F H σ τ) (hf : bndS (fa τ) τ k = some o) (q : Pst K mg W F0 H0 F D o)
    (c : ∀ x p vs F1 H1, Ext F H F1 H1 → StR K F0 H0 F1 H1 σ τ → H p = none → H1 p = some (.lst vs) → F1 p = none → DqAll K F1 vs x → k x = some o → Pst K mg W F0 H0 F1 D o → Z (.ref p) H1) : tO K mg W fa σ H Z := by
  rcases bndS_some hf with ⟨n, e1, rfl⟩ | ⟨x, e1, hf⟩
  · exact ⟨F0, H0, F, τ, _, s, e1, fun F' H' x' => q F' H' σ (s.go x')⟩
  · exact ⟨F0, H0, F, τ, _, s, e1, fun p vs F1 H1 x1 h1 h2 h3 dv => c x p vs F1 H1 x1 (s.go x1) h1 h2 h3 dv hf (q.go x1.ff)⟩
end
def gNil : Ta → Option Out := fun τ => some (.nx τ)
def gSeq (g h : Ta → Option Out) : Ta → Option Out := fun τ => match g τ with
  | some (.nx τ') => h τ'
  | o => o
def frzT (i : Nat) (τ : Ta) : Ta := match τ[i]? with
  | some (.o xs) => τ.set i (.d (.list xs))
  | _ => τ
def gFrz (i : Nat) (h : Ta → Option Out) : Ta → Option Out := fun τ => h (frzT i τ)
def gSet (i : Nat) (f : Ta → R D) : Ta → Option Out := fun τ => bndS (f τ) τ fun d => some (.nx (τ.set i (.d d)))
def gSetO (i : Nat) (f : Ta → R (List D)) : Ta → Option Out := fun τ => bndS (f τ) τ fun ds => some (.nx (τ.set i (.o ds)))
def gEx (f : Ta → R D) : Ta → Option Out := fun τ => bndS (f τ) τ fun _ => some (.nx τ)
def gRet (f : Ta → R D) : Ta → Option Out := fun τ => bndS (f τ) τ fun d => some (.rt d)
def gRetN : Ta → Option Out := fun _ => some (.rt .none)
def gIf (t : Ta → R Bool) (g h : Ta → Option Out) : Ta → Option Out := fun τ => bndS (t τ) τ fun b => if b then g τ else h τ
def gBk : Ta → Option Out := fun τ => some (.bk τ)
def gCt : Ta → Option Out := fun τ => some (.ct τ)
def gPar (i j : Nat) (f g : Ta → R D) : Ta → Option Out := fun τ => bndS (f τ) τ fun x => bndS (g τ) τ fun y => some (.nx ((τ.set i (.d x)).set j (.d y)))
section
variable {X : Cx} {W : WX} {st : Stmt} {rest : List Stmt} {g h : Ta → Option Out} {e : Expr} {f f' : Ta → R D} {ft : Ta → R Bool} {pos : Pos}
theorem sNil : PDs X W [] gNil := PSs.conseq pss_nil fun D σ H ⟨F0, H0, F, τ, o, s, hf, q⟩ => by
  cases hf
  exact q F H σ (Same.refl _) s
theorem sCons (h1 : PD1 X W st g) (h2 : PDs X W rest h) : PDs X W (st :: rest) (gSeq g h) := by
  refine PSs.conseq (pss_cons h1 h2) fun D σ H ⟨F0, H0, F, τ, o, s, hf, q⟩ => ?_
  unfold gSeq at hf
  cases e1 : g τ with
  | none => rw [e1] at hf; cases hf
  | some o1 =>
    rw [e1] at hf
    refine ⟨F0, H0, F, τ, o1, s, e1, ?_⟩
    cases o1 with
    | nx τ' => exact fun F' H' σ' a b => ⟨F0, H0, F', τ', o, b, hf, q.go a⟩
    | bk τ' => cases hf; exact q
    | ct τ' => cases hf; exact q
    | rt d => cases hf; exact q
    | ex n τ' => cases hf; exact q
theorem sFrz (i : Nat) (h1 : PDs X W rest h) : PDs X W rest (gFrz i h) := by
  refine PSs.conseq h1 fun D σ H ⟨F0, H0, F, τ, o, s, hf, q⟩ => ?_
  unfold gFrz frzT at hf
  split at hf
  · rename_i xs hx
    obtain ⟨F', a, b⟩ := s.frz hx
    exact ⟨F0, H0, F', _, o, b, hf, q.go a⟩
  · exact ⟨F0, H0, F, τ, o, s, hf, q⟩
theorem sSet (i : Nat) {x : Str} {pos' : Pos} (he : PD X W e f) (hN : X.N.Nodup) (hi : X.N[i]? = some x := by rfl) (hx : Loc X.env.scope x := by first | exact Or.inl rfl | exact Or.inr rfl) (hs : swapsWith e (some (.Name x pos')) pos.line X.env = pure false := by rfl)
    (hf : X.fn x = true ∨ X.env.scope.names.lookup x = some .local := by first | exact .inl rfl | exact .inr rfl | assumption) : PD1 X W (.Assign [.Name x pos'] e pos) (gSet i f) := by
  refine PS.conseq (ps_set hN hi hx he hs hf) fun D σ H ⟨F0, H0, F, τ, o, s, hf, q⟩ => ?_
  refine tX_S s hf q fun d v F1 H1 x1 s1 dv hf q => ?_
  cases hf
  exact q F1 H1 _ (Same.refl _) (s1.setD i dv)
theorem sSetO (i : Nat) {x : Str} {pos' : Pos} {f : Ta → R (List D)} (he : PL X W e f) (hN : X.N.Nodup) (hi : X.N[i]? = some x := by rfl) (hx : Loc X.env.scope x := by first | exact Or.inl rfl | exact Or.inr rfl) (hs : swapsWith e (some (.Name x pos')) pos.line X.env = pure false := by rfl)
    (hf : X.fn x = true ∨ X.env.scope.names.lookup x = some .local := by first | exact .inl rfl | exact .inr rfl | assumption) : PD1 X W (.Assign [.Name x pos'] e pos) (gSetO i f) := by
  refine PS.conseq (ps_set hN hi hx he hs hf) fun D σ H ⟨F0, H0, F, τ, o, s, hf, q⟩ => ?_
  refine tO_S s hf q fun d p vs F1 H1 x1 s1 n1 h1 nF dv hf q => ?_
  cases hf
  exact q F1 H1 _ (Same.refl _) (s.setO i x1 n1 h1 nF dv)
theorem sEx (he : PD X W e f) (hs : swapsWith e none pos.line X.env = pure false := by rfl) : PD1 X W (.Expr e pos) (gEx f) := by
  refine PS.conseq (ps_expr he hs) fun D σ H ⟨F0, H0, F, τ, o, s, hf, q⟩ => ?_
  refine tX_S s hf q fun d v F1 H1 x1 s1 dv hf q => ?_
  cases hf
  exact q F1 H1 _ (Same.refl _) s1
theorem sRet (he : PD X W e f) : PD1 X W (.Return (some e) pos) (gRet f) := by
  refine PS.conseq (ps_ret he) fun D σ H ⟨F0, H0, F, τ, o, s, hf, q⟩ => ?_
  refine tX_S s hf q fun d v F1 H1 x1 s1 dv hf q => ?_
  cases hf
  exact q F1 H1 v s1.ext dv
theorem sRetN : PD1 X W (.Return none pos) gRetN := by
  refine PS.conseq ps_retN fun D σ H ⟨F0, H0, F, τ, o, s, hf, q⟩ => ?_
  cases hf
  exact q F H _ s.ext .non
theorem sPass : PD1 X W (.Pass pos) gNil := PS.conseq ps_pass fun D σ H ⟨F0, H0, F, τ, o, s, hf, q⟩ => by
  cases hf
  exact q F H σ (Same.refl _) s
theorem sBk : PD1 X W (.Break pos) gBk := PS.conseq ps_break fun D σ H ⟨F0, H0, F, τ, o, s, hf, q⟩ => by
  cases hf
  exact q F H σ (Same.refl _) s
theorem sCt : PD1 X W (.Continue pos) gCt := PS.conseq ps_continue fun D σ H ⟨F0, H0, F, τ, o, s, hf, q⟩ => by
  cases hf
  exact q F H σ (Same.refl _) s
theorem sIf {c : Expr} {a b : List Stmt} (hc : PB X W c ft) (ha : PDs X W a g) (hb : PDs X W b h) : PD1 X W (.If c a b pos) (gIf ft g h) := by
  refine PS.conseq (ps_if hc ha hb) fun D σ H ⟨F0, H0, F, τ, o, s, hf, q⟩ => ?_
  refine tX_S s hf q fun k v F1 H1 x1 s1 dv hf q => ?_
  subst dv
  cases v with
  | true => exact ⟨F0, H0, F1, τ, o, s1, hf, q⟩
  | false => exact ⟨F0, H0, F1, τ, o, s1, hf, q⟩
theorem sPar (i j : Nat) {x y : Str} {a b : Expr} {px py pt : Pos} {kt k2 pt2} (ha : PD X W a f) (hb : PD X W b f') (hN : X.N.Nodup) (hc : X.calm = true := by rfl) (hi : X.N[i]? = some x := by rfl) (hj : X.N[j]? = some y := by rfl) (hij : i ≠ j := by decide)
    (hx : X.env.scope.names.lookup x = some .local := by rfl) (hy : X.env.scope.names.lookup y = some .local := by rfl)
    (hsa : starEach [a, b] X.env = (false, eval a X.env) :: starEach [b] X.env := by rfl) (hsb : starEach [b] X.env = (false, eval b X.env) :: starEach [] X.env := by rfl)
    (hw : swappedStores [.Tuple [.Name x px, .Name y py] kt pt] (.Tuple [a, b] k2 pt2) X.env = pure (some [x, y]) := by rfl)
    (hs : swapsWithSole [.Tuple [.Name x px, .Name y py] kt pt] (.Tuple [a, b] k2 pt2) pos.line X.env = pure false := by rfl) :
    PD1 X W (.Assign [.Tuple [.Name x px, .Name y py] kt pt] (.Tuple [a, b] k2 pt2) pos) (gPar i j f f') := by
  refine PS.conseq (ps_par hc hN hi hj hij hx hy (pa_cons ha (pa_cons hb pa_nil hsb) hsa) hw hs) fun D σ H ⟨F0, H0, F, τ, o, s, hf, q⟩ => ?_
  refine tX_S s hf q fun d v F1 H1 x1 s1 dv hf q => ?_
  refine tX_S s1 hf q fun d2 v2 F2 H2 x2 s2 dv2 hf q => ?_
  cases hf
  exact ⟨v, v2, rfl, q F2 H2 _ (Same.refl _) ((s2.setD i (dv.mono x2.ff)).setD j dv2)⟩
end

/-! ### targets -/
def tG (K : PySem.W.Frag) (sl : List Nat) (f : D → Ta → Option Ta) : TG := fun v σ H Q => ∃ F0 H0 F τ d τ', StR K F0 H0 F H σ τ ∧ Dq K F v d ∧ f d τ = some τ' ∧
  ∀ σ', StR K F0 H0 F H σ' τ' → σ'.length = σ.length → (∀ j, j ∉ sl → σ'[j]? = σ[j]?) → Q σ' H
def tGs (K : PySem.W.Frag) (sl : List Nat) (f : List D → Ta → Option Ta) : TGs := fun v σ H Q => ∃ F0 H0 F τ d τ', StR K F0 H0 F H σ τ ∧ DqAll K F v d ∧ f d τ = some τ' ∧
  ∀ σ', StR K F0 H0 F H σ' τ' → σ'.length = σ.length → (∀ j, j ∉ sl → σ'[j]? = σ[j]?) → Q σ' H
def gN (i : Nat) : D → Ta → Option Ta := fun d τ => some (τ.set i (.d d))
def gT (f : List D → Ta → Option Ta) : D → Ta → Option Ta := fun d τ => match d with
  | .tuple ds => f ds τ
  | _ => none
def gs0 : List D → Ta → Option Ta := fun ds τ => match ds with
  | [] => some τ
  | _ => none
def gs1 (f : D → Ta → Option Ta) (g : List D → Ta → Option Ta) : List D → Ta → Option Ta := fun ds τ => match ds with
  | d :: r => (f d τ).bind (g r)
  | [] => none
def gAsg (f : Ta → R D) (g : D → Ta → Option Ta) : Ta → Option Out := fun τ => bndS (f τ) τ fun d => (g d τ).map .nx
section
variable {X : Cx} {W : WX} {pos : Pos}
theorem tgN (i : Nat) {x : Str} (hN : X.N.Nodup) (hi : X.N[i]? = some x := by rfl) (hx : Loc X.env.scope x := by first | exact Or.inl rfl | exact Or.inr rfl) (hf : X.fn x = true ∨ X.env.scope.names.lookup x = some .local := by first | exact .inl rfl | exact .inr rfl | assumption) :
    PG X (.Name x pos) (tG X.K [i] (gN i)) := by
  refine PG.conseq (pg_name hN hi hx hf) fun v σ H Q ⟨F0, H0, F, τ, d, τ', s, dv, e, q⟩ => ?_
  cases e
  exact q _ (s.setD i dv) (List.length_set ..) fun j hj => List.getElem?_set_ne fun z => hj (by simp [z])
theorem tg0 : PGs X [] (tGs X.K [] gs0) := by
  refine ⟨fun pins s σ H vs us Q I r ⟨F0, H0, F, τ, d, τ', s', dv, e, q⟩ => pgs_nil.run pins s σ H vs us Q I r ?_⟩
  cases dv with
  | nil => cases e; exact ⟨rfl, q σ s' rfl fun _ _ => rfl⟩
  | cons _ _ => cases e
theorem tg1 {e : Expr} {es : List Expr} {sl sl' : List Nat} {f : D → Ta → Option Ta} {g : List D → Ta → Option Ta} (h1 : PG X e (tG X.K sl f)) (h2 : PGs X es (tGs X.K sl' g))
    (hs : (assignEach (e :: es) X.env).map (·.2) = assign e X.env :: (assignEach es X.env).map (·.2) := by rfl) : PGs X (e :: es) (tGs X.K (sl ++ sl') (gs1 f g)) := by
  refine ⟨fun pins s σ H vs us Q I r ⟨F0, H0, F, τ, d, τ', s', dv, e', q⟩ => (pgs_cons h1 h2 hs).run pins s σ H vs us Q I r ?_⟩
  cases dv with
  | nil => cases e'
  | @cons v vs x xs da db =>
    obtain ⟨τ1, e1, e2⟩ := Option.bind_eq_some_iff.mp e'
    refine ⟨v, vs, rfl, F0, H0, F, τ, x, τ1, s', da, e1, fun σ1 s1 l1 k1 => ⟨F0, H0, F, τ1, xs, τ', s1, db, e2, fun σ2 s2 l2 k2 => q σ2 s2 (l2.trans l1) fun j hj => ?_⟩⟩
    rw [k2 j fun z => hj (List.mem_append_right _ z), k1 j fun z => hj (List.mem_append_left _ z)]
theorem tgT {es : List Expr} {k : Nat} {sl : List Nat} {f : List D → Ta → Option Ta} {n : Nat} (h : PGs X es (tGs X.K sl f)) (hl : ∀ ds τ τ', f ds τ = some τ' → ds.length = n) (hc : X.calm = true := by rfl)
    (hn : (assignEach es X.env).length = n := by rfl) (hst : (assignEach es X.env).findIdx? (·.1) = none := by rfl) : PG X (.Tuple es k pos) (tG X.K sl (gT f)) := by
  refine PG.conseq (pg_tup hc h hn hst) fun v σ H Q ⟨F0, H0, F, τ, d, τ', s, dv, e, q⟩ => ?_
  cases dv with
  | tup ha hb => exact ⟨_, _, rfl, sameT s.fh ha, by rw [hb.length]; exact hl _ _ _ e, F0, H0, F, τ, _, τ', s, hb, e, q⟩
  | _ => cases e
theorem gs0_len (ds : List D) (τ τ' : Ta) (h : gs0 ds τ = some τ') : ds.length = 0 := by
  cases ds with
  | nil => rfl
  | cons _ _ => cases h
theorem gs1_len {f : D → Ta → Option Ta} {g : List D → Ta → Option Ta} {n : Nat} (hg : ∀ ds τ τ', g ds τ = some τ' → ds.length = n) (ds : List D) (τ τ' : Ta) (h : gs1 f g ds τ = some τ') : ds.length = n + 1 := by
  cases ds with
  | nil => cases h
  | cons d r =>
    obtain ⟨τ1, e1, e2⟩ := Option.bind_eq_some_iff.mp h
    rw [List.length_cons, hg r τ1 τ' e2]
theorem sAsg {tg e : Expr} {f : Ta → R D} {sl : List Nat} {g : D → Ta → Option Ta} (he : PD X W e f) (hg : PG X tg (tG X.K sl g)) (hs : swapsWithSole [tg] e pos.line X.env = pure false := by rfl) (hw : swappedStores [tg] e X.env = pure none := by rfl)
    (h1 : (assignEach [tg] X.env).map (·.2) = [assign tg X.env] := by rfl) : PD1 X W (.Assign [tg] e pos) (gAsg f g) := by
  refine PS.conseq (ps_asg he hg hs hw h1) fun D σ H ⟨F0, H0, F, τ, o, s, hf, q⟩ => ?_
  refine tX_S s hf q fun d v F1 H1 x1 s1 dv hf q => ?_
  obtain ⟨τ', e, rfl⟩ := Option.map_eq_some_iff.mp hf
  exact ⟨F0, H0, F1, τ, d, τ', s1, dv, e, fun σ' s' _ _ => q F1 H1 σ' (Same.refl _) s'⟩
end

/-! ### own lists -/
def ixO (xs : List D) : D → Option D
  | .int n => atI xs n
  | _ => none
def fOix (i : Nat) (f : Ta → R D) : Ta → R D := fun τ => match τ[i]? with
  | some (.o xs) => bnd (f τ) fun k => lft (ixO xs k)
  | _ => none
def fOln (i : Nat) : Ta → R D := fun τ => match τ[i]? with
  | some (.o xs) => ok (.int xs.length)
  | _ => none
def gApp (i : Nat) (f : Ta → R D) : Ta → Option Out := fun τ => match τ[i]? with
  | some (.o xs) => bndS (f τ) τ fun d => if xs.length < 100000 then some (.nx (τ.set i (.o (xs ++ [d])))) else none
  | _ => none
def putO (i : Nat) (τ : Ta) (xs : List D) (d : D) : D → Option Out
  | .int n => (ixN xs.length n).map fun j => .nx (τ.set i (.o (xs.set j d)))
  | _ => none
def gPut (i : Nat) (fe fi : Ta → R D) : Ta → Option Out := fun τ => bndS (fe τ) τ fun d => match τ[i]? with
  | some (.o xs) => bndS (fi τ) τ fun k => putO i τ xs d k
  | _ => none
theorem DqAll.at {K : PySem.W.Frag} {F : Hp} {vs : List V} {ds : List D} (h : DqAll K F vs ds) {n : Int} {d : D} (e : atI ds n = some d) : ∃ v, atI vs n = some v ∧ Dq K F v d := by
  unfold atI at e ⊢
  rw [h.length]
  obtain ⟨j, e1, e2⟩ := Option.bind_eq_some_iff.mp e
  obtain ⟨v, a, b⟩ := h.get e2
  exact ⟨v, by rw [e1]; exact a, b⟩
theorem lt5 {n : Nat} (h : n < 100000) : n < sizeLine := by rw [sizeLine_eq]; omega
section
variable {X : Cx} {W : WX} {e b : Expr} {f fe fi : Ta → R D} {pos p p2 : Pos} {x : Str}
theorem oIx (i : Nat) (hb : PD X W b f) (hN : X.N[i]? = some x := by rfl) (hv : Vis X.env.scope x := by first | exact Or.inl rfl | exact Or.inr (Or.inl rfl) | exact Or.inr (Or.inr rfl)) (hd : (x == ("__debug__" : Str)) = false := by decide)
    (hcd : (x == ("__classdict__" : Str)) = false := by decide) (hs : PlainIx b := by exact fun _ _ => rfl) : PD X W (.Subscript (.Name x p) b pos) (fOix i f) := by
  refine PE.conseq (pe_ix ix_list (pe_var (i := i) hN hv hd hcd) hb hs) fun σ H Q ⟨F0, H0, F, τ, r, s, hf, q⟩ => ?_
  unfold fOix at hf
  split at hf
  · rename_i xs hx
    obtain ⟨p, vs, a, b, c, d, z⟩ := s.own i xs hx
    refine ⟨_, a, tX_bnd s hf q fun k w F1 H1 x1 s1 dw hf q => ?_⟩
    obtain ⟨y, e, rfl⟩ := lft_eq hf
    cases dw with
    | int n =>
      obtain ⟨v, e', dv⟩ := (z.mono x1.ff).at e
      exact ⟨p, vs, n, v, rfl, rfl, .of (x1.hh _ _ b), e', q v F1 H1 (.refl x1.fh) dv⟩
    | _ => cases e
  · cases hf
theorem oLn (i : Nat) (hm : X.mg "len" = none) (hN : X.N[i]? = some x := by rfl) (hv : Vis X.env.scope x := by first | exact Or.inl rfl | exact Or.inr (Or.inl rfl) | exact Or.inr (Or.inr rfl)) (hd : (x == ("__debug__" : Str)) = false := by decide)
    (hcd : (x == ("__classdict__" : Str)) = false := by decide) (hg : Gl X "len" := by rfl) : PD X W (.Call (.Name "len" p2) [.Name x p] [] pos) (fOln i) := by
  refine PE.conseq (pe_callB call_len_seq hg hm PySem.boot_len (pa_cons (pe_var (i := i) hN hv hd hcd) pa_nil)) fun σ H Q ⟨F0, H0, F, τ, r, s, hf, q⟩ => ?_
  unfold fOln at hf
  split at hf
  · rename_i xs hx
    cases hf
    obtain ⟨p, vs, a, b, c, d, z⟩ := s.own i xs hx
    exact ⟨_, a, p, vs, rfl, .inl (.of b), q _ F H (.refl s.fh) (by rw [z.length]; exact .int _)⟩
  · cases hf
theorem oApp (i : Nat) (he : PD X W e f) (hN : X.N[i]? = some x := by rfl) (hv : Vis X.env.scope x := by first | exact Or.inl rfl | exact Or.inr (Or.inl rfl) | exact Or.inr (Or.inr rfl)) (hd : (x == ("__debug__" : Str)) = false := by decide)
    (hcd : (x == ("__classdict__" : Str)) = false := by decide) {p3 p4 p5 : Pos} (hse : starEach [e] X.env = (false, eval e X.env) :: starEach [] X.env := by rfl)
    (hfew : ((backTo p5 (starEach [e] X.env)).all (fun x => !x.1) && (backToKw p5 (keywordEach [] X.env)).all (fun x => x.1.isSome)
      && decide ([e].length + ([] : List Keyword).length + (if ([] : List Keyword).isEmpty then 0 else 1) < 30)) = true := by rfl)
    (hline : (p4.endLine == p5.line) = true := by rfl)
    (hs : swapsWith (.Call (.Attribute (.Name x p3) "append" p4) [e] [] p5) none pos.line X.env = pure false := by rfl) :
    PD1 X W (.Expr (.Call (.Attribute (.Name x p3) "append" p4) [e] [] p5) pos) (gApp i f) := by
  refine PS.conseq (ps_expr (pe_bm PySem.F.plainAttrs_list PySem.F.slot_list_append PySem.F.type_list_append mt_append (pe_var (i := i) hN hv hd hcd) (pa_cons he pa_nil hse) rfl hfew hline hse) hs) fun D σ H ⟨F0, H0, F, τ, o, s, hf, q⟩ => ?_
  unfold gApp at hf
  split at hf
  · rename_i xs hx
    obtain ⟨p, vs, a, b, c, d, z⟩ := s.own i xs hx
    refine ⟨_, a, .inl ⟨rfl, _, .of b⟩, tX_S s hf q fun k w F1 H1 x1 s1 dw hf q => ?_⟩
    split at hf
    · rename_i hl
      cases hf
      refine ⟨p, vs, w, rfl, rfl, x1.hh _ _ b, by rw [z.length]; exact lt5 hl, ?_⟩
      exact q F1 _ σ (Same.refl _) (s1.mut hx a ((z.mono x1.ff).append (.cons dw .nil)))
    · cases hf
  · cases hf
theorem oPut (i : Nat) (he : PD X W e fe) (hb : PD X W b fi) (hN : X.N[i]? = some x := by rfl) (hv : Vis X.env.scope x := by first | exact Or.inl rfl | exact Or.inr (Or.inl rfl) | exact Or.inr (Or.inr rfl)) (hd : (x == ("__debug__" : Str)) = false := by decide)
    (hcd : (x == ("__classdict__" : Str)) = false := by decide) {p3 p4 : Pos}
    (ha : ∀ v, assign (.Subscript (.Name x p3) b p4) X.env v = (do
      let ov ← holding [v] (eval (.Name x p3) X.env)
      let iv ← holding [v, ov] (eval b X.env)
      standAt p4
      holding [v, ov, iv] (setItem ov iv v)
      release [v, ov, iv] []) := by intro _; rfl)
    (hs : swapsWithSole [.Subscript (.Name x p3) b p4] e pos.line X.env = pure false := by rfl) (hw : swappedStores [.Subscript (.Name x p3) b p4] e X.env = pure none := by rfl)
    (h1 : (assignEach [.Subscript (.Name x p3) b p4] X.env).map (·.2) = [assign (.Subscript (.Name x p3) b p4) X.env] := by rfl) :
    PD1 X W (.Assign [.Subscript (.Name x p3) b p4] e pos) (gPut i fe fi) := by
  refine PS.conseq (ps_asg he (pg_sub (pe_var (i := i) hN hv hd hcd) hb set_list ha) hs hw h1) fun D σ H ⟨F0, H0, F, τ, o, s, hf, q⟩ => ?_
  refine tX_S s hf q fun d v F1 H1 x1 s1 dv hf q => ?_
  split at hf
  · rename_i xs hx
    obtain ⟨p, vs, a, b, c, _, z⟩ := s1.own i xs hx
    refine ⟨_, a, tX_S s1 hf q fun k w F2 H2 x2 s2 dw hf q => ?_⟩
    cases dw with
    | int n =>
      obtain ⟨j, e, rfl⟩ := Option.map_eq_some_iff.mp hf
      refine ⟨p, vs, n, j, rfl, rfl, x2.hh _ _ b, by rw [z.length]; exact e, ?_⟩
      exact q F2 _ σ (Same.refl _) (s2.mut hx a ((z.mono x2.ff).set (dv.mono x2.ff) j))
    | _ => cases hf
  · cases hf
end

/-! ### what is walked -/
/-- J goes over the data xs while G stands; F: where they are frozen -/
def Walks (K : PySem.W.Frag) (J : It) (G F : Hp) (xs : List D) : Prop := ∀ (i : Nat) (H : Hp), Same G H → (i < xs.length → J.go i H) ∧ (i = xs.length → J.stop i H) ∧
  ∀ d, xs[i]? = some d → ∀ x H1, J.yld i H x H1 → ∀ F2, Same F F2 → Same F2 H → ∃ F3, Ext F2 H F3 H1 ∧ Dq K F3 x d
def RI (K : PySem.W.Frag) (mg : Str → Option Value) (W : WX) (σ : St) (F H : Hp) (R : It → Hp → Prop) : Except Str (List D) → Prop
  | .ok xs => ∀ J F' H', Ext F H F' H' → Walks K J F' F' xs → R J H'
  | .error n => ∀ F' H', Ext F H F' H' → W (xcl mg n) none σ H'
def tI (K : PySem.W.Frag) (mg : Str → Option Value) (W : WX) (f : Ta → R (List D)) : TI := fun σ H Q => ∃ F0 H0 F τ r, StR K F0 H0 F H σ τ ∧ f τ = some r ∧ RI K mg W σ F H Q r
def RJ (K : PySem.W.Frag) (mg : Str → Option Value) (W : WX) (σ : St) (F H : Hp) (R : It → Hp → Prop) : Except Str (List D) → Prop
  | .ok xs => ∀ J G F' H', Ext F H F' H' → Same G H' → Walks K J G F' xs → R J H'
  | .error n => ∀ F' H', Ext F H F' H' → W (xcl mg n) none σ H'
/-- .. the walked list may be own: for comprehensions -/
def tJ (K : PySem.W.Frag) (mg : Str → Option Value) (W : WX) (f : Ta → R (List D)) : TI := fun σ H Q => ∃ F0 H0 F τ r, StR K F0 H0 F H σ τ ∧ f τ = some r ∧ RJ K mg W σ F H Q r
abbrev PIt (X : Cx) (W : WX) (tg e : Expr) (f : Ta → R (List D)) : Prop := PI X tg e (tI X.K X.mg W f)
abbrev PJt (X : Cx) (W : WX) (tg e : Expr) (f : Ta → R (List D)) : Prop := PI X tg e (tJ X.K X.mg W f)
theorem PI.conseq {X : Cx} {tg e : Expr} {t t' : TI} (h : PI X tg e t) (i : ∀ σ H Q, t' σ H Q → t σ H Q) : PI X tg e t' := ⟨fun pins s σ H Q I q => h.run pins s σ H Q I (i σ H Q q)⟩
theorem iJ {X : Cx} {W : WX} {tg e : Expr} {f : Ta → R (List D)} (h : PIt X W tg e f) : PJt X W tg e f := PI.conseq h fun σ H Q ⟨F0, H0, F, τ, r, s, hf, q⟩ => ⟨F0, H0, F, τ, r, s, hf, by
  cases r with
  | ok xs => exact fun J F' H' x w => q J F' F' H' x x.fh w
  | error n => exact q⟩
def seqD : D → Option (List D)
  | .list xs => some xs
  | .tuple xs => some xs
  | _ => none
def fSq (f : Ta → R D) : Ta → R (List D) := fun τ => bnd (f τ) fun d => lft (seqD d)
theorem pi_seq {X : Cx} {tg l : Expr} {tl : TE} (hl : PE X l tl) : PI X tg l (fun σ H R => tl σ H fun x H1 => ∃ a, x = .ref a ∧ (((∃ xs, SqL X.K H1 a xs) ∧ R (Itl X.K a) H1) ∨ ((∃ xs, SqT X.K H1 a xs) ∧ R (Itt X.K a) H1))) := by
  refine ⟨fun pins s σ H R I h => ?_⟩
  refine thn (hl.run pins s σ H _ I h) fun v s1 ⟨x, H1, I1, r1, q1⟩ => ?_
  obtain ⟨a, e, z⟩ := q1
  subst e
  cases r1
  rcases z with ⟨⟨xs, hq⟩, q⟩ | ⟨⟨xs, hq⟩, q⟩
  · obtain ⟨its, rv, p, hz⟩ := I1.list hq
    refine wpAny_pyIter_list p.isList ?_
    refine ⟨s1.heap.objs.size, [s1.heap.objs.size], _, _, H1, rfl, I1.kept (t' := s1.toks) fun b o e => Heap.get?_push_of_some _ e, turn_list a _, ⟨_, Heap.get?_push_size _ rfl, rfl, rfl⟩, fun b hb => ?_, q⟩
    have e : b = s1.heap.objs.size := by simpa using hb
    subst e
    exact I1.fpOk (Nat.le_refl _) (I1.hok.fresh (Nat.le_refl _))
  · obtain ⟨its, rv, p, hz⟩ := I1.tuple hq
    refine wpAny_pyIter_tuple (show s1.heap.IsTuple a its.toArray from p) ?_
    refine ⟨s1.heap.objs.size, [s1.heap.objs.size], _, _, H1, rfl, I1.kept (t' := s1.toks) fun b o e => Heap.get?_push_of_some _ e, turn_tuple a _, ⟨_, Heap.get?_push_size _ rfl, rfl, rfl⟩, fun b hb => ?_, q⟩
    have e : b = s1.heap.objs.size := by simpa using hb
    subst e
    exact I1.fpOk (Nat.le_refl _) (I1.hok.fresh (Nat.le_refl _))
theorem walks_l {K : PySem.W.Frag} {a : Addr} {G F : Hp} {vs : List V} {xs : List D} (h : G a = some (.lst vs)) (q : DqAll K F vs xs) : Walks K (Itl K a) G F xs := fun i H sm => by
  have hl : SqL K H a vs := .of (sm _ _ h)
  refine ⟨fun hi => ?_, fun hi => ⟨vs, hl, by rw [q.length]; exact Nat.le_of_eq hi.symm⟩, fun d hd x H1 hy F2 s2 s3 => ?_⟩
  · obtain ⟨v, e, _⟩ := q.get (List.getElem?_eq_getElem hi)
    exact ⟨vs, v, hl, e⟩
  · obtain ⟨rfl, hy⟩ := hy
    obtain ⟨v, e, dv⟩ := q.get hd
    have e' := hy vs hl
    rw [e] at e'; cases e'
    exact ⟨F2, .refl s3, dv.mono s2⟩
theorem walks_t {K : PySem.W.Frag} {a : Addr} {G F : Hp} {vs : List V} {xs : List D} (h : SqT K G a vs) (q : DqAll K F vs xs) : Walks K (Itt K a) G F xs := fun i H sm => by
  have hl : SqT K H a vs := sameT sm h
  refine ⟨fun hi => ?_, fun hi => ⟨vs, hl, by rw [q.length]; exact Nat.le_of_eq hi.symm⟩, fun d hd x H1 hy F2 s2 s3 => ?_⟩
  · obtain ⟨v, e, _⟩ := q.get (List.getElem?_eq_getElem hi)
    exact ⟨vs, v, hl, e⟩
  · obtain ⟨rfl, hy⟩ := hy
    obtain ⟨v, e, dv⟩ := q.get hd
    have e' := hy vs hl
    rw [e] at e'; cases e'
    exact ⟨F2, .refl s3, dv.mono s2⟩
/-- lo, lo + 1, .. -/
def rngD (lo : Int) (n : Nat) : List D := (List.range n).map fun i : Nat => .int (lo + (i : Int))
theorem rngD_len (lo : Int) (n : Nat) : (rngD lo n).length = n := by simp [rngD]
theorem walks_r {K : PySem.W.Frag} {G F : Hp} (lo : Int) (n : Nat) : Walks K (Itr lo n) G F (rngD lo n) := fun i H sm => by
  refine ⟨fun hi => by rw [rngD_len] at hi; exact hi, fun hi => by rw [rngD_len] at hi; exact Nat.le_of_eq hi.symm, fun d hd x H1 hy F2 s2 s3 => ?_⟩
  obtain ⟨rfl, rfl⟩ := hy
  have hi : i < n := by
    have := (List.getElem?_eq_some_iff.mp hd).1
    rw [rngD_len] at this; exact this
  have e : d = .int (lo + i) := by
    have h2 : (rngD lo n)[i]? = some (.int (lo + i)) := by
      simp [rngD, hi]
    rw [h2] at hd; cases hd; rfl
  subst e
  exact ⟨F2, .refl s3, .int _⟩
def rg1 : List D → Option (List D)
  | [.int n] => if n.natAbs < 2 ^ 62 then some (rngD 0 n.toNat) else none
  | _ => none
def rg2 : List D → Option (List D)
  | [.int m, .int n] => if m.natAbs < 2 ^ 62 ∧ n.natAbs < 2 ^ 62 then some (rngD m (n - m).toNat) else none
  | _ => none
def fRg1 (f : Ta → R (List D)) : Ta → R (List D) := fun τ => bnd (f τ) fun xs => lft (rg1 xs)
def fRg2 (f : Ta → R (List D)) : Ta → R (List D) := fun τ => bnd (f τ) fun xs => lft (rg2 xs)
def fOw (i : Nat) : Ta → R (List D) := fun τ => match τ[i]? with
  | some (.o xs) => ok xs
  | _ => none
section
variable {X : Cx} {W : WX} {tg e a b : Expr} {f : Ta → R D} {fs : Ta → R (List D)} {p pos : Pos} {x : Str}
theorem iSq (h : PD X W e f) : PIt X W tg e (fSq f) := by
  refine PI.conseq (pi_seq h) fun σ H Q ⟨F0, H0, F, τ, r, s, hf, q⟩ => ?_
  rcases bnd_some hf with ⟨n, e1, rfl⟩ | ⟨d, e1, hf⟩
  · exact ⟨F0, H0, F, τ, _, s, e1, q⟩
  · refine ⟨F0, H0, F, τ, _, s, e1, fun v F1 H1 x1 dv => ?_⟩
    obtain ⟨xs, e, rfl⟩ := lft_eq hf
    cases dv with
    | lst h1 h2 => cases e; exact ⟨_, rfl, .inl ⟨⟨_, .of (x1.fh _ _ h1)⟩, q _ F1 H1 x1 (walks_l h1 h2)⟩⟩
    | tup h1 h2 => cases e; exact ⟨_, rfl, .inr ⟨⟨_, sameT x1.fh h1⟩, q _ F1 H1 x1 (walks_t h1 h2)⟩⟩
    | _ => cases e
theorem iOw (i : Nat) (hN : X.N[i]? = some x := by rfl) (hv : Vis X.env.scope x := by first | exact Or.inl rfl | exact Or.inr (Or.inl rfl) | exact Or.inr (Or.inr rfl)) (hd : (x == ("__debug__" : Str)) = false := by decide)
    (hcd : (x == ("__classdict__" : Str)) = false := by decide) : PJt X W tg (.Name x p) (fOw i) := by
  refine PI.conseq (pi_list (pe_var (i := i) hN hv hd hcd)) fun σ H Q ⟨F0, H0, F, τ, r, s, hf, q⟩ => ?_
  unfold fOw at hf
  split at hf
  · rename_i xs hx
    cases hf
    obtain ⟨p, vs, a, b, c, d, z⟩ := s.own i xs hx
    exact ⟨_, a, p, rfl, ⟨vs, .of b⟩, q _ H F H (.refl s.fh) (Same.refl _) (walks_l b z)⟩
  · cases hf
theorem iRg1 (hm : X.mg "range" = none) (ha : PAs X W [a] fs) (hg : Gl X "range" := by rfl) (hs : starEach [a] X.env = [(false, eval a X.env)] := by rfl) : PIt X W tg (.Call (.Name "range" p) [a] [] pos) (fRg1 fs) := by
  refine PI.conseq (pi_range1 hg hm ha hs) fun σ H Q ⟨F0, H0, F, τ, r, s, hf, q⟩ => ?_
  rcases bnd_some hf with ⟨n, e1, rfl⟩ | ⟨ds, e1, hf⟩
  · exact ⟨F0, H0, F, τ, _, s, e1, q⟩
  · refine ⟨F0, H0, F, τ, _, s, e1, fun vs F1 H1 x1 dv => ?_⟩
    obtain ⟨xs, e, rfl⟩ := lft_eq hf
    unfold rg1 at e
    split at e
    · split at e
      · rename_i n hn
        cases e
        cases dv with
        | cons d1 d2 =>
          cases d1; cases d2
          exact ⟨n, rfl, by omega, by omega, q _ F1 H1 x1 (walks_r 0 _)⟩
      · cases e
    · cases e
theorem iRg2 (hm : X.mg "range" = none) (ha : PAs X W [a, b] fs) (hg : Gl X "range" := by rfl) (hs : starEach [a, b] X.env = [(false, eval a X.env), (false, eval b X.env)] := by rfl) (hs2 : starEach [b] X.env = [(false, eval b X.env)] := by rfl) :
    PIt X W tg (.Call (.Name "range" p) [a, b] [] pos) (fRg2 fs) := by
  refine PI.conseq (pi_range2 hg hm ha hs hs2) fun σ H Q ⟨F0, H0, F, τ, r, s, hf, q⟩ => ?_
  rcases bnd_some hf with ⟨n, e1, rfl⟩ | ⟨ds, e1, hf⟩
  · exact ⟨F0, H0, F, τ, _, s, e1, q⟩
  · refine ⟨F0, H0, F, τ, _, s, e1, fun vs F1 H1 x1 dv => ?_⟩
    obtain ⟨xs, e, rfl⟩ := lft_eq hf
    unfold rg2 at e
    split at e
    · split at e
      · rename_i m n hn
        cases e
        cases dv with
        | cons d1 d2 =>
          cases d1
          cases d2 with
          | cons d2 d3 =>
            cases d2; cases d3
            exact ⟨m, n, rfl, ⟨by omega, by omega, by omega, by omega⟩, q _ F1 H1 x1 (walks_r m _)⟩
      · cases e
    · cases e
end

/-! ### for -/
def forD (g : D → Ta → Option Ta) (b : Ta → Option Out) : List D → Ta → Option Out
  | [], τ => some (.nx τ)
  | x :: xs, τ => (g x τ).bind fun τ1 => match b τ1 with
    | some (.nx τ2) => forD g b xs τ2
    | some (.ct τ2) => forD g b xs τ2
    | some (.bk τ2) => some (.nx τ2)
    | o => o
def gFor (f : Ta → R (List D)) (g : D → Ta → Option Ta) (b : Ta → Option Out) : Ta → Option Out := fun τ => bndS (f τ) τ fun xs => forD g b xs τ
section
variable {X : Cx} {W : WX} {tg iter : Expr} {body : List Stmt} {f : Ta → R (List D)} {sl : List Nat} {g : D → Ta → Option Ta} {b : Ta → Option Out} {pos : Pos}
theorem sFor (hi : PIt X W tg iter f) (hg : PG X tg (tG X.K sl g)) (hb : PDs X W body b) (hp : PassesOwn (model X.prog X.w) X.A X.env X.xe) (hc : X.calm = true := by rfl) (hs : ∀ x, foldedSetIterable iter X.env x = pure x := by intro _; rfl) :
    PD1 X W (.For tg iter body [] pos) (gFor f g b) := by
  refine PS.conseq (ps_for hp hc hi hg hb hs) fun D σ H ⟨F0, H0, F, τ, o, s, hf, q⟩ => ?_
  rcases bndS_some hf with ⟨n, e1, rfl⟩ | ⟨xs, e1, hf⟩
  · exact ⟨F0, H0, F, τ, _, s, e1, fun F' H' x' => q F' H' σ (s.go x')⟩
  · refine ⟨F0, H0, F, τ, _, s, e1, fun J F1 H1 x1 wk => ?_⟩
    refine ⟨fun i m σ H => ∃ F2 τ, m = xs.length - i ∧ i ≤ xs.length ∧ Same F1 F2 ∧ StR X.K F0 H0 F2 H σ τ ∧ forD g b (xs.drop i) τ = some o, ⟨xs.length, F1, τ, by simp, Nat.zero_le _, Same.refl _, s.go x1, hf⟩, ?_⟩
    rintro i m σ2 H2 ⟨F2, τ2, rfl, hi, s12, s2, hf⟩
    have wk2 := wk i H2 (s12.trans s2.fh)
    by_cases hlt : i < xs.length
    · rw [List.drop_eq_getElem_cons hlt, forD] at hf
      obtain ⟨τ3, e3, hf⟩ := Option.bind_eq_some_iff.mp hf
      refine .inr ⟨wk2.1 hlt, fun σ' H' => ∃ F' τ', Same F1 F' ∧ StR X.K F0 H0 F' H' σ' τ' ∧ forD g b (xs.drop (i + 1)) τ' = some o, fun σ' H' ⟨F', τ', a1, a2, a3⟩ => ⟨xs.length - (i + 1), by omega, F', τ', rfl, hlt, a1, a2, a3⟩, fun x H3 hy => ?_⟩
      obtain ⟨F3, x3, dx⟩ := wk2.2.2 _ (List.getElem?_eq_getElem hlt) x H3 hy F2 s12 s2.fh
      refine ⟨F0, H0, F3, τ2, _, τ3, s2.go x3, dx, e3, fun σ4 s4 _ _ => ?_⟩
      cases e4 : b τ3 with
      | none => rw [e4] at hf; cases hf
      | some o4 =>
        rw [e4] at hf
        refine ⟨F0, H0, F3, τ3, o4, s4, e4, ?_⟩
        cases o4 with
        | nx τ5 => exact fun F' H' σ' a1 a2 => ⟨F', τ5, (s12.trans x3.ff).trans a1, a2, hf⟩
        | ct τ5 => exact fun F' H' σ' a1 a2 => ⟨F', τ5, (s12.trans x3.ff).trans a1, a2, hf⟩
        | bk τ5 => cases hf; exact fun F' H' σ' a1 a2 => q F' H' σ' (((x1.ff.trans s12).trans x3.ff).trans a1) a2
        | rt d => cases hf; exact q
        | ex n τ5 => cases hf; exact q
    · have e : i = xs.length := by omega
      subst e
      rw [List.drop_length] at hf
      cases hf
      exact .inl ⟨wk2.2.1 rfl, q F2 H2 σ2 (x1.ff.trans s12) s2⟩
end

/-! ### while -/
def whD (t : Ta → R Bool) (b : Ta → Option Out) : Nat → Ta → Option Out
  | 0, _ => none
  | n + 1, τ => bndS (t τ) τ fun k => if k then (match b τ with
    | some (.nx τ2) => whD t b n τ2
    | some (.ct τ2) => whD t b n τ2
    | some (.bk τ2) => some (.nx τ2)
    | o => o) else some (.nx τ)
open Classical in
noncomputable def gWh (t : Ta → R Bool) (b : Ta → Option Out) : Ta → Option Out := fun τ => if h : ∃ n o, whD t b n τ = some o then some (Classical.choose (Classical.choose_spec h)) else none
theorem whD_mono (t : Ta → R Bool) (b : Ta → Option Out) : ∀ (n k : Nat) (τ : Ta) (o : Out), whD t b n τ = some o → whD t b (n + k) τ = some o
  | 0, k, τ, o, h => by cases h
  | n + 1, k, τ, o, h => by
    rw [show n + 1 + k = (n + k) + 1 by omega]
    unfold whD at h ⊢
    rcases bndS_some h with ⟨m, e1, rfl⟩ | ⟨c, e1, hf⟩
    · rw [e1]; rfl
    · rw [e1]
      show (if c then _ else _) = _
      cases c with
      | false => exact hf
      | true =>
        rw [if_pos rfl] at hf ⊢
        cases e4 : b τ with
        | none => rw [e4] at hf; cases hf
        | some o4 =>
          rw [e4] at hf
          cases o4 with
          | nx τ5 => exact whD_mono t b n k τ5 o hf
          | ct τ5 => exact whD_mono t b n k τ5 o hf
          | bk τ5 => exact hf
          | rt d => exact hf
          | ex m τ5 => exact hf
theorem gWh_eq {t : Ta → R Bool} {b : Ta → Option Out} {n : Nat} {τ : Ta} {o : Out} (h : whD t b n τ = some o) : gWh t b τ = some o := by
  have hx : ∃ n o, whD t b n τ = some o := ⟨n, o, h⟩
  unfold gWh
  rw [dif_pos hx]
  have h2 := Classical.choose_spec (Classical.choose_spec hx)
  have h3 := whD_mono t b n (Classical.choose hx) τ o h
  have h4 := whD_mono t b (Classical.choose hx) n τ _ h2
  rw [Nat.add_comm] at h4
  rw [h3] at h4
  exact h4.symm
theorem gWh_some {t : Ta → R Bool} {b : Ta → Option Out} {τ : Ta} {o : Out} (h : gWh t b τ = some o) : ∃ n, whD t b n τ = some o := by
  unfold gWh at h
  split at h
  · rename_i hx
    cases h
    exact ⟨_, Classical.choose_spec (Classical.choose_spec hx)⟩
  · cases h
section
variable {X : Cx} {W : WX} {c : Expr} {body : List Stmt} {t : Ta → R Bool} {b : Ta → Option Out} {pos : Pos}
theorem sWh (hc : PB X W c t) (hb : PDs X W body b) (hp : PassesOwn (model X.prog X.w) X.A X.env X.xe) : PD1 X W (.While c body [] pos) (gWh t b) := by
  refine PS.conseq (ps_while hp hc hb) fun D σ H ⟨F0, H0, F, τ, o, s, hf, q⟩ => ?_
  obtain ⟨n, hf⟩ := gWh_some hf
  refine ⟨fun m σ H => ∃ F2 τ, Same F F2 ∧ StR X.K F0 H0 F2 H σ τ ∧ whD t b m τ = some o, ⟨n, F, τ, Same.refl _, s, hf⟩, ?_⟩
  rintro m σ2 H2 ⟨F2, τ2, s12, s2, hf⟩
  cases m with
  | zero => cases hf
  | succ m =>
    unfold whD at hf
    refine tX_S s2 hf (q.go s12) fun k v F3 H3 x3 s3 dv hf q3 => ?_
    subst dv
    cases v with
    | false => cases hf; exact q3 F3 H3 σ2 (Same.refl _) s3
    | true =>
      rw [if_pos rfl] at hf ⊢
      refine ⟨fun σ' H' => ∃ F' τ', Same F F' ∧ StR X.K F0 H0 F' H' σ' τ' ∧ whD t b m τ' = some o, fun σ' H' ⟨F', τ', a1, a2, a3⟩ => ⟨m, Nat.lt_succ_self _, F', τ', a1, a2, a3⟩, ?_⟩
      cases e4 : b τ2 with
      | none => rw [e4] at hf; cases hf
      | some o4 =>
        rw [e4] at hf
        refine ⟨F0, H0, F3, τ2, o4, s3, e4, ?_⟩
        cases o4 with
        | nx τ5 => exact fun F' H' σ' a1 a2 => ⟨F', τ5, (s12.trans x3.ff).trans a1, a2, hf⟩
        | ct τ5 => exact fun F' H' σ' a1 a2 => ⟨F', τ5, (s12.trans x3.ff).trans a1, a2, hf⟩
        | bk τ5 => cases hf; exact q3
        | rt d => cases hf; exact q3
        | ex n τ5 => cases hf; exact q3
end

/-! ### comprehensions -/
def wipeT (τ : Ta) : List Nat → Ta
  | [] => τ
  | v :: vs => (wipeT τ vs).set v .u
theorem wipeT_length (τ : Ta) : ∀ vs : List Nat, (wipeT τ vs).length = τ.length
  | [] => rfl
  | v :: vs => by unfold wipeT; rw [List.length_set, wipeT_length τ vs]
theorem wipeT_some {τ : Ta} {i : Nat} {x : SV} (hx : x ≠ .u) : ∀ {vs : List Nat}, (wipeT τ vs)[i]? = some x → τ[i]? = some x ∧ i ∉ vs
  | [], h => ⟨h, by simp⟩
  | v :: vs, h => by
    unfold wipeT at h
    by_cases hi : v = i
    · subst hi
      by_cases hv : v < (wipeT τ vs).length
      · rw [List.getElem?_set_self hv] at h; cases h; exact absurd rfl hx
      · rw [List.getElem?_eq_none (by simpa using hv)] at h; cases h
    · rw [List.getElem?_set_ne hi] at h
      obtain ⟨h1, h2⟩ := wipeT_some hx h
      exact ⟨h1, by simp only [List.mem_cons, not_or]; exact ⟨fun e => hi e.symm, h2⟩⟩
theorem wipe_out' {σ : St} {i : Nat} : ∀ {vs : List Nat}, i ∉ vs → (wipe σ vs)[i]? = σ[i]?
  | [], _ => rfl
  | v :: vs, h => by
    unfold wipe
    rw [List.getElem?_set_ne fun z => h (by simp [z]), wipe_out' fun z => h (by simp [z])]
theorem wipe_in {σ : St} {i : Nat} : ∀ {vs : List Nat}, i ∈ vs → i < σ.length → (wipe σ vs)[i]? = some none
  | v :: vs, h, hl => by
    unfold wipe
    by_cases hi : v = i
    · subst hi
      rw [List.getElem?_set_self (by rw [wipe_length]; exact hl)]
    · rw [List.getElem?_set_ne hi]
      rcases List.mem_cons.mp h with z | z
      · exact absurd z.symm hi
      · exact wipe_in z hl
theorem wipe_eq {σ σ2 : St} {vs : List Nat} (hl : σ2.length = σ.length) (h : ∀ j, j ∉ vs → σ2[j]? = (wipe σ vs)[j]?) : wipe σ2 vs = wipe σ vs := by
  apply List.ext_getElem?
  intro j
  by_cases hj : j ∈ vs
  · by_cases hlt : j < σ.length
    · rw [wipe_in hj hlt, wipe_in hj (by rw [hl]; exact hlt)]
    · rw [List.getElem?_eq_none (by rw [wipe_length, hl]; omega), List.getElem?_eq_none (by rw [wipe_length]; omega)]
  · rw [wipe_out' hj, h j hj]
theorem StR.wipe {K : PySem.W.Frag} {F0 H0 F H : Hp} {σ : St} {τ : Ta} (s : StR K F0 H0 F H σ τ) (vs : List Nat) : StR K F0 H0 F H (L2.wipe σ vs) (wipeT τ vs) where
  ext := s.ext
  len := by rw [wipe_length, wipeT_length]; exact s.len
  dat := fun i x e => by
    obtain ⟨e1, e2⟩ := wipeT_some (by simp) e
    rw [wipe_out' e2]
    exact s.dat i x e1
  ows := by
    obtain ⟨A, W⟩ := s.ows
    have ow : ∀ {j}, Own (wipeT τ vs) j → Own τ j := fun {j} z => by
      rcases z with ⟨xs, z⟩ | ⟨xss, z⟩ | ⟨kvs, z⟩
      · exact .inl ⟨xs, (wipeT_some (by simp) z).1⟩
      · exact .inr (.inl ⟨xss, (wipeT_some (by simp) z).1⟩)
      · exact .inr (.inr ⟨kvs, (wipeT_some (by simp) z).1⟩)
    refine ⟨A, fun i x e => ?_, fun i x e => ?_, fun i x e => by
      obtain ⟨e1, e2⟩ := wipeT_some (by simp) e
      rw [wipe_out' e2]
      exact W.k i x e1, fun i e => W.fr i (ow e), fun i e => W.nd i (ow e), fun i j hij e1 e2 => W.sp i j hij (ow e1) (ow e2)⟩
    · obtain ⟨e1, e2⟩ := wipeT_some (by simp) e
      rw [wipe_out' e2]
      exact W.o i x e1
    · obtain ⟨e1, e2⟩ := wipeT_some (by simp) e
      rw [wipe_out' e2]
      exact W.m i x e1
def lcD (g : D → Ta → Option Ta) (t : Ta → R Bool) (e : Ta → R D) (τ : Ta) : List D → Option (List D)
  | [] => some []
  | x :: xs => (g x τ).bind fun τ1 => match t τ1 with
    | some (.ok true) => (match e τ1 with
      | some (.ok d) => (lcD g t e τ xs).map (d :: ·)
      | _ => none)
    | some (.ok false) => lcD g t e τ xs
    | _ => none
def fLc (f : Ta → R (List D)) (g : D → Ta → Option Ta) (t : Ta → R Bool) (e : Ta → R D) (vs : List Nat) : Ta → R (List D) := fun τ => bnd (f τ) fun xs => if xs.length ≤ 100000 then lft (lcD g t e (wipeT τ vs) xs) else none
def fYes : Ta → R Bool := fun _ => ok true
theorem tLc_of {K : PySem.W.Frag} {mg : Str → Option Value} {W : WX} {f : Ta → R (List D)} {sl vs : List Nat} {g : D → Ta → Option Ta} {t : Ta → R Bool} {e : Ta → R D} (hsl : ∀ j ∈ sl, j ∈ vs) {σ : St} {H : Hp} {Q : VK}
    (q : tO K mg W (fLc f g t e vs) σ H Q) : tLc (tJ K mg W f) (tG K sl g) (tT K mg W0 t) (tE K mg W0 e) vs σ H Q := by
  obtain ⟨F0, H0, F, τ, r, s, hf, q⟩ := q
  rcases bnd_some hf with ⟨n, e1, rfl⟩ | ⟨xs, e1, hf⟩
  · exact ⟨F0, H0, F, τ, _, s, e1, q⟩
  split at hf
  · rename_i hlen
    obtain ⟨ds, ed, rfl⟩ := lft_eq hf
    refine ⟨F0, H0, F, τ, _, s, e1, fun J G F1 H1 x1 sG wk D hD => ?_⟩
    have s1 := s.go x1
    refine ⟨fun i m H2 => ∃ F2 acc as, m = xs.length - i ∧ i ≤ xs.length ∧ Ext F1 H1 F2 H2 ∧ F2 D = none ∧ H2 D = some (.lst acc) ∧ DqAll K F2 acc as ∧ acc.length ≤ i ∧ (lcD g t e (wipeT τ vs) (xs.drop i)).map (as ++ ·) = some ds,
      ⟨xs.length, F1, [], [], by simp, Nat.zero_le _, Ext.newO x1.fh hD, x1.fh.free hD, upd_same, .nil, Nat.le_refl _, by simp [ed]⟩, ?_⟩
    rintro i m H2 ⟨F2, acc, as, rfl, hi, x2, nD, eD, dA, hacc, hL⟩
    have wk2 := wk i H2 (sG.trans x2.hh)
    by_cases hlt : i < xs.length
    · obtain ⟨rest, hL1, hL2⟩ := Option.map_eq_some_iff.mp hL
      rw [List.drop_eq_getElem_cons hlt, lcD] at hL1
      obtain ⟨τ3, e3, hL1⟩ := Option.bind_eq_some_iff.mp hL1
      refine .inr ⟨wk2.1 hlt, fun H' => ∃ F' acc' as', Ext F1 H1 F' H' ∧ F' D = none ∧ H' D = some (.lst acc') ∧ DqAll K F' acc' as' ∧ acc'.length ≤ i + 1 ∧ (lcD g t e (wipeT τ vs) (xs.drop (i + 1))).map (as' ++ ·) = some ds,
        fun H' ⟨F', acc', as', a1, a2, a3, a4, a5, a6⟩ => ⟨xs.length - (i + 1), by omega, F', acc', as', rfl, hlt, a1, a2, a3, a4, a5, a6⟩, fun x H3 hy => ?_⟩
      obtain ⟨F3, x3, dx⟩ := wk2.2.2 _ (List.getElem?_eq_getElem hlt) x H3 hy F2 x2.ff x2.fh
      have s3 := ((s1.go x2).go x3).wipe vs
      refine ⟨F0, H0, F3, _, _, τ3, s3, dx, e3, fun σ4 s4 l4 k4 => ⟨wipe_eq (by rw [l4, wipe_length]) fun j hj => k4 j fun z => hj (hsl j z), ?_⟩⟩
      have hD3 : H3 D = some (.lst acc) := x3.hh _ _ eD
      have nD3 : F3 D = none := by rw [x3.fx D (by rw [eD]; simp)]; exact nD
      cases e5 : t τ3 with
      | none => rw [e5] at hL1; cases hL1
      | some r5 =>
        cases r5 with
        | error n => rw [e5] at hL1; cases hL1
        | ok k =>
          rw [e5] at hL1
          refine ⟨F0, H0, F3, τ3, _, s4, e5, fun v F4 H4 x4 hv => ?_⟩
          subst hv
          have nD4 : F4 D = none := by rw [x4.fx D (by rw [hD3]; simp)]; exact nD3
          cases v with
          | false =>
            rw [if_neg Bool.false_ne_true]
            exact ⟨F4, acc, as, (x2.trans x3).trans x4, nD4, x4.hh _ _ hD3, (dA.mono x3.ff).mono x4.ff, by omega, by rw [show lcD g t e (wipeT τ vs) (xs.drop (i + 1)) = some rest from hL1]; exact congrArg some hL2⟩
          | true =>
            rw [if_pos rfl]
            simp only at hL1
            cases e6 : e τ3 with
            | none => rw [e6] at hL1; cases hL1
            | some r6 =>
              cases r6 with
              | error n => rw [e6] at hL1; cases hL1
              | ok d =>
                rw [e6] at hL1
                obtain ⟨rest', hL3, rfl⟩ := Option.map_eq_some_iff.mp hL1
                refine ⟨F0, H0, F4, τ3, _, s4.go x4, e6, fun v F5 H5 x5 dv => ?_⟩
                have hD5 : H5 D = some (.lst acc) := x5.hh _ _ (x4.hh _ _ hD3)
                have nD5 : F5 D = none := by rw [x5.fx D (by rw [x4.hh _ _ hD3]; simp)]; exact nD4
                have x15 : Ext F1 H1 F5 H5 := ((x2.trans x3).trans x4).trans x5
                refine ⟨acc, hD5, lt5 (by omega), F5, acc ++ [v], as ++ [d], ⟨fun b o z => ?_, x15.ff, fun b o z => ?_, x15.fx⟩, nD5, upd_same, (((dA.mono x3.ff).mono x4.ff).mono x5.ff).append (.cons dv .nil), by simp; omega, ?_⟩
                · rw [upd_ne (ne_of_none z hD)]; exact x15.hh b o z
                · rw [upd_ne (ne_of_none z nD5)]; exact x15.fh b o z
                · rw [hL3]
                  simp only [Option.map_some, List.append_assoc, List.singleton_append]
                  exact congrArg some hL2
    · have e : i = xs.length := by omega
      subst e
      rw [List.drop_length] at hL
      simp only [lcD, Option.map_some, List.append_nil, Option.some.injEq] at hL
      subst hL
      exact .inl ⟨wk2.2.1 rfl, q D acc F2 H2 (x1.trans x2) (x1.hh.free hD) eD nD dA⟩
  · cases hf
section
variable {X : Cx} {W : WX} {elt tg iter : Expr} {ifs : List Expr} {scope : Scope} {pos : Pos} {f : Ta → R (List D)} {sl : List Nat} {g : D → Ta → Option Ta} {t : Ta → R Bool} {e : Ta → R D}
theorem pYes {ifs' : List Expr} (h : ifs' = []) : PTs X ifs' (tT X.K X.mg W fYes) := by
  subst h
  refine ⟨fun pins s σ H Q I ⟨F0, H0, F, τ, r, s', hf, q⟩ => pts_nil.run pins s σ H Q I ?_⟩
  cases hf
  exact q true F H (.refl s'.fh) rfl
theorem pIf1 {c : Expr} (h : PB X W c t) : PTs X [c] (tT X.K X.mg W t) := pts_one h
/-- the parts of a comprehension, within its block -/
structure Blk (X : Cx) (W : WX) (elt tg iter : Expr) (ifs : List Expr) (scope : Scope) (own : List (Str × Nat)) (f : Ta → R (List D)) (g : D → Ta → Option Ta) (t : Ta → R Bool) (e : Ta → R D) : Prop where
  it : PJt X W tg iter f
  ok : BlkOk X.N X.env.scope scope own
  sl : ∃ sl : List Nat, (∀ j ∈ sl, j ∈ own.map (·.2)) ∧ ∀ (s : Shared) (H : Hp) (C : Addr) (cl : List (Str × Addr)) (fp : List Addr), PG (X.blk s H scope (compEnvC scope cl C X.env) fp) tg (tG X.K sl g)
  ts : ∀ (s : Shared) (H : Hp) (C : Addr) (cl : List (Str × Addr)) (fp : List Addr), PTs (X.blk s H scope (compEnvC scope cl C X.env) fp) ifs (tT X.K X.mg W0 t)
  el : ∀ (s : Shared) (H : Hp) (C : Addr) (cl : List (Str × Addr)) (fp : List Addr), PD (X.blk s H scope (compEnvC scope cl C X.env) fp) W0 elt e
theorem lLc {own : List (Str × Nat)} (B : Blk X W elt tg iter ifs scope own f g t e) (hN : X.N.Nodup) (hc : X.calm = true := by rfl) (hs : ∀ x, foldedSetIterable iter X.env x = pure x := by intro _; rfl) :
    PL X W (.ListComp elt [⟨tg, iter, ifs, 0⟩] scope pos) (fLc f g t e (own.map (·.2))) := by
  obtain ⟨sl, h1, h2⟩ := B.sl
  exact PE.conseq (pe_lc hc hN B.it B.ok h2 B.ts B.el hs) fun σ H Q q => tLc_of h1 q
theorem sSetLc (i : Nat) {own : List (Str × Nat)} {y : Str} {py spos : Pos} (B : Blk X W elt tg iter ifs scope own f g t e) (hN : X.N.Nodup) (hsw : swapsWith (.ListComp elt [⟨tg, iter, ifs, 0⟩] scope pos) (some (.Name y py)) spos.line X.env = pure true)
    (hy : X.N[i]? = some y := by rfl) (hyl : X.env.scope.names.lookup y = some .local := by rfl) (hc : X.calm = true := by rfl) (hs : ∀ x, foldedSetIterable iter X.env x = pure x := by intro _; rfl) :
    PD1 X W (.Assign [.Name y py] (.ListComp elt [⟨tg, iter, ifs, 0⟩] scope pos) spos) (gSetO i (fLc f g t e (own.map (·.2)))) := by
  obtain ⟨sl, h1, h2⟩ := B.sl
  refine PS.conseq (ps_setLc hc hN hy hyl hsw B.it B.ok h2 B.ts B.el hs) fun D σ H ⟨F0, H0, F, τ, o, s, hf, q⟩ => tLc_of h1 ?_
  refine tO_S s hf q fun d p vs F1 H1 x1 s1 n1 h1 nF dv hf q => ?_
  cases hf
  exact q F1 H1 _ (Same.refl _) (s.setO i x1 n1 h1 nF dv)
end
end DL
set_option Elab.async false
set_option linter.all false
set_option maxRecDepth 100000
set_option maxHeartbeats 4000000
namespace DL
open PySem PySem.Spec PyProof.Rows L2

/-! ### operators on data -/
theorem newL {K : PySem.W.Frag} {F H : Hp} {Q : VK} {p : Addr} {vs : List V} {ds : List D} (q : ∀ v F' H', Ext F H F' H' → Dq K F' v (.list ds) → Q v H') (sm : Same F H) (hp : H p = none) (h : DqAll K F vs ds) : Q (.ref p) (upd H p (.lst vs)) :=
  q _ _ _ (Ext.new sm hp) (.lst upd_same (h.mono (Ext.new (o := .lst vs) sm hp).ff))
theorem newT {K : PySem.W.Frag} {F H : Hp} {Q : VK} {p : Addr} {vs : List V} {ds : List D} (q : ∀ v F' H', Ext F H F' H' → Dq K F' v (.tuple ds) → Q v H') (sm : Same F H) (hp : H p = none) (h : DqAll K F vs ds) : Q (.ref p) (upd H p (.tup vs)) :=
  q _ _ _ (Ext.new sm hp) (.tup (.of upd_same) (h.mono (Ext.new (o := .tup vs) sm hp).ff))
def addD : D → D → Option D
  | .int i, .int j => some (.int (i + j))
  | .list xs, .list ys => if xs.length + ys.length ≤ 100000 then some (.list (xs ++ ys)) else none
  | .tuple xs, .tuple ys => if xs.length + ys.length ≤ 100000 then some (.tuple (xs ++ ys)) else none
  | .str x, .str y => if x.length + y.length ≤ 100000 then some (.str (x ++ y)) else none
  | _, _ => none
def subD : D → D → Option D
  | .int i, .int j => some (.int (i - j))
  | _, _ => none
def mulOk (i j : Int) : Bool := decide (i.natAbs < 2 ^ 64) || decide (j.natAbs < 2 ^ 64) || decide (i.natAbs.log2 + j.natAbs.log2 < 1000000)
def mulD : D → D → Option D
  | .int i, .int j => if mulOk i j then some (.int (i * j)) else none
  | .list xs, .int k => if decide (k.natAbs < 2 ^ 63) && decide (xs.length * k.toNat ≤ 100000) then some (.list (List.replicate k.toNat xs).flatten) else none
  | _, _ => none
def modD : D → D → Option D
  | .int i, .int j => if j = 0 then none else some (.int (i.fmod j))
  | _, _ => none
def divD : D → D → Option D
  | .int i, .int j => if j ≠ 0 ∧ j.natAbs.log2 < 9000 then some (.int (i.fdiv j)) else none
  | _, _ => none
def powD : D → D → Option D
  | .int i, .int j => if 0 ≤ j ∧ j.natAbs ≤ 1000 ∧ i.natAbs < 2 ^ 64 then some (.int (i ^ j.toNat)) else none
  | _, _ => none
def negD : D → Option D
  | .int i => some (.int (-i))
  | _ => none
section
variable {X : Cx}
theorem oAdd : OpR X (binaryOp .Add) (rD2 X.K addD) := by
  intro pins s σ H x y v u Q I rx ry ⟨F, d, e, r, sm, dx, dy, h, q⟩
  cases dx with
  | int i =>
    cases dy with
    | int j => cases h; exact op_add pins s σ H _ _ v u Q I rx ry ⟨i, j, rfl, rfl, q _ F H (.refl sm) (.int _)⟩
    | _ => cases h
  | str x =>
    cases dy with
    | str y =>
      simp only [addD] at h
      split at h
      · rename_i hl
        cases h
        exact op_add_str pins s σ H _ _ v u Q I rx ry ⟨x, y, rfl, rfl, small5 hl, q _ F H (.refl sm) (.str _)⟩
      · cases h
    | _ => cases h
  | lst h1 h2 =>
    cases dy with
    | lst h3 h4 =>
      simp only [addD] at h
      split at h
      · rename_i hl
        cases h
        refine op_cat pins s σ H _ _ v u Q I rx ry ⟨_, _, _, _, rfl, rfl, sm _ _ h1, sm _ _ h3, by rw [h2.length, h4.length]; exact small5 hl, fun p hp => ?_⟩
        exact newL q sm hp (h2.append h4)
      · cases h
    | _ => cases h
  | tup h1 h2 =>
    cases dy with
    | tup h3 h4 =>
      simp only [addD] at h
      split at h
      · rename_i hl
        cases h
        refine op_catA pins s σ H _ _ v u Q I rx ry ⟨_, _, _, _, rfl, rfl, sameT sm h1, sameT sm h3, by rw [h2.length, h4.length]; exact small5 hl, fun e => ?_, fun _ e => ?_, fun _ _ p hp => ?_⟩
        · subst e
          cases h2
          exact q _ F H (.refl sm) (.tup h3 h4)
        · subst e
          cases h4
          rw [List.append_nil] at q
          exact q _ F H (.refl sm) (.tup h1 h2)
        · exact newT q sm hp (h2.append h4)
      · cases h
    | _ => cases h
  | non => cases dy <;> cases h
  | bl b => cases dy <;> cases h
  | scr a => cases dy <;> cases h
  | dic _ _ _ _ => cases dy <;> cases h
theorem oSub : OpR X (binaryOp .Sub) (rD2 X.K subD) := by
  intro pins s σ H x y v u Q I rx ry ⟨F, d, e, r, sm, dx, dy, h, q⟩
  cases dx with
  | int i =>
    cases dy with
    | int j => cases h; exact op_sub pins s σ H _ _ v u Q I rx ry ⟨i, j, rfl, rfl, q _ F H (.refl sm) (.int _)⟩
    | _ => cases h
  | _ => cases dy <;> cases h
theorem oMul : OpR X (binaryOp .Mult) (rD2 X.K mulD) := by
  intro pins s σ H x y v u Q I rx ry ⟨F, d, e, r, sm, dx, dy, h, q⟩
  cases dx with
  | int i =>
    cases dy with
    | int j =>
      simp only [mulD] at h
      split at h
      · rename_i hl
        cases h
        unfold mulOk at hl
        rcases Bool.or_eq_true_iff.mp hl with hl | hl
        · refine op_mul pins s σ H _ _ v u Q I rx ry ⟨i, j, rfl, rfl, ?_, q _ F H (.refl sm) (.int _)⟩
          unfold CMul
          rcases Bool.or_eq_true_iff.mp hl with hl | hl
          · have := of_decide_eq_true hl; exact .inl (by omega)
          · have := of_decide_eq_true hl; exact .inr (by omega)
        · exact op_mulW pins s σ H _ _ v u Q I rx ry ⟨i, j, rfl, rfl, (show i.natAbs.log2 + j.natAbs.log2 < 1000000 from of_decide_eq_true hl), q _ F H (.refl sm) (.int _)⟩
      · cases h
    | _ => cases h
  | lst h1 h2 =>
    cases dy with
    | int k =>
      simp only [mulD] at h
      split at h
      · rename_i hl
        cases h
        simp only [Bool.and_eq_true, decide_eq_true_eq] at hl
        refine op_rep pins s σ H _ _ v u Q I rx ry ⟨_, k, _, rfl, rfl, sm _ _ h1, by omega, by omega, by rw [h2.length]; exact small5 hl.2, fun p hp => ?_⟩
        exact newL q sm hp (h2.rep _)
      · cases h
    | _ => cases h
  | _ => cases dy <;> cases h
theorem oMod : OpR X (binaryOp .Mod) (rD2 X.K modD) := by
  intro pins s σ H x y v u Q I rx ry ⟨F, d, e, r, sm, dx, dy, h, q⟩
  cases dx with
  | int i =>
    cases dy with
    | int j =>
      simp only [modD] at h
      split at h
      · cases h
      · rename_i hl
        cases h
        exact op_modN pins s σ H _ _ v u Q I rx ry ⟨i, j, rfl, rfl, hl, q _ F H (.refl sm) (.int _)⟩
    | _ => cases h
  | _ => cases dy <;> cases h
theorem op_fdivX : OpR X (binaryOp .FloorDiv) (rI (fun _ j => j ≠ 0 ∧ j.natAbs.log2 < 9000) fun i j => .int (i.fdiv j)) := opI fun _ _ _ _ _ _ _ hc q => floordiv_int hc.1 q (.inl (PyProof.noPylong_of_log2 hc.2))
theorem oDiv : OpR X (binaryOp .FloorDiv) (rD2 X.K divD) := by
  intro pins s σ H x y v u Q I rx ry ⟨F, d, e, r, sm, dx, dy, h, q⟩
  cases dx with
  | int i =>
    cases dy with
    | int j =>
      simp only [divD] at h
      split at h
      · rename_i hl
        cases h
        exact op_fdivX pins s σ H _ _ v u Q I rx ry ⟨i, j, rfl, rfl, hl, q _ F H (.refl sm) (.int _)⟩
      · cases h
    | _ => cases h
  | _ => cases dy <;> cases h
theorem oPow : OpR X (binaryOp .Pow) (rD2 X.K powD) := by
  intro pins s σ H x y v u Q I rx ry ⟨F, d, e, r, sm, dx, dy, h, q⟩
  cases dx with
  | int i =>
    cases dy with
    | int j =>
      simp only [powD] at h
      split at h
      · rename_i hl
        cases h
        exact op_pow pins s σ H _ _ v u Q I rx ry ⟨i, j, rfl, rfl, ⟨hl.1, by omega, hl.2.2⟩, q _ F H (.refl sm) (.int _)⟩
      · cases h
    | _ => cases h
  | _ => cases dy <;> cases h
theorem oNeg : UnR X (unaryOp .USub) (rD1 X.K negD) := by
  intro pins s σ H x v Q I rx ⟨F, d, r, sm, dx, h, q⟩
  cases dx with
  | int i => cases h; exact un_neg pins s σ H _ v Q I rx ⟨i, rfl, q _ F H (.refl sm) (.int _)⟩
  | _ => cases h
end

/-! ### comparisons on data -/
def eqD (d e : D) : Option D := if SeqAt.shaped d && SeqAt.shaped e then some (.bool (PyData.eqv d e)) else none
def neD (d e : D) : Option D := if SeqAt.shaped d && SeqAt.shaped e then some (.bool (!PyData.eqv d e)) else none
def asInts : List D → Option (List Int)
  | [] => some []
  | .int i :: r => (asInts r).map (i :: ·)
  | _ :: _ => none
theorem asInts_eq : ∀ {ds : List D} {ns : List Int}, asInts ds = some ns → ds = ns.map .int
  | [], ns, h => by cases h; rfl
  | .int i :: r, ns, h => by
    obtain ⟨m, e, rfl⟩ := Option.map_eq_some_iff.mp h
    rw [asInts_eq e]; rfl
  | .none :: _, _, h => by cases h
  | .bool _ :: _, _, h => by cases h
  | .str _ :: _, _, h => by cases h
  | .list _ :: _, _, h => by cases h
  | .tuple _ :: _, _, h => by cases h
  | .dict _ :: _, _, h => by cases h
theorem asInts_map (ns : List Int) : asInts (ns.map .int) = some ns := by
  induction ns with
  | nil => rfl
  | cons n ns ih => simp only [List.map_cons, asInts, ih, Option.map_some]
def bln (b : Bool) : D := .bool b
def ltD : D → D → Option D
  | .int i, .int j => some (.bool (decide (i < j)))
  | .tuple xs, .tuple ys => match asInts xs, asInts ys with
    | some ns, some ms => some (.bool (HT.lexLt ns ms))
    | _, _ => none
  | _, _ => none
def leD : D → D → Option D
  | .int i, .int j => some (.bool (decide (i ≤ j)))
  | _, _ => none
def gtD : D → D → Option D
  | .int i, .int j => some (.bool (decide (j < i)))
  | _, _ => none
def geD : D → D → Option D
  | .int i, .int j => some (.bool (decide (j ≤ i)))
  | .tuple xs, .tuple ys => match asInts xs, asInts ys with
    | some ns, some ms => some (.bool (!HT.lexLt ns ms))
    | _, _ => none
  | _, _ => none
def inD : D → D → Option D
  | d, .list ds => if SeqAt.shaped d && SeqAt.shaped (.list ds) then some (.bool (ds.any fun z => PyData.eqv z d)) else none
  | _, _ => none
def ninD : D → D → Option D
  | d, .list ds => if SeqAt.shaped d && SeqAt.shaped (.list ds) then some (.bool (!ds.any fun z => PyData.eqv z d)) else none
  | _, _ => none
def isN : D → D → Option D
  | .none, .none => some (.bool true)
  | _, .none => some (.bool false)
  | _, _ => none
def notN : D → D → Option D
  | .none, .none => some (.bool false)
  | _, .none => some (.bool true)
  | _, _ => none
theorem bEq : Bln eqD := fun x y z h => by unfold eqD at h; split at h <;> cases h; exact ⟨_, rfl⟩
theorem bNe : Bln neD := fun x y z h => by unfold neD at h; split at h <;> cases h; exact ⟨_, rfl⟩
theorem bLt : Bln ltD := fun x y z h => by unfold ltD at h; split at h <;> (try split at h) <;> first | (cases h; done) | (cases h; exact ⟨_, rfl⟩)
theorem bLe : Bln leD := fun x y z h => by unfold leD at h; split at h <;> first | (cases h; done) | (cases h; exact ⟨_, rfl⟩)
theorem bGt : Bln gtD := fun x y z h => by unfold gtD at h; split at h <;> first | (cases h; done) | (cases h; exact ⟨_, rfl⟩)
theorem bGe : Bln geD := fun x y z h => by unfold geD at h; split at h <;> (try split at h) <;> first | (cases h; done) | (cases h; exact ⟨_, rfl⟩)
theorem bIn : Bln inD := fun x y z h => by unfold inD at h; split at h <;> (try split at h) <;> first | (cases h; done) | (cases h; exact ⟨_, rfl⟩)
theorem bNin : Bln ninD := fun x y z h => by unfold ninD at h; split at h <;> (try split at h) <;> first | (cases h; done) | (cases h; exact ⟨_, rfl⟩)
theorem bIs : Bln isN := fun x y z h => by unfold isN at h; split at h <;> first | (cases h; done) | (cases h; exact ⟨_, rfl⟩)
theorem bNot : Bln notN := fun x y z h => by unfold notN at h; split at h <;> first | (cases h; done) | (cases h; exact ⟨_, rfl⟩)
section
variable {X : Cx}
theorem Dq.dpH {K : PySem.W.Frag} {F H : Hp} {v : V} {d : D} (h : Dq K F v d) (sm : Same F H) (c : SeqAt.shaped d = true) : Dp K H v d := (h.mono sm).dp (SeqAt.canLay_of_shaped c)
theorem oEq (hu : X.A.units + 65 < cLine) : OpR X (compareOp .Eq) (rD2 X.K eqD) := by
  intro pins s σ H x y v u Q I rx ry ⟨F, d, e, r, sm, dx, dy, h, q⟩
  unfold eqD at h
  split at h
  · rename_i hl
    obtain ⟨h1, h2⟩ := Bool.and_eq_true_iff.mp hl
    cases h
    exact op_eqD (by omega) pins s σ H _ _ v u Q I rx ry ⟨d, e, dx.dpH sm h1, dy.dpH sm h2, h1, h2, q _ F H (.refl sm) (.bl _)⟩
  · cases h
theorem oNe (hu : X.A.units + 65 < cLine) : OpR X (compareOp .NotEq) (rD2 X.K neD) := by
  intro pins s σ H x y v u Q I rx ry ⟨F, d, e, r, sm, dx, dy, h, q⟩
  unfold neD at h
  split at h
  · rename_i hl
    obtain ⟨h1, h2⟩ := Bool.and_eq_true_iff.mp hl
    cases h
    exact op_neD (by omega) pins s σ H _ _ v u Q I rx ry ⟨d, e, dx.dpH sm h1, dy.dpH sm h2, h1, h2, q _ F H (.refl sm) (.bl _)⟩
  · cases h
theorem oIn (hu : X.A.units + 65 < cLine) : OpR X (compareOp .In) (rD2 X.K inD) := by
  intro pins s σ H x y v u Q I rx ry ⟨F, d, e, r, sm, dx, dy, h, q⟩
  unfold inD at h
  split at h
  · split at h
    · rename_i ds hl
      obtain ⟨h1, h2⟩ := Bool.and_eq_true_iff.mp hl
      cases h
      exact op_inD hu pins s σ H _ _ v u Q I rx ry ⟨_, ds, dx.dpH sm h1, dy.dpH sm h2, h1, h2, q _ F H (.refl sm) (.bl _)⟩
    · cases h
  · cases h
theorem oNin (hu : X.A.units + 65 < cLine) : OpR X (compareOp .NotIn) (rD2 X.K ninD) := by
  intro pins s σ H x y v u Q I rx ry ⟨F, d, e, r, sm, dx, dy, h, q⟩
  unfold ninD at h
  split at h
  · split at h
    · rename_i ds hl
      obtain ⟨h1, h2⟩ := Bool.and_eq_true_iff.mp hl
      cases h
      exact op_notInD hu pins s σ H _ _ v u Q I rx ry ⟨_, ds, dx.dpH sm h1, dy.dpH sm h2, h1, h2, q _ F H (.refl sm) (.bl _)⟩
    · cases h
  · cases h
theorem oLt (hu : X.A.units + 65 < cLine) : OpR X (compareOp .Lt) (rD2 X.K ltD) := by
  intro pins s σ H x y v u Q I rx ry ⟨F, d, e, r, sm, dx, dy, h, q⟩
  cases dx with
  | int i =>
    cases dy with
    | int j => cases h; exact op_lt pins s σ H _ _ v u Q I rx ry ⟨i, j, rfl, rfl, q _ F H (.refl sm) (.bl _)⟩
    | _ => cases h
  | tup h1 h2 =>
    cases dy with
    | tup h3 h4 =>
      simp only [ltD] at h
      split at h
      · rename_i ns ms e1 e2
        cases h
        have i1 := asInts_eq e1
        have i2 := asInts_eq e2
        subst i1 i2
        rw [h2.ints] at h1
        rw [h4.ints] at h3
        exact op_ltT (by omega) pins s σ H _ _ v u Q I rx ry ⟨_, _, ns, ms, rfl, rfl, sameT sm h1, sameT sm h3, q _ F H (.refl sm) (.bl _)⟩
      · cases h
    | _ => cases h
  | _ => cases dy <;> cases h
theorem oLe : OpR X (compareOp .LtE) (rD2 X.K leD) := by
  intro pins s σ H x y v u Q I rx ry ⟨F, d, e, r, sm, dx, dy, h, q⟩
  cases dx with
  | int i =>
    cases dy with
    | int j => cases h; exact op_le pins s σ H _ _ v u Q I rx ry ⟨i, j, rfl, rfl, q _ F H (.refl sm) (.bl _)⟩
    | _ => cases h
  | _ => cases dy <;> cases h
theorem oGt : OpR X (compareOp .Gt) (rD2 X.K gtD) := by
  intro pins s σ H x y v u Q I rx ry ⟨F, d, e, r, sm, dx, dy, h, q⟩
  cases dx with
  | int i =>
    cases dy with
    | int j => cases h; exact op_gt pins s σ H _ _ v u Q I rx ry ⟨i, j, rfl, rfl, q _ F H (.refl sm) (.bl _)⟩
    | _ => cases h
  | _ => cases dy <;> cases h
theorem lex_ge : ∀ (ns ms : List Int) (e r : Nat → Bool) (i : Nat), (∀ j, e (i + j) = decide (ns.getD j 0 = ms.getD j 0)) → (∀ j, r (i + j) = decide (ms.getD j 0 ≤ ns.getD j 0)) →
    Ob.lexAt e r (decide (ms.length ≤ ns.length)) i (min ns.length ms.length) = !HT.lexLt ns ms
  | [], [], e, r, i, he, hr => rfl
  | [], m :: ms, e, r, i, he, hr => rfl
  | n :: ns, [], e, r, i, he, hr => rfl
  | n :: ns, m :: ms, e, r, i, he, hr => by
    have hm : min (n :: ns).length (m :: ms).length = min ns.length ms.length + 1 := by simp only [List.length_cons]; omega
    rw [hm, Ob.lexAt_succ, HT.lexLt_cons]
    have e0 : e i = decide (n = m) := he 0
    have r0 : r i = decide (m ≤ n) := hr 0
    rw [e0, r0]
    by_cases h : n = m
    · have ih := lex_ge ns ms e r (i + 1) (fun j => by rw [show i + 1 + j = i + (j + 1) by omega]; exact he (j + 1)) (fun j => by rw [show i + 1 + j = i + (j + 1) by omega]; exact hr (j + 1))
      rw [if_pos h, if_pos (decide_eq_true h)]
      rw [show decide ((m :: ms).length ≤ (n :: ns).length) = decide (ms.length ≤ ns.length) by simp]
      exact ih
    · rw [if_neg h, if_neg (by simpa using h)]
      rw [Bool.eq_iff_iff]
      simp only [decide_eq_true_eq, Bool.not_eq_true', decide_eq_false_iff_not]
      omega
theorem op_geT (hu : X.A.units < cLine) : OpR X (compareOp .GtE) (fun x y H Q => ∃ (a b : Addr) (ns ms : List Int), x = .ref a ∧ y = .ref b ∧ SqT X.K H a (ns.map V.int) ∧ SqT X.K H b (ms.map V.int) ∧ Q (.bl (!HT.lexLt ns ms)) H) := by
  intro pins s σ H x y v u Q I rx ry h
  obtain ⟨a, b, ns, ms, rfl, rfl, ha, hb, q⟩ := h
  cases rx
  cases ry
  obtain ⟨its, r1, p1, _⟩ := I.tuple ha
  obtain ⟨its2, r2, p2, _⟩ := I.tuple hb
  have i1 : IntsAre its ns := Vals.ints r1
  have i2 : IntsAre its2 ms := Vals.ints r2
  have e1 : its.toArray.size = ns.length := by rw [List.size_toArray]; exact i1.length
  have e2 : its2.toArray.size = ms.length := by rw [List.size_toArray]; exact i2.length
  have at1 : ∀ j (h1 : j < its.toArray.size), ∃ t, its.toArray[j] = .int (ns.getD j 0) t := fun j h1 => PyProof.Rows.IntsAre.int_at i1 _ _ (by simp at h1; simp [h1])
  have at2 : ∀ j (h1 : j < its2.toArray.size), ∃ t, its2.toArray[j] = .int (ms.getD j 0) t := fun j h1 => PyProof.Rows.IntsAre.int_at i2 _ _ (by simp at h1; simp [h1])
  have R := Ob.RcOp.tuples_ge (A := X.A) (s := s) (e := fun j => decide (ns.getD j 0 = ms.getD j 0)) (r := fun j => decide (ms.getD j 0 ≤ ns.getD j 0)) p1 p2 hu (fun j h1 h2 => by
    obtain ⟨t, et⟩ := at1 j h1
    obtain ⟨t', et'⟩ := at2 j h2
    rw [et, et']
    have z : (ns.getD j 0 == ms.getD j 0) = decide (ns.getD j 0 = ms.getD j 0) := by
      by_cases q : ns.getD j 0 = ms.getD j 0
      · rw [decide_eq_true q]; exact beq_iff_eq.mpr q
      · rw [decide_eq_false q]; exact beq_eq_false_iff_ne.mpr q
    rw [← z]
    exact SeqAt.EqAt.int_int _ _ _ _) (fun j h1 h2 _ => by
    obtain ⟨t, et⟩ := at1 j h1
    obtain ⟨t', et'⟩ := at2 j h2
    rw [et, et']
    exact Ob.RcOp.ge_int _ _ _ _)
  rw [e1, e2] at R
  have z : wpAny (model X.prog X.w) X.A (compareOp .GtE (.ref a) (.ref b)) (EP X pins σ Q) X.xe s := R X.prog X.w X.xe (EP X pins σ Q) ⟨.bl _, H, I, rfl, by
    first
      | (rw [lex_ge ns ms _ _ 0 (fun j => by rw [Nat.zero_add]) (fun j => by rw [Nat.zero_add])]; exact q)
      | (have := lex_ge ns ms (fun j => decide (ns.getD j 0 = ms.getD j 0)) (fun j => decide (ms.getD j 0 ≤ ns.getD j 0)) 0 (fun j => by rw [Nat.zero_add]) (fun j => by rw [Nat.zero_add]); rw [← this] at q; exact q)⟩
  exact z
theorem oGe (hu : X.A.units + 65 < cLine) : OpR X (compareOp .GtE) (rD2 X.K geD) := by
  intro pins s σ H x y v u Q I rx ry ⟨F, d, e, r, sm, dx, dy, h, q⟩
  cases dx with
  | int i =>
    cases dy with
    | int j => cases h; exact op_ge pins s σ H _ _ v u Q I rx ry ⟨i, j, rfl, rfl, q _ F H (.refl sm) (.bl _)⟩
    | _ => cases h
  | tup h1 h2 =>
    cases dy with
    | tup h3 h4 =>
      simp only [geD] at h
      split at h
      · rename_i ns ms e1 e2
        cases h
        have i1 := asInts_eq e1
        have i2 := asInts_eq e2
        subst i1 i2
        rw [h2.ints] at h1
        rw [h4.ints] at h3
        exact op_geT (by omega) pins s σ H _ _ v u Q I rx ry ⟨_, _, ns, ms, rfl, rfl, sameT sm h1, sameT sm h3, q _ F H (.refl sm) (.bl _)⟩
      · cases h
    | _ => cases h
  | _ => cases dy <;> cases h
theorem oIs : OpR X (compareOp .Is) (rD2 X.K isN) := by
  intro pins s σ H x y v u Q I rx ry ⟨F, d, e, r, sm, dx, dy, h, q⟩
  cases dy with
  | non =>
    refine op_isN pins s σ H _ _ v u Q I rx ry ⟨rfl, ?_⟩
    cases dx <;> cases h <;> exact q _ F H (.refl sm) (.bl _)
  | _ => cases dx <;> cases h
theorem oIsNot : OpR X (compareOp .IsNot) (rD2 X.K notN) := by
  intro pins s σ H x y v u Q I rx ry ⟨F, d, e, r, sm, dx, dy, h, q⟩
  cases dy with
  | non =>
    refine op_notN pins s σ H _ _ v u Q I rx ry ⟨rfl, ?_⟩
    cases dx <;> cases h <;> exact q _ F H (.refl sm) (.bl _)
  | _ => cases dx <;> cases h
end

/-! ### items and slices -/
def ixD : D → D → Option D
  | .list xs, .int i => atI xs i
  | .tuple xs, .int i => atI xs i
  | .dict [(.none, .list xs)], .int i => atI xs i
  | .str z, .int i => if z.length ≤ 100000 then (atI z.cps.toList i).map fun c => .str ⟨#[c]⟩ else none
  | _, _ => none
def cutD (xs : List D) (lo hi : Option Int) : List D := (xs.drop (HT.sIx xs.length 0 lo)).take (HT.sIx xs.length xs.length hi - HT.sIx xs.length 0 lo)
def slD : D → Option Int → Option Int → Option D
  | .list xs, lo, hi => some (.list (cutD xs lo hi))
  | .tuple xs, lo, hi => some (.tuple (cutD xs lo hi))
  | _, _, _ => none
theorem DqAll.cut {K : PySem.W.Frag} {F : Hp} {vs : List V} {ds : List D} (h : DqAll K F vs ds) (lo hi : Option Int) : DqAll K F (cutV vs lo hi) (cutD ds lo hi) := by
  unfold cutV cutD
  rw [h.length]
  exact (h.drop _).take _
theorem cut_whole {α : Type} (xs : List α) (lo hi : Nat) (h : lo = 0 ∧ hi = xs.length) : (xs.drop lo).take (hi - lo) = xs := by
  obtain ⟨rfl, rfl⟩ := h
  simp
def optD : Option (Ta → R D) → Ta → R (Option Int)
  | none, _ => ok none
  | some f, τ => bnd (f τ) fun d => match d with
    | .int i => ok (some i)
    | _ => none
def fSl (f : Ta → R D) (lo hi : Option (Ta → R D)) : Ta → R D := fun τ => bnd (f τ) fun d => bnd (optD lo τ) fun l => bnd (optD hi τ) fun u => lft (slD d l u)
section
variable {X : Cx} {W : WX}
theorem oIxD : IxR X (rD2 X.K ixD) := by
  intro va sl pins s σ H x y v u Q I rx ry ⟨F, d, e', r, sm, dx, dy, h, q⟩ hs
  cases dy with
  | int i =>
    cases dx with
    | lst h1 h2 =>
      obtain ⟨w, ew, dw⟩ := h2.at h
      exact ix_list va sl pins s σ H _ _ v u Q I rx ry ⟨_, _, i, w, rfl, rfl, .of (sm _ _ h1), ew, q _ F H (.refl sm) dw⟩ hs
    | tup h1 h2 =>
      obtain ⟨w, ew, dw⟩ := h2.at h
      exact ix_tup va sl pins s σ H _ _ v u Q I rx ry ⟨_, _, i, w, rfl, rfl, sameT sm h1, ew, q _ F H (.refl sm) dw⟩ hs
    | scr h1 =>
      obtain ⟨w, ew, dw⟩ := (DqAll.ofInts (K := X.K) (F := F) _).at h
      exact ix_list va sl pins s σ H _ _ v u Q I rx ry ⟨_, _, i, w, rfl, rfl, sm.seq h1, ew, q _ F H (.refl sm) dw⟩ hs
    | str z =>
      simp only [ixD] at h
      split at h
      · rename_i hl
        obtain ⟨c, ec, rfl⟩ := Option.map_eq_some_iff.mp h
        exact ix_str va sl pins s σ H _ _ v u Q I rx ry ⟨z, i, c, rfl, rfl, small5 hl, ec, q _ F H (.refl sm) (.str _)⟩ hs
      · cases h
    | _ => cases h
  | _ => cases dx <;> cases h
/-- an optional part of a slice -/
structure PPart (X : Cx) (W : WX) (e : Option Expr) (f : Option (Ta → R D)) : Prop where
  ok : PO X e (tX X.K X.mg W (fun _ (a b : Option Int) => a = b) (optD f))
theorem PO.conseq {e : Option Expr} {t t' : TO} (h : PO X e t) (i : ∀ σ H Q, t' σ H Q → t σ H Q) : PO X e t' := ⟨fun pins s σ H Q I q => h.run pins s σ H Q I (i σ H Q q)⟩
theorem p0 : PPart X W none none := ⟨PO.conseq po_none fun σ H Q ⟨F0, H0, F, τ, r, s, hf, q⟩ => by
  cases hf
  exact q none F H (.refl s.fh) rfl⟩
theorem p1 {e : Expr} {f : Ta → R D} (h : PD X W e f) : PPart X W (some e) (some f) := ⟨PO.conseq (po_some h) fun σ H Q ⟨F0, H0, F, τ, r, s, hf, q⟩ => by
  refine tX_bnd s hf q fun x v F1 H1 x1 s1 dv hf q => ?_
  cases dv with
  | int i => cases hf; exact ⟨i, rfl, q _ F1 H1 (.refl x1.fh) rfl⟩
  | _ => cases hf⟩
theorem oSlD : SlR X (fun x lo hi H Q => ∃ F d r, Same F H ∧ Dq X.K F x d ∧ slD d lo hi = some r ∧ ∀ v F' H', Ext F H F' H' → Dq X.K F' v r → Q v H') := by
  intro pins s σ H x v vl vu lo hi sl Q I rx hs pl pu ⟨F, d, r, sm, dx, h, q⟩
  cases dx with
  | lst h1 h2 =>
    cases h
    refine sl_list pins s σ H _ v vl vu lo hi sl Q I rx hs pl pu ⟨_, _, rfl, .of (sm _ _ h1), fun p hp => ?_⟩
    exact newL q sm hp (h2.cut lo hi)
  | tup h1 h2 =>
    cases h
    refine sl_tupA pins s σ H _ v vl vu lo hi sl Q I rx hs pl pu ⟨_, _, rfl, sameT sm h1, fun hw => ?_, fun hw p hp => ?_⟩
    · refine q _ F H (.refl sm) ?_
      rw [h2.length] at hw
      have e : cutD _ lo hi = _ := cut_whole _ _ _ hw
      rw [e]
      exact .tup h1 h2
    · exact newT q sm hp (h2.cut lo hi)
  | _ => cases h
theorem dSl {e : Expr} {lo hi : Option Expr} {f : Ta → R D} {fl fh : Option (Ta → R D)} {p2 pos : Pos} (he : PD X W e f) (hl : PPart X W lo fl) (hh : PPart X W hi fh) : PD X W (.Subscript e (.Slice lo hi none p2) pos) (fSl f fl fh) := by
  refine PE.conseq (pe_slice oSlD he hl.ok hh.ok) fun σ H Q ⟨F0, H0, F, τ, r, s, hf, q⟩ => ?_
  refine tX_bnd s hf q fun x v F1 H1 x1 s1 dv hf q => ?_
  refine tX_bnd s1 hf q fun y w F2 H2 x2 s2 dw hf q => ?_
  refine tX_bnd s2 hf q fun z t F3 H3 x3 s3 dt hf q => ?_
  subst dw dt
  obtain ⟨a, e, rfl⟩ := lft_eq hf
  exact ⟨F3, x, a, x3.fh, (dv.mono x2.ff).mono x3.ff, e, q⟩
end
end DL
set_option Elab.async false
set_option linter.all false
set_option maxRecDepth 100000
set_option maxHeartbeats 4000000
namespace DL
open PySem PySem.Spec PyProof.Rows L2

/-! ### lists and tuples alike: k is true for a list -/
def SqK (k : Bool) (K : PySem.W.Frag) (H : Hp) (a : Addr) (xs : List V) : Prop := match k with
  | true => SqL K H a xs
  | false => SqT K H a xs
def IsSq (k : Bool) (h : Heap) (a : Addr) (items : Array Value) : Prop := match k with
  | true => h.IsList a items
  | false => h.IsTuple a items
def IsIt (k : Bool) (h : Heap) (it a : Addr) (i : Nat) : Prop := match k with
  | true => h.IsListIter it a i
  | false => h.IsTupleIter it a i
def itObj (k : Bool) (a : Addr) : Obj := match k with
  | true => { cls := .type "list_iterator", data := .fields #[.ref a, .int 0 0] }
  | false => { cls := .type "tuple_iterator", data := .fields #[.ref a, .int 0 0] }
theorem drawsK {prog : Program} {w : World} {A : Around} (k : Bool) (hh : A.handled = none) (it a : Addr) (hne : a ≠ it) (items : Array Value) :
    Draws prog w A it [it, a] items.size (fun i v => items[i]? = some v) (fun i h => IsIt k h it a i ∧ IsSq k h a items) := by
  cases k with
  | true => exact Draws.list hh it a hne items
  | false => exact Draws.tuple hh it a hne items
theorem beginsK (k : Bool) (a : Addr) (items : Array Value) : Begins (.ref a) (itObj k a) fun h => IsSq k h a items := by
  cases k with
  | true => exact begins_list a items
  | false => exact begins_tuple a items
theorem IsIt.new {k : Bool} {h : Heap} {it a : Addr} (e : h.get? it = some (itObj k a)) : IsIt k h it a 0 := by
  cases k with
  | true => exact ⟨_, e, rfl, rfl⟩
  | false => exact ⟨_, e, rfl, rfl⟩
theorem IsIt.at' {k : Bool} {h h' : Heap} {it a : Addr} {i : Nat} (x : IsIt k h it a i) (e : ∀ o, h.get? it = some o → h'.get? it = some o) : IsIt k h' it a i := by
  cases k with
  | true => exact Heap.IsListIter.at (show h.IsListIter it a i from x) e
  | false => exact Heap.IsTupleIter.at (show h.IsTupleIter it a i from x) e
theorem IsIt.obj {k : Bool} {h : Heap} {it a : Addr} {i : Nat} (x : IsIt k h it a i) : ∃ o, h.get? it = some o ∧ ∀ v, o.data ≠ .cell v := by
  cases k with
  | true =>
    obtain ⟨o, e, c, d⟩ := (show h.IsListIter it a i from x)
    exact ⟨o, e, fun v z => by rw [d] at z; cases z⟩
  | false =>
    obtain ⟨o, e, c, d⟩ := (show h.IsTupleIter it a i from x)
    exact ⟨o, e, fun v z => by rw [d] at z; cases z⟩
section
variable {X : Cx} {pins : List (Addr × Obj)} {σ : L2.St} {H : Hp} {s : Shared} {a : Addr} {xs ys : List V} {k : Bool}
theorem sqK_get (I : L2.Inv X pins σ H s) (h : SqK k X.K H a xs) : ∃ its : List Value, L2.Vals xs its ∧ IsSq k s.heap a its.toArray ∧ a < s.heap.objs.size := by
  cases k with
  | true =>
    obtain ⟨its, r, p, _⟩ := I.list h
    exact ⟨its, r, p.isList, p.lt⟩
  | false =>
    obtain ⟨its, r, p, _⟩ := I.tuple h
    obtain ⟨o, ho, _⟩ := id p
    exact ⟨its, r, p, Heap.lt_size ho⟩
theorem sqK_inj (I : L2.Inv X pins σ H s) (h : SqK k X.K H a xs) (h' : SqK k X.K H a ys) : xs = ys := by
  cases k with
  | true => exact I.list_inj h h'
  | false => exact I.tuple_inj h h'
end
theorem sqK_same {K : PySem.W.Frag} {H H' : Hp} {a : Addr} {xs : List V} {k : Bool} (e : Same H H') (h : SqK k K H a xs) : SqK k K H' a xs := by
  cases k with
  | true => exact e.seq h
  | false => exact sameT e h
/-- data that may be walked -/
theorem Dq.sq {K : PySem.W.Frag} {F : Hp} {v : V} {d : D} {ds : List D} (h : Dq K F v d) (e : seqD d = some ds) : ∃ a k vs, v = .ref a ∧ SqK k K F a vs ∧ DqAll K F vs ds := by
  cases h with
  | lst h1 h2 => cases e; exact ⟨_, true, _, rfl, .of h1, h2⟩
  | tup h1 h2 => cases e; exact ⟨_, false, _, rfl, h1, h2⟩
  | _ => cases e

theorem nmem2 (c x y : Nat) (h1 : c ≠ x) (h2 : c ≠ y) : c ∉ ([x, y] : List Addr) := fun h => by
  rcases List.mem_cons.mp h with z | z
  · exact h1 z
  · rcases List.mem_cons.mp z with z | z
    · exact h2 z
    · cases z
theorem nmem3 (c x y : Nat) (h1 : c ≠ x) (h2 : c ≠ y) : c ∉ ([x, y] : List Addr) := nmem2 c x y h1 h2
theorem nea {x y : Nat} (h : x ≠ y) : (x : Addr) ≠ y := h
theorem le5 {N c : Nat} (h : c = N + 4 ∨ c = N + 2 ∨ c = N + 3 ∨ c = N ∨ c = N + 1) : N ≤ c := by omega
theorem le6 {N c : Nat} (h : c = N + 5 ∨ c = N + 3 ∨ c = N + 4 ∨ c = N ∨ c = N + 1 ∨ c = N + 2) : N ≤ c := by omega
theorem sep2 (N a b : Nat) (ha : a < N) (hb : b < N) : ZipSep2 (N + 4) (N + 2) (N + 3) N (N + 1) [N, a] [N + 1, b] :=
  ⟨nea (by omega), nea (by omega), nea (by omega), nea (by omega), by simp, nmem2 _ _ _ (by omega) (by omega), nmem2 _ _ _ (by omega) (by omega), nea (by omega), by simp, nmem2 _ _ _ (by omega) (by omega), nmem2 _ _ _ (by omega) (by omega), nmem2 _ _ _ (by omega) (by omega), nmem2 _ _ _ (by omega) (by omega)⟩
theorem sep3 (N a b c : Nat) (ha : a < N) (hb : b < N) (hc : c < N) : ZipSep3 (N + 5) (N + 3) (N + 4) N (N + 1) (N + 2) [N, a] [N + 1, b] [N + 2, c] :=
  ⟨nea (by omega), nea (by omega), nea (by omega), nea (by omega), by simp, nmem2 _ _ _ (by omega) (by omega), nmem2 _ _ _ (by omega) (by omega), nea (by omega), by simp, nmem2 _ _ _ (by omega) (by omega), nmem2 _ _ _ (by omega) (by omega),
    nea (by omega), by simp, nmem2 _ _ _ (by omega) (by omega), nmem2 _ _ _ (by omega) (by omega), nmem2 _ _ _ (by omega) (by omega), nmem2 _ _ _ (by omega) (by omega), nmem2 _ _ _ (by omega) (by omega), nmem2 _ _ _ (by omega) (by omega), nmem2 _ _ _ (by omega) (by omega), nmem2 _ _ _ (by omega) (by omega)⟩
theorem ltNe {a N : Nat} (h : a < N) (k : Nat) : (a : Addr) ≠ N + k := nea (by omega)

/-! ### enumerate -/
def ItE (K : PySem.W.Frag) (k : Bool) (a : Addr) : It :=
  ⟨fun i H => ∃ (xs : List V) (x : V), SqK k K H a xs ∧ xs[i]? = some x, fun i H v H' => ∃ T x, v = .ref T ∧ H T = none ∧ H' = upd H T (.tup [.int (i : Nat), x]) ∧ ∀ xs, SqK k K H a xs → xs[i]? = some x, fun i H => ∃ xs : List V, SqK k K H a xs ∧ xs.length = i⟩
theorem turnE {P : Program} {w : World} {K : PySem.W.Frag} {elts : List Expr} {kk : Nat} {tpos : Pos} {k : Bool} {a e it : Addr} (hai : a ≠ it) (hae : a ≠ e) (hei : e ≠ it) :
    Turn P w K (.Tuple elts kk tpos) (ItE K k a) [e, it] e (fun i h => (∃ old, IsEnum h e it ((i : Nat) : Int) old) ∧ IsIt k h it a i) where
  mem := by simp
  obj := fun i h st b hb => by
    obtain ⟨⟨old, he⟩, hi⟩ := st
    have e' : b = e ∨ b = it := by simpa using hb
    rcases e' with z | z
    · rw [z]; exact ⟨_, he, fun v q => nomatch q⟩
    · rw [z]; exact hi.obj
  keep := fun i h h' st k => let ⟨⟨old, he⟩, hi⟩ := st; ⟨⟨old, k e (by simp) _ he⟩, hi.at' fun o q => k it (by simp) o q⟩
  item := by
    intro X hP hw hK hc i pins s σ H E I hf st hg
    subst hP hw hK
    obtain ⟨⟨old, he⟩, hit⟩ := st
    obtain ⟨xs, x, hq, hx⟩ := hg
    obtain ⟨its, rv, p, hz⟩ := sqK_get I hq
    obtain ⟨u, hu, ru⟩ := rv.get hx
    have hel : e < s.heap.objs.size := Heap.lt_size he
    have hil : it < s.heap.objs.size := by obtain ⟨_, q, _⟩ := hit.obj; exact Heap.lt_size q
    have hlt : i < its.toArray.size := by
      have := (List.getElem?_eq_some_iff.mp hu).1
      simpa using this
    refine wpAny_pyNext_enum_itemD (drawsK (A := X.A.in1) k (I.ok.hd hc) it a hai its.toArray) he ⟨hit, p⟩ hlt hei (by simp [hei, hae.symm]) fun x' h' tk hx' ho hst' hT hsz hk => ?_
    have ex : x' = u := by
      rw [List.getElem?_toArray, hu] at hx'
      exact (Option.some.inj hx').symm
    subst ex
    refine ⟨_, rfl, wpAny_letOwnedTupleGo_enum (s := { s with heap := h', toks := tk + 1 }) ho fun h'' he' sb => ?_⟩
    have hT2 : h''.get? s.heap.objs.size = some { cls := .type "tuple", data := .seq #[.int i tk, x'] } := (sb.2 _ (Nat.ne_of_gt hel)).trans hT
    have new : ObjOk X.prog X.w (upd H s.heap.objs.size (.tup [.int (i : Nat), x])) h'' s.heap.objs.size (.tup [.int (i : Nat), x]) :=
      ⟨by show 2 ≤ sizeLine; decide, [.int i tk, x'], .cons ⟨_, rfl⟩ (.cons ru .nil), ⟨_, hT2, rfl, _, rfl⟩⟩
    have I1 : L2.Inv X pins σ (upd H s.heap.objs.size (.tup [.int (i : Nat), x])) { s with heap := h'', toks := tk + 1 } :=
      I.turnedNew (ch := [e, it]) (fun b ob hb q => (sb.2 b (fun z => hb (by simp [z]))).trans (hk b ob (fun z => hb (by simp [z])) (fun z => hb (by simp [z])) q)) hf (Nat.le_refl _) new
    refine ⟨.ref s.heap.objs.size, _, I1, rfl, ⟨_, x, rfl, I.hok.fresh (Nat.le_refl _), rfl, fun ys hy => by rw [sqK_inj I hy hq]; exact hx⟩, ⟨⟨x', ?_⟩, hst'.1.at' fun o q => (sb.2 it (Ne.symm hei)).trans q⟩, fun b hb => ?_⟩
    · have e1 : ((i + 1 : Nat) : Int) = (i : Int) + 1 := by omega
      rw [e1]; exact he'
    · have hb' : b < s.heap.objs.size := by
        have e' : b = e ∨ b = it := by simpa using hb
        rcases e' with z | z
        · rw [z]; exact hel
        · rw [z]; exact hil
      rw [upd_ne (Nat.ne_of_lt hb')]
      exact (hf b hb).1
  done := by
    intro X hP hw hK hc i pins s σ H E I hf st hg
    subst hP hw hK
    obtain ⟨⟨old, he⟩, hit⟩ := st
    obtain ⟨xs, hq, hx⟩ := hg
    obtain ⟨its, rv, p, hz⟩ := sqK_get I hq
    obtain ⟨f0, f1, f2, f3, f4, f5⟩ := hf it (by simp)
    have hl : its.toArray.size = i := by rw [List.size_toArray, ← rv.length]; exact hx
    subst hl
    exact wpAny_pyNext_enum_endD (drawsK (A := X.A.in1) k (I.ok.hd hc) it a hai its.toArray) he ⟨hit, p⟩ fun h' eb => ⟨rfl, I.turned (t' := s.toks) (fun b o hb q => eb b o hb q) f0 f1 f3 f4 f5⟩
  self := fun A i s Q E st h => let ⟨⟨_, he⟩, _⟩ := st; wpAny_pyIter_enum he h
theorem meets_enum1 {v : Value} {o : Obj} {H : Heap → Prop} (B : Begins v o H) :
    Meets (Builtin.«enumerate.__new__» ⟨[.type "enumerate", v], []⟩) (fun _ R s => H s.heap ∧
      R (.ok (.ret (.ref (s.heap.push o).objs.size))) { s with heap := (s.heap.push o).push { cls := .type "enumerate", data := .fields #[.none, .bool false, .ref s.heap.objs.size, rawInt 0, .none, .none] } }) :=
  .of_wp fun prog w A R s h => by
    obtain ⟨hp, g, d, tk, os⟩ := s; obtain ⟨h1, h⟩ := h
    have hsub := sub_enumerate
    have q1 : ∀ {A' : Around} {E : Value → Shared → Prop} {Q : Value → Shared → Prop}, Q (.ref hp.objs.size) ⟨(hp.push o), g, d, tk, os⟩ → wpAny (model prog w) A' (pyIter v) Q E ⟨hp, g, d, tk, os⟩ :=
      fun q => B.iter prog w _ _ ⟨hp, g, d, tk, os⟩ _ h1 q
    wp_walk using q1
    refine wpAny_stack_any fun st => wpAny_pure ?_
    split
    · rename_i c _ _ _ _ _
      cases (c == Value.type "enumerate")
      · wp_walk using q1
        exact ⟨_, rfl, h⟩
      · wp_walk using q1
        exact ⟨_, rfl, h⟩
    · wp_walk using q1
      exact ⟨_, rfl, h⟩
theorem enum_begins1 {prog : Program} {w : World} {A : Around} {E : Value → Shared → Prop} {s : Shared} {v : Value} {o : Obj} {H : Heap → Prop} {Q : Value → Shared → Prop} (B : Begins v o H) (h1 : H s.heap)
    (h : ∀ h', IsEnum h' (s.heap.objs.size + 1) s.heap.objs.size 0 .none → h'.get? s.heap.objs.size = some o → h'.objs.size = s.heap.objs.size + 2 →
      (∀ b o, s.heap.get? b = some o → h'.get? b = some o) → Q (.ref (s.heap.objs.size + 1)) { s with heap := h' }) :
    wpAny (model prog w) A (call (.type "enumerate") [v]) Q E s := by
  refine callType_new F.called_enumerate (by decide) (F.typeCall_enumerate_1 _) (F.newCall_enumerate_1 _) (fun obj => F.args_object_init_2 obj _) F.entry_enumerate_new
    (meets_enum1 B) ⟨h1, ?_⟩
  have hz : (s.heap.push o).objs.size = s.heap.objs.size + 1 := Heap.size_push ..
  show _ ∧ _
  rw [hz]
  have he : IsEnum ((s.heap.push o).push { cls := .type "enumerate", data := .fields #[.none, .bool false, .ref s.heap.objs.size, rawInt 0, .none, .none] }) (s.heap.objs.size + 1) s.heap.objs.size 0 .none := by
    have := Heap.get?_push_size (s.heap.push o) (o := { cls := .type "enumerate", data := .fields #[.none, .bool false, .ref s.heap.objs.size, rawInt 0, .none, .none] }) rfl
    rw [hz] at this; exact this
  refine ⟨⟨_, he, rfl⟩, h _ he (Heap.get?_push_of_some _ (Heap.get?_push_size _ B.free)) (by rw [Heap.size_push, hz]) fun b o x => Heap.get?_push_of_some _ (Heap.get?_push_of_some _ x)⟩
/-- (0, x), (1, y), .. -/
def enumD (xs : List D) : List D := xs.mapIdx fun i x => .tuple [.int (i : Nat), x]
theorem walksE {K : PySem.W.Frag} {k : Bool} {a : Addr} {G F : Hp} {vs : List V} {xs : List D} (h : SqK k K G a vs) (q : DqAll K F vs xs) : Walks K (ItE K k a) G F (enumD xs) := fun i H sm => by
  have hl : SqK k K H a vs := sqK_same sm h
  have el : (enumD xs).length = xs.length := by simp [enumD]
  refine ⟨fun hi => ?_, fun hi => ⟨vs, hl, by rw [q.length]; omega⟩, fun d hd x H1 hy F2 s2 s3 => ?_⟩
  · rw [el] at hi
    obtain ⟨v, e, _⟩ := q.get (List.getElem?_eq_getElem hi)
    exact ⟨vs, v, hl, e⟩
  · obtain ⟨T, y, rfl, nT, rfl, hy⟩ := hy
    have e0 : ∃ x0, xs[i]? = some x0 ∧ d = .tuple [.int (i : Nat), x0] := by
      simp only [enumD, List.getElem?_mapIdx, Option.map_eq_some_iff] at hd
      obtain ⟨x0, e1, e2⟩ := hd
      exact ⟨x0, e1, e2.symm⟩
    obtain ⟨x0, e1, rfl⟩ := e0
    obtain ⟨v, e, dv⟩ := q.get e1
    have e' : y = v := Option.some.inj ((hy vs hl).symm.trans e)
    subst e'
    have x3 := Ext.new (o := .tup [.int (i : Nat), y]) s3 nT
    exact ⟨_, x3, .tup (.of upd_same) (.cons (.int _) (.cons ((dv.mono s2).mono x3.ff) .nil))⟩
def fEn (f : Ta → R (List D)) : Ta → R (List D) := fun τ => bnd (f τ) fun ds => match ds with
  | [d] => bnd (lft (seqD d)) fun xs => ok (enumD xs)
  | _ => none
section
variable {X : Cx} {W : WX} {e : Expr} {fs : Ta → R (List D)} {p pos tpos : Pos} {elts : List Expr} {kk : Nat}
theorem pi_enumK {ta : TA} (hg : Gl X "enumerate") (hm : X.mg "enumerate" = none) (ha : PA X [e] ta) (hs : starEach [e] X.env = [(false, eval e X.env)] := by rfl) :
    PI X (.Tuple elts kk tpos) (.Call (.Name "enumerate" p) [e] [] pos) (fun σ H R => ta σ H fun vs H1 => ∃ a k xs, vs = [.ref a] ∧ SqK k X.K H1 a xs ∧ R (ItE X.K k a) H1) := by
  refine ⟨fun pins s σ H R I h => ?_⟩
  refine Call_ (ld_blt I hg hm boot_enumerate (PyProof.Rows.callWith_type1 (thn (ha.run pos pins s σ H _ I h) fun us s1 ⟨vs, H1, I1, r1, q1⟩ => ?_) hs rfl))
  obtain ⟨a, k, xs, ex, hq, q⟩ := q1
  subst ex
  cases r1 with
  | cons r rr =>
    cases rr
    cases r
    obtain ⟨its, rv, p', hlt⟩ := sqK_get I1 hq
    refine enum_begins1 (beginsK k a its.toArray) p' fun h' he hit hsz hk => wpAny_pyIter_enum he ?_
    have I2 : L2.Inv X pins σ H1 { s1 with heap := h' } := I1.kept (t' := s1.toks) hk
    refine ⟨s1.heap.objs.size + 1, [s1.heap.objs.size + 1, s1.heap.objs.size], _, _, H1, rfl, I2, turnE (k := k) (a := a) (e := s1.heap.objs.size + 1) (it := s1.heap.objs.size) (Nat.ne_of_lt hlt) (ltNe hlt 1) (Nat.succ_ne_self _), ⟨⟨.none, he⟩, IsIt.new hit⟩, fun b hb => ?_, q⟩
    have e' : b = s1.heap.objs.size + 1 ∨ b = s1.heap.objs.size := by simpa using hb
    have hle : s1.heap.objs.size ≤ b := by
      rcases e' with z | z
      · rw [z]; exact Nat.le_add_right _ _
      · rw [z]; exact Nat.le_refl _
    exact I1.fpOk hle (I1.hok.fresh hle)
theorem iEn (hm : X.mg "enumerate" = none) (ha : PAs X W [e] fs) (hg : Gl X "enumerate" := by rfl) (hs : starEach [e] X.env = [(false, eval e X.env)] := by rfl) : PIt X W (.Tuple elts kk tpos) (.Call (.Name "enumerate" p) [e] [] pos) (fEn fs) := by
  refine PI.conseq (pi_enumK hg hm ha hs) fun σ H Q ⟨F0, H0, F, τ, r, s, hf, q⟩ => ?_
  rcases bnd_some hf with ⟨n, e1, rfl⟩ | ⟨ds, e1, hf⟩
  · exact ⟨F0, H0, F, τ, _, s, e1, q⟩
  · refine ⟨F0, H0, F, τ, _, s, e1, fun vs F1 H1 x1 dv => ?_⟩
    split at hf
    · rename_i d
      rcases bnd_some hf with ⟨n, e2, rfl⟩ | ⟨xs, e2, hf⟩
      · obtain ⟨z, e, e'⟩ := lft_eq e2; cases e'
      · obtain ⟨z, e, e'⟩ := lft_eq e2
        cases e'; cases hf
        cases dv with
        | cons d1 d2 =>
          cases d2
          obtain ⟨a, k, ws, rfl, hq, da⟩ := d1.sq e
          exact ⟨a, k, ws, rfl, sqK_same x1.fh hq, q _ F1 H1 x1 (walksE hq da)⟩
    · cases hf
end

/-! ### zip of two -/
def ItZ (K : PySem.W.Frag) (k l : Bool) (a b : Addr) : It :=
  ⟨fun i H => ∃ (xs ys : List V) (x y : V), SqK k K H a xs ∧ SqK l K H b ys ∧ xs[i]? = some x ∧ ys[i]? = some y,
    fun i H v H' => ∃ T x y, v = .ref T ∧ H T = none ∧ H' = upd H T (.tup [x, y]) ∧ (∀ xs, SqK k K H a xs → xs[i]? = some x) ∧ ∀ ys, SqK l K H b ys → ys[i]? = some y,
    fun i H => ∃ xs ys : List V, SqK k K H a xs ∧ SqK l K H b ys ∧ i ≤ xs.length ∧ i ≤ ys.length ∧ (i = xs.length ∨ i = ys.length)⟩
theorem turnZ {P : Program} {w : World} {K : PySem.W.Frag} {elts : List Expr} {kk : Nat} {tpos : Pos} {k l : Bool} {a b z TI TO i1 i2 : Addr} (S : ZipSep2 z TI TO i1 i2 [i1, a] [i2, b]) (ha : a ≠ i1) (hb : b ≠ i2) :
    Turn P w K (.Tuple elts kk tpos) (ItZ K k l a b) [z, TI, TO, i1, i2] z (fun i h => IsZip h z TI TO .none ∧ IsTupOf2 h TI (.ref i1) (.ref i2) ∧ (∃ a1 a2, IsTupOf2 h TO a1 a2) ∧ IsIt k h i1 a i ∧ IsIt l h i2 b i) where
  mem := by simp
  obj := fun i h st c hc => by
    obtain ⟨hz, hTI, ⟨a1, a2, hTO⟩, h1, h2⟩ := st
    have e' : c = z ∨ c = TI ∨ c = TO ∨ c = i1 ∨ c = i2 := by simpa using hc
    rcases e' with rfl | rfl | rfl | rfl | rfl
    · exact ⟨_, hz, fun v q => nomatch q⟩
    · exact ⟨_, hTI, fun v q => nomatch q⟩
    · exact ⟨_, hTO, fun v q => nomatch q⟩
    · exact h1.obj
    · exact h2.obj
  keep := fun i h h' st kp => by
    obtain ⟨hz, hTI, ⟨a1, a2, hTO⟩, h1, h2⟩ := st
    exact ⟨kp z (by simp) _ hz, kp TI (by simp) _ hTI, ⟨a1, a2, kp TO (by simp) _ hTO⟩, h1.at' fun o q => kp i1 (by simp) o q, h2.at' fun o q => kp i2 (by simp) o q⟩
  item := by
    intro X hP hw hK hc i pins s σ H E I hf st hg
    subst hP hw hK
    obtain ⟨hz, hTI, ⟨a1, a2, hTO⟩, h1, h2⟩ := st
    obtain ⟨xs, ys, x, y, hq, hr, hx, hy⟩ := hg
    obtain ⟨its, rv, p, _⟩ := sqK_get I hq
    obtain ⟨its2, rv2, p2, _⟩ := sqK_get I hr
    obtain ⟨u, hu, ru⟩ := rv.get hx
    obtain ⟨u2, hu2, ru2⟩ := rv2.get hy
    have lt : i < its.toArray.size := by have := (List.getElem?_eq_some_iff.mp hu).1; simpa using this
    have lt2 : i < its2.toArray.size := by have := (List.getElem?_eq_some_iff.mp hu2).1; simpa using this
    refine wpAny_pyNext_zipD2_item S (drawsK (A := X.A.in1) k (I.ok.hd hc) i1 a ha its.toArray) (drawsK (A := X.A.in1) l (I.ok.hd hc) i2 b hb its2.toArray) hz hTI hTO ⟨h1, p⟩ ⟨h2, p2⟩ lt lt2 fun x1 x2 h' tk e1 e2 hz' hTO' st1 st2 hT hsz hk => ?_
    have ex : x1 = u := by rw [List.getElem?_toArray, hu] at e1; exact (Option.some.inj e1).symm
    have ex2 : x2 = u2 := by rw [List.getElem?_toArray, hu2] at e2; exact (Option.some.inj e2).symm
    subst ex ex2
    have hzl : z < s.heap.objs.size := Heap.lt_size hz
    refine ⟨_, rfl, wpAny_letOwnedTupleGo_zip (s := { s with heap := h', toks := tk }) hz' fun h'' hz'' sb => ?_⟩
    have hT2 : h''.get? s.heap.objs.size = some { cls := .type "tuple", data := .seq #[x1, x2] } := (sb.2 _ (Nat.ne_of_gt hzl)).trans hT
    have new : ObjOk X.prog X.w (upd H s.heap.objs.size (.tup [x, y])) h'' s.heap.objs.size (.tup [x, y]) :=
      ⟨by show 2 ≤ sizeLine; decide, [x1, x2], .cons ru (.cons ru2 .nil), ⟨_, hT2, rfl, _, rfl⟩⟩
    have I1 : L2.Inv X pins σ (upd H s.heap.objs.size (.tup [x, y])) { s with heap := h'', toks := tk } :=
      I.turnedNew (ch := [z, TI, TO, i1, i2]) (fun c ob hcn q => (sb.2 c (fun z => hcn (by simp [z]))).trans (hk c ob (fun z => hcn (by simp [z])) (fun z => hcn (by simp [z])) (fun z => hcn (by simp [z])) (fun z => hcn (by simp [z])) q)) hf (Nat.le_refl _) new
    refine ⟨.ref s.heap.objs.size, _, I1, rfl, ⟨_, x, y, rfl, I.hok.fresh (Nat.le_refl _), rfl, fun ws hw => by rw [sqK_inj I hw hq]; exact hx, fun ws hw => by rw [sqK_inj I hw hr]; exact hy⟩,
      ⟨hz'', (sb.2 _ S.TIz).trans (hk TI _ S.TIz S.TITO S.TIi1 S.TIi2 hTI), ⟨x1, x2, (sb.2 _ S.TOz).trans hTO'⟩, st1.1.at' fun o q => (sb.2 i1 (Ne.symm S.zi1)).trans q, st2.1.at' fun o q => (sb.2 i2 (Ne.symm S.zi2)).trans q⟩, fun c hcm => ?_⟩
    have hlt : c < s.heap.objs.size := by
      have e' : c = z ∨ c = TI ∨ c = TO ∨ c = i1 ∨ c = i2 := by simpa using hcm
      rcases e' with rfl | rfl | rfl | rfl | rfl
      · exact hzl
      · exact Heap.lt_size hTI
      · exact Heap.lt_size hTO
      · obtain ⟨o, q, _⟩ := h1.obj; exact Heap.lt_size q
      · obtain ⟨o, q, _⟩ := h2.obj; exact Heap.lt_size q
    rw [upd_ne (Nat.ne_of_lt hlt)]
    exact (hf c hcm).1
  done := by
    intro X hP hw hK hc i pins s σ H E I hf st hg
    subst hP hw hK
    obtain ⟨hz, hTI, ⟨a1, a2, hTO⟩, h1, h2⟩ := st
    obtain ⟨xs, ys, hq, hr, l1, l2, hend⟩ := hg
    obtain ⟨its, rv, p, _⟩ := sqK_get I hq
    obtain ⟨its2, rv2, p2, _⟩ := sqK_get I hr
    have n1 : its.toArray.size = xs.length := by rw [List.size_toArray]; exact rv.length.symm
    have n2 : its2.toArray.size = ys.length := by rw [List.size_toArray]; exact rv2.length.symm
    refine wpAny_pyNext_zipD2_end S (drawsK (A := X.A.in1) k (I.ok.hd hc) i1 a ha its.toArray) (drawsK (A := X.A.in1) l (I.ok.hd hc) i2 b hb its2.toArray) hz hTI hTO ⟨h1, p⟩ ⟨h2, p2⟩ (by omega) (by omega) (by omega) fun h' tk hk => ⟨rfl, ?_⟩
    have nch : ∀ b u, H b = some u → b ∉ [z, TI, TO, i1, i2] := fun b u e hm => by
      have := (hf b hm).1
      rw [e] at this; cases this
    have fr : ∀ c ∈ [z, TI, TO, i1, i2], FpOk X pins H c := hf
    refine I.step (g' := s.gens) (d' := s.drawn) (ch := [z, TI, TO, i1, i2]) (fun c hcm => ?_) (fun c o _ _ hn e _ => hk c o (fun z => hn (by simp [z])) (fun z => hn (by simp [z])) (fun z => hn (by simp [z])) (fun z => hn (by simp [z])) e) (fun c o _ _ hn e _ => ⟨o.slots, hk c o (fun z => hn (by simp [z])) (fun z => hn (by simp [z])) (fun z => hn (by simp [z])) (fun z => hn (by simp [z])) e⟩) (fun _ _ _ _ n => n)
      (fun c o hn e => ⟨o, hk c o (fun z => hn (by simp [z])) (fun z => hn (by simp [z])) (fun z => hn (by simp [z])) (fun z => hn (by simp [z])) e⟩) (fun _ _ e => e) (fun _ _ _ e => e) (fun b ps e => ⟨#[], by rw [e]; simp⟩) (fun m hm => ?_) (fun b u e => ?_) I.bare
    · obtain ⟨f0, f1, f2, f3, f4, f5⟩ := fr c hcm
      exact ⟨f3, f1, f4, f5⟩
    · obtain ⟨o, es, ep, ho, r⟩ := hm
      have nl : ∀ c ∈ [z, TI, TO, i1, i2], X.env.locals ≠ c := fun c hcm => Ne.symm (fr c hcm).2.1
      exact ⟨o, es, ep, hk _ o (nl z (by simp)) (nl TO (by simp)) (nl i1 (by simp)) (nl i2 (by simp)) ho, r⟩
    · refine (I.hok b u e).stay (fun c v hcv q => ?_) (fun _ q => q) fun _ _ q => q
      have hn : c ∉ [z, TI, TO, i1, i2] := by
        rcases hcv with rfl | hcv
        · exact nch c u e
        · exact nch c _ hcv
      exact hk c v (fun z => hn (by simp [z])) (fun z => hn (by simp [z])) (fun z => hn (by simp [z])) (fun z => hn (by simp [z])) q
  self := fun A i s Q E st h => wpAny_pyIter_zip st.1 h
def zipD (xs ys : List D) : List D := List.zipWith (fun x y => .tuple [x, y]) xs ys
theorem walksZ {K : PySem.W.Frag} {k l : Bool} {a b : Addr} {G F : Hp} {vs ws : List V} {xs ys : List D} (h : SqK k K G a vs) (q : DqAll K F vs xs) (h' : SqK l K G b ws) (q' : DqAll K F ws ys) : Walks K (ItZ K k l a b) G F (zipD xs ys) := fun i H sm => by
  have hl : SqK k K H a vs := sqK_same sm h
  have hl' : SqK l K H b ws := sqK_same sm h'
  have el : (zipD xs ys).length = min xs.length ys.length := by simp [zipD]
  refine ⟨fun hi => ?_, fun hi => ⟨vs, ws, hl, hl', by rw [q.length]; omega, by rw [q'.length]; omega, by rw [q.length, q'.length]; omega⟩, fun d hd x H1 hy F2 s2 s3 => ?_⟩
  · rw [el] at hi
    obtain ⟨v, e, _⟩ := q.get (List.getElem?_eq_getElem (show i < xs.length by omega))
    obtain ⟨v', e', _⟩ := q'.get (List.getElem?_eq_getElem (show i < ys.length by omega))
    exact ⟨vs, ws, v, v', hl, hl', e, e'⟩
  · obtain ⟨T, y, y', rfl, nT, rfl, hy, hy'⟩ := hy
    have e0 : ∃ x0 x1, xs[i]? = some x0 ∧ ys[i]? = some x1 ∧ d = .tuple [x0, x1] := by
      simp only [zipD, List.getElem?_zipWith] at hd
      split at hd
      · rename_i x0 x1 e0 e1
        cases hd
        exact ⟨x0, x1, e0, e1, rfl⟩
      · cases hd
    obtain ⟨x0, x1, e1, e2, rfl⟩ := e0
    obtain ⟨v, e, dv⟩ := q.get e1
    obtain ⟨v', e', dv'⟩ := q'.get e2
    have z : y = v := Option.some.inj ((hy vs hl).symm.trans e)
    subst z
    have z : y' = v' := Option.some.inj ((hy' ws hl').symm.trans e')
    subst z
    have x3 := Ext.new (o := .tup [y, y']) s3 nT
    exact ⟨_, x3, .tup (.of upd_same) (.cons ((dv.mono s2).mono x3.ff) (.cons ((dv'.mono s2).mono x3.ff) .nil))⟩
def fZp (f : Ta → R (List D)) : Ta → R (List D) := fun τ => bnd (f τ) fun ds => match ds with
  | [d, e] => bnd (lft (seqD d)) fun xs => bnd (lft (seqD e)) fun ys => ok (zipD xs ys)
  | _ => none
section
variable {X : Cx} {W : WX} {e e2 : Expr} {fs : Ta → R (List D)} {p pos tpos : Pos} {elts : List Expr} {kk : Nat}
theorem pi_zipK {ta : TA} (hg : Gl X "zip") (hm : X.mg "zip" = none) (ha : PA X [e, e2] ta)
    (hs : starEach [e, e2] X.env = (false, eval e X.env) :: starEach [e2] X.env := by rfl) (hpl : (backTo pos (starEach [e2] X.env)).any (·.1) = false := by rfl) :
    PI X (.Tuple elts kk tpos) (.Call (.Name "zip" p) [e, e2] [] pos) (fun σ H R => ta σ H fun vs H1 => ∃ a b k l xs ys, vs = [.ref a, .ref b] ∧ SqK k X.K H1 a xs ∧ SqK l X.K H1 b ys ∧ R (ItZ X.K k l a b) H1) := by
  refine ⟨fun pins s σ H R I h => ?_⟩
  refine Call_ (ld_blt I hg hm PyProof.Rows.boot_zip (PyProof.Rows.callWith_type1 (thn (ha.run pos pins s σ H _ I h) fun us s1 ⟨vs, H1, I1, r1, q1⟩ => ?_) hs hpl))
  obtain ⟨a, b, k, l, xs, ys, ex, hq, hr, q⟩ := q1
  subst ex
  cases r1 with
  | cons r rr =>
    cases rr with
    | cons r' rr =>
      cases rr
      cases r
      cases r'
      obtain ⟨its, rv, p1, la⟩ := sqK_get I1 hq
      obtain ⟨its2, rv2, p2, lb⟩ := sqK_get I1 hr
      refine zip_begins2 (beginsK k a its.toArray) (beginsK l b its2.toArray) p1 p2 fun h' hz hTI hTO g1 g2 hsz hk => wpAny_pyIter_zip hz ?_
      have I2 : L2.Inv X pins σ H1 { s1 with heap := h' } := I1.kept (t' := s1.toks) hk
      refine ⟨s1.heap.objs.size + 4, [s1.heap.objs.size + 4, s1.heap.objs.size + 2, s1.heap.objs.size + 3, s1.heap.objs.size, s1.heap.objs.size + 1], _, _, H1, rfl, I2, turnZ (sep2 s1.heap.objs.size a b la lb) (Nat.ne_of_lt la) (ltNe lb 1), ⟨hz, hTI, ⟨_, _, hTO⟩, IsIt.new g1, IsIt.new g2⟩, fun c hcm => ?_, q⟩
      have hle : s1.heap.objs.size ≤ c := le5 (by simpa using hcm)
      exact I1.fpOk hle (I1.hok.fresh hle)
theorem iZp (hm : X.mg "zip" = none) (ha : PAs X W [e, e2] fs) (hg : Gl X "zip" := by rfl)
    (hs : starEach [e, e2] X.env = (false, eval e X.env) :: starEach [e2] X.env := by rfl) (hpl : (backTo pos (starEach [e2] X.env)).any (·.1) = false := by rfl) : PIt X W (.Tuple elts kk tpos) (.Call (.Name "zip" p) [e, e2] [] pos) (fZp fs) := by
  refine PI.conseq (pi_zipK hg hm ha hs hpl) fun σ H Q ⟨F0, H0, F, τ, r, s, hf, q⟩ => ?_
  rcases bnd_some hf with ⟨n, e1, rfl⟩ | ⟨ds, e1, hf⟩
  · exact ⟨F0, H0, F, τ, _, s, e1, q⟩
  · refine ⟨F0, H0, F, τ, _, s, e1, fun vs F1 H1 x1 dv => ?_⟩
    split at hf
    · rename_i d d'
      rcases bnd_some hf with ⟨n, e2, rfl⟩ | ⟨xs, e2, hf⟩
      · obtain ⟨z, e, e'⟩ := lft_eq e2; cases e'
      rcases bnd_some hf with ⟨n, e3, rfl⟩ | ⟨ys, e3, hf⟩
      · obtain ⟨z, e, e'⟩ := lft_eq e3; cases e'
      obtain ⟨z, ee, e'⟩ := lft_eq e2
      cases e'
      obtain ⟨z, ee', e'⟩ := lft_eq e3
      cases e'; cases hf
      cases dv with
      | cons d1 d2 =>
        cases d2 with
        | cons d2 d3 =>
          cases d3
          obtain ⟨a, k, ws, rfl, hq, da⟩ := d1.sq ee
          obtain ⟨b, l, us, rfl, hr, db⟩ := d2.sq ee'
          exact ⟨a, b, k, l, ws, us, rfl, sqK_same x1.fh hq, sqK_same x1.fh hr, q _ F1 H1 x1 (walksZ hq da hr db)⟩
    · cases hf
end
end DL
set_option Elab.async false
set_option linter.all false
set_option maxRecDepth 100000
set_option maxHeartbeats 4000000
namespace DL
open PySem PySem.Spec PyProof.Rows L2

/-! ### built-in functions on data -/
def lenDs : List D → Option D
  | [.list xs] => some (.int xs.length)
  | [.tuple xs] => some (.int xs.length)
  | [.dict [(.none, .list xs)]] => some (.int xs.length)
  | [.str x] => if x.length ≤ 100000 then some (.int x.length) else none
  | _ => none
def absDs : List D → Option D
  | [.int i] => some (.int (if i < 0 then -i else i))
  | _ => none
def minDs : List D → Option D
  | [.int i, .int j] => some (.int (if j < i then j else i))
  | _ => none
def maxDs : List D → Option D
  | [.int i, .int j] => some (.int (if j > i then j else i))
  | _ => none
def intDs : List D → Option D
  | [.int i] => some (.int i)
  | [.bool b] => some (.int (if b then 1 else 0))
  | _ => none
def strDs : List D → Option D
  | [.int i] => if i.natAbs.log2 < 1920 then some (.str (toString i)) else none
  | _ => none
def tupDs : List D → Option D
  | [.list xs] => some (.tuple xs)
  | [.tuple xs] => some (.tuple xs)
  | _ => none
section
variable {X : Cx}
theorem cLen : CallR X (.builtin "len") (rDs X.K lenDs) := by
  intro pins s σ H xs us Q I r ⟨F, ds, z, sm, dv, h, q⟩
  cases dv with
  | nil => cases h
  | cons d1 d2 =>
    cases d2 with
    | nil =>
      cases d1 with
      | lst h1 h2 => cases h; exact call_len_seq pins s σ H _ us Q I r ⟨_, _, rfl, .inl (.of (sm _ _ h1)), q _ F H (.refl sm) (by rw [h2.length]; exact .int _)⟩
      | tup h1 h2 => cases h; exact call_len_seq pins s σ H _ us Q I r ⟨_, _, rfl, .inr (sameT sm h1), q _ F H (.refl sm) (by rw [h2.length]; exact .int _)⟩
      | scr h1 => cases h; exact call_len_seq pins s σ H _ us Q I r ⟨_, _, rfl, .inl (sm.seq h1), q _ F H (.refl sm) (by simp only [List.length_map]; exact .int _)⟩
      | str x =>
        simp only [lenDs] at h
        split at h
        · rename_i hl
          cases h
          exact call_len_str pins s σ H _ us Q I r ⟨x, rfl, small5 hl, q _ F H (.refl sm) (.int _)⟩
        · cases h
      | _ => cases h
    | cons _ _ => cases d1 <;> cases h
theorem cAbs : CallR X (.builtin "abs") (rDs X.K absDs) := by
  intro pins s σ H xs us Q I r ⟨F, ds, z, sm, dv, h, q⟩
  cases dv with
  | nil => cases h
  | cons d1 d2 =>
    cases d2 with
    | nil =>
      cases d1 with
      | int i => cases h; exact call_abs pins s σ H _ us Q I r ⟨i, rfl, q _ F H (.refl sm) (.int _)⟩
      | _ => cases h
    | cons _ _ => cases d1 <;> cases h
theorem two_of {f : List D → Option D} {g : Int → Int → Int} (hf : ∀ ds z, f ds = some z → ∃ i j, ds = [.int i, .int j] ∧ z = .int (g i j)) {K : PySem.W.Frag} {F : Hp} {xs : List V} {ds : List D} {z : D} (dv : DqAll K F xs ds) (h : f ds = some z) : ∃ i j, xs = [.int i, .int j] ∧ z = .int (g i j) := by
  obtain ⟨i, j, rfl, rfl⟩ := hf ds z h
  exact ⟨i, j, DqAll.ints (ns := [i, j]) dv, rfl⟩
theorem minDs_eq (ds : List D) (z : D) (h : minDs ds = some z) : ∃ i j, ds = [.int i, .int j] ∧ z = .int (if j < i then j else i) := by
  unfold minDs at h
  split at h
  · cases h; exact ⟨_, _, rfl, rfl⟩
  · cases h
theorem maxDs_eq (ds : List D) (z : D) (h : maxDs ds = some z) : ∃ i j, ds = [.int i, .int j] ∧ z = .int (if j > i then j else i) := by
  unfold maxDs at h
  split at h
  · cases h; exact ⟨_, _, rfl, rfl⟩
  · cases h
theorem cMin (hc : X.calm = true) : CallR X (.builtin "min") (rDs X.K minDs) := by
  intro pins s σ H xs us Q I r ⟨F, ds, z, sm, dv, h, q⟩
  obtain ⟨i, j, rfl, rfl⟩ := two_of minDs_eq dv h
  exact call_min2 hc pins s σ H _ us Q I r ⟨i, j, rfl, q _ F H (.refl sm) (.int _)⟩
theorem cMax (hc : X.calm = true) : CallR X (.builtin "max") (rDs X.K maxDs) := by
  intro pins s σ H xs us Q I r ⟨F, ds, z, sm, dv, h, q⟩
  obtain ⟨i, j, rfl, rfl⟩ := two_of maxDs_eq dv h
  exact call_max2 hc pins s σ H _ us Q I r ⟨i, j, rfl, q _ F H (.refl sm) (.int _)⟩
theorem cInt : CallR X (.type "int") (rDs X.K intDs) := by
  intro pins s σ H xs us Q I r ⟨F, ds, z, sm, dv, h, q⟩
  cases dv with
  | nil => cases h
  | cons d1 d2 =>
    cases d2 with
    | nil =>
      cases d1 with
      | int i => cases h; exact call_int1 pins s σ H _ us Q I r (.inl ⟨i, rfl, q _ F H (.refl sm) (.int _)⟩)
      | bl b => cases h; exact call_int1 pins s σ H _ us Q I r (.inr ⟨b, rfl, q _ F H (.refl sm) (.int _)⟩)
      | _ => cases h
    | cons _ _ => cases d1 <;> cases h
theorem cStr : CallR X (.type "str") (rDs X.K strDs) := by
  intro pins s σ H xs us Q I r ⟨F, ds, z, sm, dv, h, q⟩
  cases dv with
  | nil => cases h
  | cons d1 d2 =>
    cases d2 with
    | nil =>
      cases d1 with
      | int i =>
        simp only [strDs] at h
        split at h
        · rename_i hl
          cases h
          exact call_str_int pins s σ H _ us Q I r ⟨i, rfl, hl, q _ F H (.refl sm) (.str _)⟩
        · cases h
      | _ => cases h
    | cons _ _ => cases d1 <;> cases h
theorem cTup : CallR X (.type "tuple") (rDs X.K tupDs) := by
  intro pins s σ H xs us Q I r ⟨F, ds, z, sm, dv, h, q⟩
  cases dv with
  | nil => cases h
  | cons d1 d2 =>
    cases d2 with
    | nil =>
      cases d1 with
      | lst h1 h2 => cases h; exact call_tuple_of pins s σ H _ us Q I r ⟨_, _, rfl, .inl ⟨.of (sm _ _ h1), fun l hl => newT q sm hl h2⟩⟩
      | tup h1 h2 => cases h; exact call_tuple_of pins s σ H _ us Q I r ⟨_, _, rfl, .inr ⟨sameT sm h1, q _ F H (.refl sm) (.tup h1 h2)⟩⟩
      | _ => cases h
    | cons _ _ => cases d1 <;> cases h
end
/-- list(x), a new list -/
def fLs (f : Ta → R D) : Ta → R (List D) := fun τ => bnd (f τ) fun d => lft (seqD d)
def fLr (f : Ta → R D) : Ta → R (List D) := fun τ => bnd (f τ) fun d => match d with
  | .int n => if 0 ≤ n ∧ n.toNat ≤ 100000 then ok (rngD 0 n.toNat) else none
  | _ => none
/-- isinstance(x, T) of a built-in class -/
def tyD : D → Option String
  | .none => some "NoneType"
  | .bool _ => some "bool"
  | .int _ => some "int"
  | .str _ => some "str"
  | .list _ => some "list"
  | .tuple _ => some "tuple"
  | .dict _ => none
def isiD (T : String) (d : D) : Option D := (tyD d).bind fun t => (kitB t T).map .bool
theorem tyX_of {K : PySem.W.Frag} {F H : Hp} {v : V} {d : D} {t : String} (h : Dq K F v d) (sm : Same F H) (e : tyD d = some t) : TyX K H v (.type t) := by
  cases h with
  | non => cases e; exact .base .non
  | bl b => cases e; exact .base (.bl b)
  | int i => cases e; exact .base (.int i)
  | str x => cases e; exact .base (.str x)
  | lst h1 h2 => cases e; exact .base (.lst (sm _ _ h1))
  | tup h1 h2 =>
    cases e
    rcases h1 with (h1 | ⟨o, h1⟩) | ⟨o, its, n, h1, h3, _⟩
    · exact .base (.tup (sm _ _ h1))
    · exact .fTuple (sm _ _ h1)
    · exact .kTuple h1 h3
  | scr a => cases e
  | dic _ _ _ _ => cases e
section
variable {X : Cx} {W : WX} {e : Expr} {f : Ta → R D} {p p2 pos : Pos}
theorem lLs (he : PD X W e f) (hm : X.mg "list" = none) (hg : Gl X "list" := by rfl) (hs : starEach [e] X.env = (false, eval e X.env) :: starEach [] X.env := by rfl) : PL X W (.Call (.Name "list" p) [e] [] pos) (fLs f) := by
  refine PE.conseq (pe_callTy call_list_of hg hm (by decide +kernel) (pa_cons he pa_nil hs) (he := hs)) fun σ H Q ⟨F0, H0, F, τ, r, s, hf, q⟩ => ?_
  rcases bnd_some hf with ⟨n, e1, rfl⟩ | ⟨d, e1, hf⟩
  · exact ⟨F0, H0, F, τ, _, s, e1, q⟩
  · refine ⟨F0, H0, F, τ, _, s, e1, fun v F1 H1 x1 dv => ?_⟩
    obtain ⟨xs, ed, rfl⟩ := lft_eq hf
    cases dv with
    | lst h1 h2 => cases ed; exact ⟨_, _, rfl, .inl (.of (x1.fh _ _ h1)), fun l hl => q l _ F1 _ (x1.trans (Ext.newO x1.fh hl)) (x1.hh.free hl) upd_same (x1.fh.free hl) h2⟩
    | tup h1 h2 => cases ed; exact ⟨_, _, rfl, .inr (sameT x1.fh h1), fun l hl => q l _ F1 _ (x1.trans (Ext.newO x1.fh hl)) (x1.hh.free hl) upd_same (x1.fh.free hl) h2⟩
    | _ => cases ed
theorem dqRg {K : PySem.W.Frag} {F : Hp} (lo hi : Int) : DqAll K F (rgV lo hi) (rngD lo (hi - lo).toNat) := by
  unfold rgV rngD
  generalize List.range (hi - lo).toNat = l
  induction l with
  | nil => exact .nil
  | cons i l ih => exact .cons (.int _) ih
theorem lLr (he : PD X W e f) (hm : X.mg "list" = none) (hmr : X.mg "range" = none) {p3 pos2 : Pos} (hc : X.calm = true := by rfl) (hg : Gl X "list" := by rfl) (hgr : Gl X "range" := by rfl) (hs : starEach [e] X.env = (false, eval e X.env) :: starEach [] X.env := by rfl) :
    PL X W (.Call (.Name "list" p) [.Call (.Name "range" p3) [e] [] pos2] [] pos) (fLr f) := by
  refine PE.conseq (pe_listRg hc hg hm (prg_1 hgr hmr he hs)) fun σ H Q ⟨F0, H0, F, τ, r, s, hf, q⟩ => ?_
  rcases bnd_some hf with ⟨n, e1, rfl⟩ | ⟨d, e1, hf⟩
  · exact ⟨F0, H0, F, τ, _, s, e1, q⟩
  · refine ⟨F0, H0, F, τ, _, s, e1, fun v F1 H1 x1 dv => ?_⟩
    cases dv with
    | int n =>
      simp only at hf
      split at hf
      · rename_i hn
        cases hf
        refine ⟨n, rfl, RgOk.of_le (by omega) (by omega) (by omega) (by omega), fun l hl => ?_⟩
        have dq := dqRg (K := X.K) (F := F1) 0 n
        rw [Int.sub_zero] at dq
        exact q l _ F1 _ (x1.trans (Ext.newO x1.fh hl)) (x1.hh.free hl) upd_same (x1.fh.free hl) dq
      · cases hf
    | _ => cases hf
theorem dIsi (T : String) {x : Str} (he : PD X W e f) (hm : X.mg "isinstance" = none) (hmT : X.mg x = none) (hv : bootBuiltins x = some (.type T)) (hg : Gl X "isinstance" := by rfl) (hgT : Gl X x := by rfl) (hn : x ≠ "__name__" := by decide) (hdb : (x == ("__debug__" : Str)) = false := by decide)
    (hs : starEach [e, .Name x p2] X.env = (false, eval e X.env) :: starEach [.Name x p2] X.env := by rfl) :
    PD X W (.Call (.Name "isinstance" p) [e, .Name x p2] [] pos) (fU (isiD T) f) := by
  refine PE.conseq (pe_callB call_isi hg hm (by decide +kernel) (pa_cons he (pa_cons (pe_bltn (v := .ty T) hgT hmT hv rfl hn hdb) pa_nil) hs) (he := hs)) fun σ H Q ⟨F0, H0, F, τ, r, s, hf, q⟩ => ?_
  refine tX_bnd s hf q fun d v F1 H1 x1 s1 dv hf q => ?_
  obtain ⟨z, e, rfl⟩ := lft_eq hf
  unfold isiD at e
  obtain ⟨t, e1, e2⟩ := Option.bind_eq_some_iff.mp e
  obtain ⟨b, e3, rfl⟩ := Option.map_eq_some_iff.mp e2
  exact ⟨v, .ty T, .type t, .type T, b, rfl, .ty T, tyX_of dv x1.fh e1, kit_ty e3, q _ F1 H1 (.refl x1.fh) (.bl b)⟩
end

/-! ### raise -/
/-- the exception class x: over a ValueError, without own __init__ -/
structure Xc (K : PySem.W.Frag) (mg : Str → Option Value) (x : Str) : Prop where
  ex : ∃ C, mg x = some (.ref C) ∧ PySem.W.excIn K C [.type "ValueError", .type "Exception", .type "BaseException", .type "object"] "ValueError.__new__" = true ∧ PySem.W.keepIn K (.ref C) = true ∧
    PySem.W.subIn K (.ref C) (.type "BaseException") = some true ∧ PySem.W.typeIn K (.ref C) = some (.type "type")
def gRaise (x : Str) : Ta → Option Out := fun τ => some (.ex x τ)
section
variable {X : Cx} {W : WX} {x m : Str} {j : Nat} {p p2 pos pos2 : Pos}
theorem sRaise (T : Xc X.K X.mg x) (tk : Takes X W) (hc : X.calm = true := by rfl) (hg : Gl X x := by rfl) (hdb : (x == ("__debug__" : Str)) = false := by decide) :
    PD1 X W (.Raise (some (.Call (.Name x p) [.Constant (.str m) j p2] [] pos)) none pos2) (gRaise x) := by
  obtain ⟨C, gC, xC, kC, bC, tC'⟩ := T.ex
  refine PS.conseq (ps_raise hc tk (pmk_own PySem.F.excBase_ValueError xC gC kC (raises_own bC tC') hg hdb)) fun D σ H ⟨F0, H0, F, τ, o, s, hf, q⟩ => ?_
  cases hf
  have z := q F H σ s
  unfold xcl at z
  rw [gC] at z
  exact z
/-- what is not gone through -/
theorem sNever {st : Stmt} : PD1 X W st (fun _ => none) := PS.conseq ps_never fun D σ H ⟨F0, H0, F, τ, o, s, hf, q⟩ => by cases hf
theorem dNever {e : Expr} : PD X W e (fun _ => none) := ⟨fun pins s σ H Q I ⟨F0, H0, F, τ, r, s', hf, q⟩ => by cases hf⟩
end

/-! ### defs -/
def initT (n t : Nat) (ds : List D) : Ta := ds.map .d ++ List.replicate (t - n) .u
def runDef (n t : Nat) (g : Ta → Option Out) : List D → R D := fun ds => if ds.length = n then (match g (initT n t ds) with
  | some (.rt d) => ok d
  | some (.nx _) => ok .none
  | some (.ex m _) => er m
  | _ => none) else none
theorem runDef_len {n t : Nat} {g : Ta → Option Out} (ds : List D) (r : Except Str D) (h : runDef n t g ds = some r) : ds.length = n := by
  unfold runDef at h
  split at h
  · assumption
  · cases h
theorem stR_start {K : PySem.W.Frag} {F H : Hp} {N : List Str} {vs : List V} {ds : List D} {n : Nat} (sm : Same F H) (dv : DqAll K F vs ds) (hn : ds.length = n) : StR K F H F H (L2.start N vs) (initT n N.length ds) where
  ext := .refl sm
  len := by
    unfold L2.start initT
    simp only [List.length_append, List.length_map, List.length_replicate]
    rw [dv.length, hn]
  dat := fun i x e => by
    unfold initT at e
    by_cases hi : i < ds.length
    · rw [List.getElem?_append_left (by simpa using hi), List.getElem?_map] at e
      obtain ⟨d, e1, e2⟩ := Option.map_eq_some_iff.mp e
      cases e2
      obtain ⟨v, e3, e4⟩ := dv.get e1
      refine ⟨v, ?_, e4⟩
      unfold L2.start
      rw [List.getElem?_append_left (by simpa [dv.length] using hi), List.getElem?_map, e3] <;> rfl
    · rw [List.getElem?_append_right (by simpa using hi), List.getElem?_replicate] at e
      split at e <;> cases e
  ows := by
    have no : ∀ i, ¬ Own (initT n N.length ds) i := fun i h => by
      have hx : ∃ y : SV, (initT n N.length ds)[i]? = some y ∧ (∀ x, y ≠ .d x) ∧ y ≠ .u := by
        rcases h with ⟨xs, e⟩ | ⟨xss, e⟩ | ⟨kvs, e⟩
        · exact ⟨_, e, by simp, by simp⟩
        · exact ⟨_, e, by simp, by simp⟩
        · exact ⟨_, e, by simp, by simp⟩
      obtain ⟨y, e, h1, h2⟩ := hx
      unfold initT at e
      by_cases hi : i < ds.length
      · rw [List.getElem?_append_left (by simpa using hi), List.getElem?_map] at e
        obtain ⟨d, e1, e2⟩ := Option.map_eq_some_iff.mp e
        exact h1 d e2.symm
      · rw [List.getElem?_append_right (by simpa using hi), List.getElem?_replicate] at e
        split at e
        · cases e; exact h2 rfl
        · cases e
    exact ⟨fun _ => [], fun i xs e => absurd (.inl ⟨xs, e⟩) (no i), fun i xss e => absurd (.inr (.inl ⟨xss, e⟩)) (no i), fun i kvs e => absurd (.inr (.inr ⟨kvs, e⟩)) (no i), fun i e => absurd e (no i), fun i e => absurd e (no i), fun i j _ e => absurd e (no i)⟩
section
variable {P : Program} {w : World} {K : PySem.W.Frag} {mg : Str → Option Value} {base : Heap}
theorem mkFn {x : Str} {st : Stmt} {a : Addr} {fd : FuncData} {N ps : List Str} {k : Nat} {g : Ta → Option Out} (F : Fun K x x st a fd) (S : FnScope N ps (defScope st))
    (body : ∀ (cdv : Value) (A : Around) (outer : List Env) (s : Shared) (H : Hp) (E : XK), Room k (A.deeper (envOfC x (defScope st) s.heap.objs.size a cdv)) →
      PDs (cxOf (L2.CX P w) P w K mg base N x (defScope st) a cdv A outer s H E) (fun cls d _ H => E cls d H) (defBody st) g) : FnOk P w K mg base (L2.CX P w) (k + 1) a fd ps (spR K mg ps.length (runDef ps.length N.length g)) := by
  refine F.okX S (fun vs H Q E h => ?_) (fun cdv A outer s H vs Q E hr h => ?_)
  · obtain ⟨_, _, _, h, _⟩ := h
    exact h
  · obtain ⟨F1, ds, r, hl, sm, dv, hf, q⟩ := h
    refine ⟨_, body cdv A outer s H E hr, ?_⟩
    have hn : ds.length = ps.length := runDef_len ds r hf
    unfold runDef at hf
    rw [if_pos hn] at hf
    have s0 := stR_start (N := N) sm dv hn
    cases e1 : g (initT ps.length N.length ds) with
    | none => rw [e1] at hf; cases hf
    | some o =>
      rw [e1] at hf
      refine ⟨F1, H, F1, _, o, s0, e1, ?_⟩
      cases o with
      | nx τ' => cases hf; exact fun F' H' σ' _ s' => q .non F' H' s'.ext .non
      | rt d => cases hf; exact fun F' H' v x' d' => q v F' H' x' d'
      | ex m τ' => cases hf; exact fun F' H' σ' s' => q F' H' s'.ext
      | bk τ' => cases hf
      | ct τ' => cases hf
theorem mkDef {x : Str} {st : Stmt} {a : Addr} {fd : FuncData} {N ps : List Str} {k : Nat} {g : Ta → Option Out} (F : Fun K x x st a fd) (S : FnScope N ps (defScope st)) (hm : mg x = some (.ref a)) (hb : L2.Binds K fd ps [])
    (body : ∀ (cdv : Value) (A : Around) (outer : List Env) (s : Shared) (H : Hp) (E : XK), Room k (A.deeper (envOfC x (defScope st) s.heap.objs.size a cdv)) →
      PDs (cxOf (L2.CX P w) P w K mg base N x (defScope st) a cdv A outer s H E) (fun cls d _ H => E cls d H) (defBody st) g) : Def P w K mg base x ps.length (k + 1) (runDef ps.length N.length g) :=
  ⟨⟨a, fd, ps, mkFn F S body, hm, F.kp, hb⟩, runDef_len⟩
end
/-- what a context of a def's body has -/
theorem cxTk {P : Program} {w : World} {K : PySem.W.Frag} {mg : Str → Option Value} {base : Heap} {N : List Str} {q : Str} {sc : Scope} {f : Addr} {cd : Value} {A : Around} {outer : List Env} {s : Shared} {H : Hp} {E : XK} :
    Takes (cxOf (L2.CX P w) P w K mg base N q sc f cd A outer s H E) (fun cls d _ H => E cls d H) := takes_of rfl rfl rfl rfl
theorem cxPo {P : Program} {w : World} {K : PySem.W.Frag} {mg : Str → Option Value} {base : Heap} {N : List Str} {q : Str} {sc : Scope} {f : Addr} {cd : Value} {A : Around} {outer : List Env} {s : Shared} {H : Hp} {E : XK} :
    PassesOwn (model (cxOf (L2.CX P w) P w K mg base N q sc f cd A outer s H E).prog (cxOf (L2.CX P w) P w K mg base N q sc f cd A outer s H E).w) (cxOf (L2.CX P w) P w K mg base N q sc f cd A outer s H E).A (cxOf (L2.CX P w) P w K mg base N q sc f cd A outer s H E).env (cxOf (L2.CX P w) P w K mg base N q sc f cd A outer s H E).xe := passes_of rfl
end DL
set_option Elab.async false
set_option linter.all false
set_option maxRecDepth 100000
set_option maxHeartbeats 4000000
namespace DL
open PySem PySem.Spec PyProof.Rows L2
theorem room65 {k : Nat} {A : Around} (r : Room k A) : A.units + 65 < cLine := by have := r.un; omega
theorem bt_len : bootBuiltins "len" = some (.builtin "len") := by decide +kernel
theorem bt_abs : bootBuiltins "abs" = some (.builtin "abs") := by decide +kernel
theorem bt_min : bootBuiltins "min" = some (.builtin "min") := by decide +kernel
theorem bt_max : bootBuiltins "max" = some (.builtin "max") := by decide +kernel
theorem bt_sorted : bootBuiltins "sorted" = some (.builtin "sorted") := by decide +kernel
theorem bt_int : bootBuiltins "int" = some (.type "int") := by decide +kernel
theorem bt_bool : bootBuiltins "bool" = some (.type "bool") := by decide +kernel
theorem bt_str : bootBuiltins "str" = some (.type "str") := by decide +kernel
theorem bt_tuple : bootBuiltins "tuple" = some (.type "tuple") := by decide +kernel
theorem bt_list : bootBuiltins "list" = some (.type "list") := by decide +kernel
theorem bt_set : bootBuiltins "set" = some (.type "set") := by decide +kernel

/-! ### the top's facts -/
section
variable {K : PySem.W.Frag} {h : Heap} {mg : Str → Option Value}
theorem dmk {x : Str} {st : Stmt} {f : Addr} {oc : Value} {od an : Option Addr} {osl : Array (Option Value)} {kV doc pm cdv ct : Value} (X : K.In h) (G : h.Ns mainGlobals mg) (a : PySem.W.nsIn K mainGlobals x = some (some (.ref f)))
    (l : K.lookup f = some ⟨oc, od, .func (PySem.W.fnOf x x (defArgs st) (defBody st) (defScope st) .none kV doc pm an cdv ct), osl⟩) (c : PySem.W.codeIn K cdv x = true) (k : PySem.W.keepIn K (.ref f) = true) :
    ∃ a fd, Fun K x x st a fd ∧ mg x = some (.ref a) := ⟨f, _, fun_mk l c k, PySem.W.mg_of X G a⟩
theorem bmk {x : Str} (X : K.In h) (G : h.Ns mainGlobals mg) (a : PySem.W.nsIn K mainGlobals x = some none) : mg x = none := PySem.W.mg_none_of X G a
theorem xmk {x : Str} {C : Addr} (X : K.In h) (G : h.Ns mainGlobals mg) (a : PySem.W.nsIn K mainGlobals x = some (some (.ref C))) (b : PySem.W.excIn K C [.type "ValueError", .type "Exception", .type "BaseException", .type "object"] "ValueError.__new__" = true)
    (k : PySem.W.keepIn K (.ref C) = true) (s : PySem.W.subIn K (.ref C) (.type "BaseException") = some true) (t : PySem.W.typeIn K (.ref C) = some (.type "type")) : Xc K mg x := ⟨⟨C, PySem.W.mg_of X G a, b, k, s, t⟩⟩
theorem imk {x : Str} {i : Int} {t : Tok} (X : K.In h) (G : h.Ns mainGlobals mg) (a : PySem.W.nsIn K mainGlobals x = some (some (.int i t))) : Glo K mg x (.int i) := ⟨.int i, _, PySem.W.mg_of X G a, ⟨t, rfl⟩, fun _ => .int i⟩
theorem smk {x y : Str} {t : Tok} (X : K.In h) (G : h.Ns mainGlobals mg) (a : PySem.W.nsIn K mainGlobals x = some (some (.str y t))) : Glo K mg x (.str y) := ⟨.str y, _, PySem.W.mg_of X G a, ⟨t, rfl⟩, fun _ => .str y⟩
theorem qmk {x : Str} {z : Addr} {i j : Int} {t u : Tok} {dd : Option Addr} {n : Nat} {sl : Array (Option Value)} (X : K.In h) (G : h.Ns mainGlobals mg) (a : PySem.W.nsIn K mainGlobals x = some (some (.ref z)))
    (l : K.lookup z = some ⟨.type "tuple", dd, .seq #[.int i t, .int j u] n, sl⟩) : Glo K mg x (.tuple [.int i, .int j]) :=
  ⟨.ref z, _, PySem.W.mg_of X G a, rfl, fun F => .tup (xs := [.int i, .int j]) (.inr ⟨_, _, _, l, rfl, rfl, by show 2 ≤ sizeLine; decide, .cons ⟨t, rfl⟩ (.cons ⟨u, rfl⟩ .nil)⟩) (.cons (.int i) (.cons (.int j) .nil))⟩
end
/-- the script, as data -/
def scr (ns : List Int) : D := .dict [(.none, .list (ns.map .int))]
theorem law_sp {K : PySem.W.Frag} {mg : Str → Option Value} {f : List D → R D} {H : Hp} {a : Addr} {ns : List Int} (hS : SqL K H a (ns.map V.int)) (h : f [scr ns] = ok (.bool true)) :
    spR K mg 1 f [.ref a] H (fun v _ => v = .bl true) fun _ _ _ => False :=
  ⟨H, [scr ns], .ok (.bool true), rfl, Same.refl _, .cons (.scr hS) .nil, h, fun v F' H' _ d => by cases d; rfl⟩
theorem cx_no {P : Program} {w : World} (H : Hp) (s : Shared) (e : Value) (s' : Shared) (h : L2.CX P w [] H s (fun _ _ _ => False) e s') : False := by
  obtain ⟨_, _, _, _, _, _, _, _, _, _, _, _, z⟩ := h
  exact z
end DL
set_option Elab.async false
set_option linter.all false
set_option maxRecDepth 100000
set_option maxHeartbeats 4000000
namespace DL
open PySem PySem.Spec PyProof.Rows L2
/-! ### set(xs) of a list of ints, told to the member -/
abbrev newSet (w : World) : Obj := { cls := .type "set", dict := none, data := .set #[] 0 (.fresh 0 0 (!w.params.followText "set-order")) }
section
variable {P : Program} {w : World} {A : Around} {E : Value → Shared → Prop} {s : Shared}
/-- behind set.__init__ -/
def SetMade (w : World) (s : Shared) (ns : List Int) (s2 : Shared) : Prop := ∃ h' tk c, s2 = { s with heap := h', toks := tk } ∧ SetR w h' s.heap.objs.size (fun j => decide (j ∈ ns)) c ∧ c ≤ ns.length ∧ ∀ b o, s.heap.get? b = some o → h'.get? b = some o
theorem set_fill {l : Addr} {items : Array Value} {ns : List Int} (hh : A.handled = none) (hl : s.heap.IsList l items) (hit : IntsAre items.toList ns) (hb : ns.length + 1 < scanBound) :
    codeAny (model P w) A (.builtin "set.update.loop" ⟨[.ref s.heap.objs.size, .ref (s.heap.push (newSet w)).objs.size], []⟩) (fun r s' => r = .ok (.ret .none) ∧ SetMade w s ns s')
      { s with heap := (s.heap.push (newSet w)).push { cls := .type "list_iterator", data := .fields #[.ref l, .int 0 0] } } := by
  have hz : items.size = ns.length := by have q := hit.length; rw [Array.length_toList] at q; exact q
  obtain ⟨ol, hol, _⟩ := id hl
  have hlt : l < s.heap.objs.size := Heap.lt_size hol
  have e1 : (s.heap.push (newSet w)).objs.size = s.heap.objs.size + 1 := Heap.size_push ..
  have nI : l ≠ (s.heap.push (newSet w)).objs.size := by rw [e1]; exact Nat.ne_of_lt (Nat.lt_succ_of_lt hlt)
  have nS : s.heap.objs.size ∉ [(s.heap.push (newSet w)).objs.size, l] := by rw [e1]; exact nmem2 _ _ _ (by omega) (Nat.ne_of_gt hlt)
  have hv : ∀ (i : Nat) (v : Value), items[i]? = some v → ∃ k t, ns[i]? = some k ∧ v = .int k t := fun i v q => by
    have hi : i < ns.length := by rw [← hz]; exact (Array.getElem?_eq_some_iff.mp q).1
    obtain ⟨t, e⟩ := PyProof.Rows.IntsAre.int_at hit i v (by rw [Array.getElem?_toList]; exact q)
    exact ⟨ns[i], t, List.getElem?_eq_getElem hi, by rw [e, List.getD_eq_getElem?_getD, List.getElem?_eq_getElem hi] <;> rfl⟩
  have hl1 : (s.heap.push (newSet w)).IsList l items := hl.at fun o e => Heap.get?_push_of_some _ e
  refine set_update_ints ((Walks.list (A := A.in1) (by simp [hh]) _ l nI items).toS) s.heap.objs.size nS ns hz hb hv (items.size - 0) 0 _ (by omega) (Nat.zero_le _) ⟨⟨_, Heap.get?_push_size _ rfl, rfl, rfl⟩, hl1.at fun o e => Heap.get?_push_of_some _ e⟩
    ⟨0, Nat.le_refl 0, setR_new_at (Heap.get?_push_of_some _ (Heap.get?_push_size _ rfl))⟩ fun s' c hm hc hS => ?_
  obtain ⟨h', g2, d', tk', os'⟩ := s'
  have eg : g2 = s.gens := hm.gens
  have ed : d' = s.drawn := hm.drawn
  have eo : os' = s.os := hm.os
  subst eg ed eo
  refine ⟨rfl, h', tk', c, rfl, hS, by omega, fun b o e => ?_⟩
  have hb0 : b < s.heap.objs.size := Heap.lt_size e
  refine hm.heap b o (fun z => ?_) (Heap.get?_push_of_some _ (Heap.get?_push_of_some _ e))
  rcases List.mem_cons.mp z with z | z
  · exact absurd z (Nat.ne_of_lt hb0)
  · rcases List.mem_cons.mp z with z | z
    · rw [e1] at z; exact absurd z (Nat.ne_of_lt (Nat.lt_succ_of_lt hb0))
    · cases z

theorem set_init {l : Addr} {items : Array Value} {ns : List Int} {R : Result → Shared → Prop} (hh : A.handled = none) (hl : s.heap.IsList l items) (hit : IntsAre items.toList ns) (hb : ns.length + 1 < scanBound)
    (h : ∀ s', SetMade w s ns s' → R (.ok (.ret .none)) s') :
    wpAny (model P w) A.in1 (Builtin.«set.__init__» ⟨[.ref s.heap.objs.size, .ref l], []⟩) (fun fin s' => ∃ v, fin = Fin.done (Flow.ret v) ∧ R (.ok (.ret v)) s') (fun e s' => R (.error e) s') { s with heap := s.heap.push (newSet w) } := by
  obtain ⟨ol, hol, hcl, nl, hdl⟩ := id hl
  obtain ⟨ocls, odict, odata, oslots⟩ := ol
  simp only at hcl hdl
  subst hcl hdl
  have hS : (s.heap.push (newSet w)).get? s.heap.objs.size = some (newSet w) := Heap.get?_push_size _ rfl
  have hol' := Heap.get?_push_of_some (newSet w) hol
  have k1 := F.sub_list_set
  have k2 := F.sub_list_frozenset
  have k3 : (Value.type "list" == Value.type "dict") = false := by decide
  have hl1 : (s.heap.push (newSet w)).IsList l items := ⟨_, hol', rfl, nl, rfl⟩
  unfold Builtin.«set.__init__» noKeywords Builtin.Frozenset.updateFrom
  generalize hPI : pyIter = PI
  wp_walk
  subst hPI
  refine wpAny_pyIter_list hl1 ?_
  refine wpAny_bind (wpAny_runValue ?_)
  refine codeAny_mono (set_fill (A := A.in1) (by simp [hh]) hl hit hb) fun r s' ⟨er, hm⟩ => ?_
  subst er
  exact wpAny_pure (wpAny_pure ⟨_, rfl, h s' hm⟩)
theorem call_setL {l : Addr} {items : Array Value} {ns : List Int} {Q : Value → Shared → Prop} (hh : A.handled = none) (hl : s.heap.IsList l items) (hit : IntsAre items.toList ns) (hb : ns.length + 1 < scanBound)
    (h : ∀ s', SetMade w s ns s' → Q (.ref s.heap.objs.size) s') : wpAny (model P w) A (call (.type "set") [.ref l]) Q E s := by
  obtain ⟨c, tl, hmro⟩ := F.called_set.mro
  have m1 := F.called_set.made
  have m2 := F.called_set.sub
  refine wpAny_call (codeAny_of_tree ?_)
  show wpAny _ _ (callAny (.type "set") _) _ _ _
  refine wpAny_pure ⟨Code.quiet_builtin _ (by decide +kernel), codeAny_builtin F.entry_type_call ?_⟩
  rw [Around.under_plain (weight_type_call_type "set" [.ref l] []) rfl]
  have m3 := F.called_set.notType
  have m4 := F.called_set.canCreate
  have m5 := F.typeCall_set_1 (.ref l)
  repeat (any_goals (first | assumption | wp_step))
  refine codeAny_mono (code_set_led1 (.ref l) (E := E) (Q₁ := fun obj s₁ => obj = .ref s.heap.objs.size ∧ s₁ = { s with heap := s.heap.push (newSet w) }) ⟨rfl, rfl⟩) fun r s₁ hr => ?_
  cases r with
  | error e => exact hr
  | ok fl =>
    cases fl with
    | ret obj =>
      obtain ⟨rfl, rfl⟩ := hr
      have hS : (s.heap.push (newSet w)).get? s.heap.objs.size = some (newSet w) := Heap.get?_push_size _ rfl
      have hT : Shared.TypeIs { s with heap := s.heap.push (newSet w) } (.ref s.heap.objs.size) "set" := ⟨_, hS, rfl⟩
      have m6 := F.called_set.init.lookup
      have m7 := F.called_set.init.bind (.ref s.heap.objs.size)
      repeat (any_goals (first | assumption | wp_step))
      refine codeAny_mono (codeAny_call_builtin (R := wants (fun r s₂ => r = .none ∧ SetMade w s ns s₂) E) F.called_set.init.plain F.entry_set_init (check_set_init_1 hT ?_)) fun r₂ s₂ hr₂ => ?_
      · refine wpAny_mono (set_init (A := A.in1) (R := wants (fun r s₂ => r = .none ∧ SetMade w s ns s₂) E) (by simp [hh]) hl hit hb fun s' hm => ⟨rfl, hm⟩) (fun fin s' ⟨v, e, hR⟩ => ?_) (fun _ _ z => z)
        subst e
        exact hR
      · cases r₂ with
        | error e => exact hr₂
        | ok fl₂ =>
          cases fl₂ with
          | ret r =>
            obtain ⟨rfl, hm⟩ := hr₂
            repeat (any_goals (first | assumption | wp_step))
            exact h _ hm
          | _ => exact hr₂.elim
    | _ => exact hr.elim
end
/-! ### set as a value; len, sorted of it -/
section
variable {X : Cx}
def rSetL (K : PySem.W.Frag) (w : World) : List V → Hp → VK → Prop := fun xs H Q => ∃ (a : Addr) (ns : List Int), xs = [.ref a] ∧ SqL K H a (ns.map V.int) ∧ ns.length ≤ 1000 ∧
  ∀ p c, H p = none → c ≤ ns.length → Q (.ref p) (upd H p (SetO w p (fun j => decide (j ∈ ns)) c))
theorem cr_setL (hc : X.calm = true) : CallR X (.type "set") (rSetL X.K X.w) := by
  intro pins s σ H xs us Q I r ⟨a, ns, ex, hq, hl, q⟩
  subst ex
  rw [Vals.ref1 r]
  obtain ⟨its, rv, p, _⟩ := I.list hq
  refine call_setL (I.ok.hd hc) p.isList (ns := ns) (by simpa using Vals.ints rv) (by unfold scanBound; omega) fun s' hm => ?_
  obtain ⟨h', tk, c, rfl, hS, hcl, hk⟩ := hm
  have hn : H s.heap.objs.size = none := I.hok.fresh (Nat.le_refl _)
  exact ⟨.ref s.heap.objs.size, _, I.laid (t' := tk) hk (Nat.le_refl _) (setO_new hS), rfl, q _ c hn hcl⟩
/-- the distinct ones -/
def dst (ns : List Int) : List Int := ns.foldr (fun n l => if n ∈ l then l else n :: l) []
theorem dst_mem (k : Int) : ∀ ns : List Int, k ∈ dst ns ↔ k ∈ ns
  | [] => Iff.rfl
  | n :: ns => by
    have ih := dst_mem k ns
    show k ∈ (if n ∈ dst ns then dst ns else n :: dst ns) ↔ _
    split
    · rename_i h
      rw [ih, List.mem_cons]
      exact ⟨.inr, fun z => z.elim (fun e => by rw [e, ← dst_mem n ns]; exact h) id⟩
    · rw [List.mem_cons, List.mem_cons, ih]
theorem dst_nodup : ∀ ns : List Int, (dst ns).Nodup
  | [] => List.nodup_nil
  | n :: ns => by
    show (if n ∈ dst ns then dst ns else n :: dst ns).Nodup
    split
    · exact dst_nodup ns
    · rename_i h
      exact List.nodup_cons.mpr ⟨h, dst_nodup ns⟩
theorem nodup_len {a b : List Int} (ha : a.Nodup) (hb : b.Nodup) (h : ∀ k, k ∈ a ↔ k ∈ b) : a.length = b.length := by
  have h1 : a.length ≤ b.length := List.Nodup.length_le_of_subset ha fun k hk => (h k).mp hk
  have h2 : b.length ≤ a.length := List.Nodup.length_le_of_subset hb fun k hk => (h k).mpr hk
  omega
theorem cr_lenSet : CallR X (.builtin "len") (fun xs H Q => ∃ (a : Addr) (ns : List Int) (c : Nat), xs = [.ref a] ∧ H a = some (SetO X.w a (fun j => decide (j ∈ ns)) c) ∧ Q (.int ((dst ns).length : Nat)) H) := by
  intro pins s σ H xs us Q I r ⟨a, ns, c, ex, ha, q⟩
  subst ex
  rw [Vals.ref1 r]
  obtain ⟨o, es, ep, t, ho, hx, hd, _, nd, hm, hb, hf, hn, _⟩ := setO_get I ha
  have e : es.size = (dst ns).length := by
    have z := nodup_len (dst_nodup ns) nd fun k => by rw [dst_mem, ← hm k]; simp
    rw [List.length_map, Array.length_toList] at z
    exact z.symm
  refine call_len_set ho hx hd hf (by unfold scanBound at hb; omega) ⟨.int ((dst ns).length : Nat), H, I.tok _, ⟨_, by rw [← e]⟩, q⟩
end
/-! ### sorting -/
def ins1 (n : Int) : List Int → List Int
  | [] => [n]
  | m :: l => if n ≤ m then n :: m :: l else m :: ins1 n l
def srt (ns : List Int) : List Int := ns.foldr ins1 []
theorem ins1_perm (n : Int) : ∀ l : List Int, (ins1 n l).Perm (n :: l)
  | [] => .refl _
  | m :: l => by
    unfold ins1
    split
    · exact .refl _
    · exact ((ins1_perm n l).cons m).trans (.swap n m l)
theorem srt_perm : ∀ ns : List Int, (srt ns).Perm ns
  | [] => .refl _
  | n :: ns => (ins1_perm n (srt ns)).trans ((srt_perm ns).cons n)
theorem ins1_sorted (n : Int) : ∀ l : List Int, l.Pairwise (· ≤ ·) → (ins1 n l).Pairwise (· ≤ ·)
  | [], _ => by simp [ins1]
  | m :: l, h => by
    unfold ins1
    obtain ⟨h1, h2⟩ := List.pairwise_cons.mp h
    split
    · rename_i hle
      exact List.pairwise_cons.mpr ⟨fun x hx => (List.mem_cons.mp hx).elim (fun e => by omega) (fun e => by have := h1 x e; omega), h⟩
    · rename_i hle
      refine List.pairwise_cons.mpr ⟨fun x hx => ?_, ins1_sorted n l h2⟩
      rcases List.mem_cons.mp ((ins1_perm n l).mem_iff.mp hx) with e | e
      · omega
      · exact h1 x e
theorem srt_sorted : ∀ ns : List Int, (srt ns).Pairwise (· ≤ ·)
  | [] => List.Pairwise.nil
  | n :: ns => ins1_sorted n _ (srt_sorted ns)
theorem sorted_uniq : ∀ {a b : List Int}, a.Pairwise (· ≤ ·) → b.Pairwise (· ≤ ·) → a.Perm b → a = b
  | [], b, _, _, p => by rw [List.nil_perm.mp p]
  | x :: a, [], _, _, p => absurd p.length_eq (by simp)
  | x :: a, y :: b, ha, hb, p => by
    obtain ⟨h1, h2⟩ := List.pairwise_cons.mp ha
    obtain ⟨h3, h4⟩ := List.pairwise_cons.mp hb
    have exy : x = y := by
      have hx : x ∈ y :: b := p.mem_iff.mp List.mem_cons_self
      have hy : y ∈ x :: a := p.mem_iff.mpr List.mem_cons_self
      rcases List.mem_cons.mp hx with e | e
      · exact e
      · rcases List.mem_cons.mp hy with e' | e'
        · exact e'.symm
        · have := h1 y e'; have := h3 x e; omega
    subst exy
    rw [sorted_uniq h2 h4 (List.perm_cons x |>.mp p)]
theorem strict_uniq {a b : List Int} (ha : a.Pairwise (· < ·)) (hb : b.Pairwise (· ≤ ·)) (nb : b.Nodup) (h : ∀ k, k ∈ a ↔ k ∈ b) : a = b := by
  have na : a.Nodup := ha.imp fun z e => by omega
  refine sorted_uniq (ha.imp fun z => by omega) hb ?_
  exact (List.perm_ext_iff_of_nodup na nb).mpr h
def setInts : D → Option (List Int)
  | .list xs => (asInts xs).bind fun ns => if ns.length ≤ 1000 then some ns else none
  | _ => none
def fLenSet (f : Ta → R D) : Ta → R D := fun τ => bnd (f τ) fun d => bnd (lft (setInts d)) fun ns => ok (.int ((dst ns).length : Nat))
def fSortSet (f : Ta → R D) : Ta → R D := fun τ => bnd (f τ) fun d => bnd (lft (setInts d)) fun ns => if ns.length < 64 then ok (.list ((srt (dst ns)).map .int)) else none
theorem setInts_dq {K : PySem.W.Frag} {F : Hp} {v : V} {d : D} {ns : List Int} (h : Dq K F v d) (e : setInts d = some ns) : ∃ a, v = .ref a ∧ F a = some (.lst (ns.map V.int)) ∧ ns.length ≤ 1000 := by
  cases h with
  | lst h1 h2 =>
    obtain ⟨ms, e1, e2⟩ := Option.bind_eq_some_iff.mp e
    split at e2
    · rename_i hl
      cases e2
      have i1 := asInts_eq e1
      subst i1
      rw [h2.ints] at h1
      exact ⟨_, rfl, h1, hl⟩
    · cases e2
  | _ => cases e
section
variable {X : Cx} {W : WX} {e : Expr} {f : Ta → R D} {p p2 pos pos2 : Pos}
theorem dLenSet (he : PD X W e f) (hm : X.mg "len" = none) (hm2 : X.mg "set" = none) (hc : X.calm = true := by rfl) (hg : Gl X "len" := by rfl) (hg2 : Gl X "set" := by rfl) (hs : starEach [e] X.env = (false, eval e X.env) :: starEach [] X.env := by rfl) :
    PD X W (.Call (.Name "len" p) [.Call (.Name "set" p2) [e] [] pos2] [] pos) (fLenSet f) := by
  refine PE.conseq (pe_callB cr_lenSet hg hm bt_len (pa_cons (pe_callTy (cr_setL hc) hg2 hm2 bt_set (pa_cons he pa_nil hs) (he := hs)) pa_nil)) fun σ H Q ⟨F0, H0, F, τ, r, s, hf, q⟩ => ?_
  refine tX_bnd s hf q fun d v F1 H1 x1 s1 dv hf q => ?_
  rcases bnd_some hf with ⟨n, e1, rfl⟩ | ⟨ns, e1, hf⟩
  · obtain ⟨z, e, e'⟩ := lft_eq e1; cases e'
  obtain ⟨z, ee, e'⟩ := lft_eq e1
  cases e'; cases hf
  obtain ⟨a, rfl, h1, hl⟩ := setInts_dq dv ee
  refine ⟨a, ns, rfl, .of (x1.fh _ _ h1), hl, fun p c np _ => ⟨p, ns, c, rfl, upd_same, ?_⟩⟩
  exact q _ F1 _ (Ext.newO x1.fh np) (.int _)
theorem dSortSet (he : PD X W e f) (hm : X.mg "sorted" = none) (hm2 : X.mg "set" = none) (hc : X.calm = true := by rfl) (hg : Gl X "sorted" := by rfl) (hg2 : Gl X "set" := by rfl) (hs : starEach [e] X.env = (false, eval e X.env) :: starEach [] X.env := by rfl) :
    PD X W (.Call (.Name "sorted" p) [.Call (.Name "set" p2) [e] [] pos2] [] pos) (fSortSet f) := by
  refine PE.conseq (pe_callB (cr_sortedSet hc) hg hm bt_sorted (pa_cons (pe_callTy (cr_setL hc) hg2 hm2 bt_set (pa_cons he pa_nil hs) (he := hs)) pa_nil)) fun σ H Q ⟨F0, H0, F, τ, r, s, hf, q⟩ => ?_
  refine tX_bnd s hf q fun d v F1 H1 x1 s1 dv hf q => ?_
  rcases bnd_some hf with ⟨n, e1, rfl⟩ | ⟨ns, e1, hf⟩
  · obtain ⟨z, e, e'⟩ := lft_eq e1; cases e'
  obtain ⟨z, ee, e'⟩ := lft_eq e1
  cases e'
  split at hf
  · rename_i h64
    cases hf
    obtain ⟨a, rfl, h1, hl⟩ := setInts_dq dv ee
    refine ⟨a, ns, rfl, .of (x1.fh _ _ h1), hl, fun p c np hcl => ⟨p, _, c, rfl, upd_same, by omega, fun ms p2 hms hmem _ np2 => ?_⟩⟩
    have x2 := Ext.newO (o := SetO X.w p (fun j => decide (j ∈ ns)) c) x1.fh np
    have em : ms = srt (dst ns) := strict_uniq hms (srt_sorted _) ((srt_perm _).nodup_iff.mpr (dst_nodup ns)) fun k => by rw [hmem, (srt_perm _).mem_iff, dst_mem]; simp
    subst em
    exact newL (fun v F' H' x' => q v F' H' (x2.trans x')) x2.fh np2 (DqAll.ofInts _)
  · cases hf
end
end DL
set_option Elab.async false
set_option linter.all false
set_option maxRecDepth 100000
set_option maxHeartbeats 4000000
namespace DL
open PySem PySem.Spec PyProof.Rows L2

/-! ### try with clauses, named or not -/
abbrev Cl := Value × Option Nat × (Addr → Value → Option Addr → TS)
def wMix (K : PySem.W.Frag) (Wout : WX) (D : Ends) : List Cl → WX
  | [] => Wout
  | (c, none, ts) :: r => fun cls d σ H => ∃ b, PySem.W.exmOne K cls c = some b ∧ (b = true → ∀ a, H a = none → ts a cls d D σ H) ∧ (b = false → wMix K Wout D r cls d σ H)
  | (c, some i, ts) :: r => fun cls d σ H => ∃ b, PySem.W.exmOne K cls c = some b ∧
      (b = true → ∀ a, H a = none → ts a cls d { nx := fun σ' H' => D.nx (σ'.set i none) H', rt := D.rt, bk := fun σ' H' => D.bk (σ'.set i none) H', ct := fun σ' H' => D.ct (σ'.set i none) H' } (σ.set i (some (.ref a))) H) ∧
      (b = false → wMix K Wout D r cls d σ H)
inductive ClsOk (X : Cx) : List ExceptHandler → List Cl → Prop
  | nil : ClsOk X [] []
  | cons {x : Str} {c : Value} {ts : Addr → Value → Option Addr → TS} {b₀ : Stmt} {suite : List Stmt} {np pos' : Pos} {hds : List ExceptHandler} {l : List Cl} (hc : Names X x c)
      (hsu : ∀ (a : Addr) (oe : Obj) (cls : Value) (d : Option Addr) (pn : List (Addr × Obj)), Zc cls d oe → (∃ vs, oe.data = .fields vs) → PSs (X.suite a ((a, oe) :: pn)) (b₀ :: suite) (ts a cls d)) (r : ClsOk X hds l) :
      ClsOk X (.ExceptHandler (some (.Name x np)) none (b₀ :: suite) pos' :: hds) ((c, none, ts) :: l)
  | named {x n : Str} {i : Nat} {c : Value} {ts : Addr → Value → Option Addr → TS} {b₀ : Stmt} {suite : List Stmt} {np pos' : Pos} {hds : List ExceptHandler} {l : List Cl} (hc : Names X x c) (hi : X.N[i]? = some n) (hln : X.env.kindOf n = some .local)
      (hsu : ∀ (a : Addr) (oe : Obj) (cls : Value) (d : Option Addr) (pn : List (Addr × Obj)), Zc cls d oe → (∃ vs, oe.data = .fields vs) → PSs (X.suite a ((a, oe) :: pn)) (b₀ :: suite) (ts a cls d)) (r : ClsOk X hds l) :
      ClsOk X (.ExceptHandler (some (.Name x np)) (some n) (b₀ :: suite) pos' :: hds) ((c, some i, ts) :: l)
section
variable {X : Cx} {body : List Stmt} {h₀ : ExceptHandler} {hds : List ExceptHandler} {l : List Cl} {pos : Pos} {tb : WX → TS} {Wout : WX}
theorem ps_try_mix (hs : X.stack = X.env :: X.outer) (hf : X.env.frame = some X.env.locals) (hN : X.N.Nodup) (tk : Takes X Wout)
    (hb : ∀ (W : WX) (pn : List (Addr × Obj)) (xe : Value → Shared → Prop), Takes (X.tr pn xe) W → PassesOwn (model X.prog X.w) X.A X.env xe → PSs (X.tr pn xe) body (tb W))
    (hh : ClsOk X (h₀ :: hds) l) : PS X (.Try body (h₀ :: hds) [] [] pos) (fun D σ H => tb (wMix X.K Wout D l) D σ H) := by
  refine ⟨fun pins s σ H D I h => ?_⟩
  have ok := I.ok
  have hfr : X.A.frames = some (X.env :: X.outer) := by rw [ok.frames, hs]
  refine wpAny_Try_except ?_
  refine wpAny_mono ((hb (wMix X.K Wout D l) (X.pn ++ pins) (fun e s₁ => wpAny (model X.prog X.w) X.A (noteFrame e X.env) (fun _ s₂ => wpAny (model X.prog X.w) X.A (setFlight e none) (fun _ s₃ =>
    wpAny (model X.prog X.w) X.A (handleBy e X.env (h₀ :: hds)) (SP X pins D) X.xe s₃) X.xe s₂) X.xe s₁) (fun u s' xx => ?_) PassesOwn.looking).run [] s σ H D (I.toTry _) h) (fun f s1 hsp => ?_) (fun e s1 he => he)
  · obtain ⟨a, B, sI, pins', σ', H', cls, d, rfl, J', nb, up, sky, na, os, ag, w⟩ := xx
    have J : Inv X pins σ' H' sI := J'.ofTry ok
    have sky' : Sky B (X.env :: X.outer) a (Zc cls d) X.env.locals s'.heap := by rw [← hs]; exact sky
    show wpAny (model X.prog X.w) X.A (noteFrame (.ref a) X.env) _ _ _
    refine Sky.land Zc.steady hfr hf sky' fun h3 fl3 up3 => ?_
    have J3 : Inv X pins σ' H' { s' with heap := h3 } := J.landed nb fl3.1 (up.trans up3) os ag
    obtain ⟨oe3, vs3, he3, hz3, hd3⟩ := fl3.there
    have notFr : ∀ {h : Heap} {o : Obj} {vs : Array Value}, h.FunFrames B (X.env :: X.outer) → h.get? a = some o → o.data = .fields vs → a ∉ frs (X.env :: X.outer) := fun {h o vs} ff e dd hm => by
      obtain ⟨_, o', e', hnf⟩ := ff.mem hm
      rw [e] at e'; cases e'
      exact hnf _ dd
    have nfr := notFr fl3.2.2.1 he3 hd3
    have nL : a ≠ X.env.locals := fun z => nfr (List.mem_filterMap.mpr ⟨X.env, List.mem_cons_self, by rw [hf, z]⟩)
    have nF : a ∉ X.fs := fun hm => by
      obtain ⟨e, he, q⟩ := List.mem_filterMap.mp hm
      exact nfr (List.mem_filterMap.mpr ⟨e, List.mem_cons_of_mem _ he, q⟩)
    have S3 := J3.suite he3 hd3 na nL nF
    have LT : PySem.W.Looks (model X.prog X.w) h3 (typeOf (.ref a)) cls := fun A Q E s k q => wpAny_typeOf_ref (k _ _ he3) (by rw [hz3.1]; exact q)
    have test : ∀ {x : Str} {c : Value} {np : Pos}, Names X x c → ∀ {Q : Value → Shared → Prop} {E : Value → Shared → Prop}, Q c { s' with heap := h3 } → wpAny (model X.prog X.w) (X.A.mark (some (.ref a))) (eval (.Name x np) X.env) Q E { s' with heap := h3 } := fun {x c np} hc {Q E} q => by
      obtain ⟨hg, hdbg, hm | ⟨hm, hv, hnn⟩⟩ := hc
      · exact ld_glob (X := X.suite a ((a, oe3) :: (X.pn ++ pins))) S3 hg hm q hdbg
      · exact ld_blt (X := X.suite a ((a, oe3) :: (X.pn ++ pins))) S3 hg hm hv q hnn hdbg
    have go : ∀ {hds' : List ExceptHandler} {l' : List Cl}, ClsOk X hds' l' → wMix X.K Wout D l' cls d σ' H' →
        wpAny (model X.prog X.w) X.A (handleBy (.ref a) X.env hds') (SP X pins D) X.xe { s' with heap := h3 } := by
      intro hds' l' hk
      induction hk with
      | nil =>
        intro w
        refine wpAny_handleBy_nil ?_
        obtain ⟨k1, k2, k3, oe, vs, T, oT, ts', he, hz, hd, h1, hr⟩ := id fl3
        unfold PySem.passOn
        refine wpAny_bind (wpAny_field he hd h1 ?_)
        rw [if_neg (show ¬ ((Value.ref T == Value.none) = true) from by simp)]
        have fin : wpAny (model X.prog X.w) X.A (setFlight (.ref a) X.env.frame) (fun _ s4 => wpAny (model X.prog X.w) X.A (throw (.ref a) : Sem Flow) (SP X pins D) X.xe s4) X.xe { s' with heap := h3 } := by
          rw [hf]
          refine HandSPX.setFlight_upZ fl3 fun h4 hh4 up4 => wpAny_throw (tk _ _ ?_)
          exact ⟨a, B, sI, pins, σ', H', cls, d, rfl, J, nb, (up.trans up3).trans up4, .inr (.inr (by rw [hs]; exact hh4)), na, os, ag, w⟩
        first
          | exact wpAny_bind (wpAny_pure (wpAny_bind fin))
          | exact wpAny_bind fin
      | @cons x c ts b₀ suite np pos' hds2 l2 hc hsu r ih =>
        intro w
        obtain ⟨b, hb1, hyes, hno⟩ := w
        refine wpAny_handleBy_cons (codeAny_handlers_test ?_) (by intro q; cases q)
        have LM := PySem.W.exm_one (M := model X.prog X.w) (J3.kIn) LT hb1
        refine test hc (LM.here ?_)
        cases b with
        | true =>
          refine codeAny_handlers_suite ?_
          refine HandSPX.lands_againZ fl3 fun h4 fl4 up4 => ?_
          have J4 : Inv X pins σ' H' { s' with heap := h4 } := J.landed nb fl4.1 ((up.trans up3).trans up4) os ag
          obtain ⟨oe4, vs4, he4, hz4, hd4⟩ := fl4.there
          have S4 := J4.suite he4 hd4 na nL nF
          refine wpAny_mono ((hsu a oe4 cls d (X.pn ++ pins) hz4 ⟨_, hd4⟩).run [] _ _ H' _ S4 (hyes rfl a na)) (fun f s6 hsp => ?_) (fun _ _ z => False.elim z)
          cases f with
          | next =>
            obtain ⟨σ6, H6, S6, q6⟩ := hsp
            exact ⟨_, _, S6.unsuite ok, q6⟩
          | brk =>
            obtain ⟨σ6, H6, S6, q6⟩ := hsp
            exact ⟨_, _, S6.unsuite ok, q6⟩
          | cont =>
            obtain ⟨σ6, H6, S6, q6⟩ := hsp
            exact ⟨_, _, S6.unsuite ok, q6⟩
          | ret u =>
            obtain ⟨v6, σ6, H6, S6, r6, q6⟩ := hsp
            exact ⟨_, _, _, S6.unsuite ok, r6, q6⟩
        | false =>
          show wpAny _ X.A (handleBy (.ref a) X.env hds2) _ _ _
          exact ih (hno rfl)
      | @named x n i c ts b₀ suite np pos' hds2 l2 hc hi hln hsu r ih =>
        intro w
        obtain ⟨b, hb1, hyes, hno⟩ := w
        refine wpAny_handleBy_cons (codeAny_handlers_test ?_) (by intro q; cases q)
        have LM := PySem.W.exm_one (M := model X.prog X.w) (J3.kIn) LT hb1
        refine test hc (LM.here ?_)
        cases b with
        | true =>
          refine codeAny_handlers_suite_as ?_
          refine HandSPX.lands_againZ fl3 fun h4 fl4 up4 => ?_
          have J4 : Inv X pins σ' H' { s' with heap := h4 } := J.landed nb fl4.1 ((up.trans up3).trans up4) os ag
          obtain ⟨oe4, vs4, he4, hz4, hd4⟩ := fl4.there
          have S4 := J4.suite he4 hd4 na nL nF
          refine store_ok (X := X.suite a ((a, oe4) :: (X.pn ++ pins))) (v := .ref a) S4 hN hi (.inl hln) rfl (fun s5 S5 => ?_) (.inr hln)
          refine wpAny_mono ((hsu a oe4 cls d (X.pn ++ pins) hz4 ⟨_, hd4⟩).run [] s5 _ H' _ S5 (hyes rfl a na)) (fun f s6 hsp => ?_) (fun _ _ z => False.elim z)
          have end_ : ∀ {σ6 : St} {H6 : Hp} {Q : Shared → Prop}, Inv (X.suite a ((a, oe4) :: (X.pn ++ pins))) [] σ6 H6 s6 → (∀ s7, Inv X pins (σ6.set i none) H6 s7 → Q s7) →
              wpAny (model X.prog X.w) X.A (do bindName X.env n .none; unbindBehindTheSuite X.env n pos') (fun _ s7 => Q s7) X.xe s6 := fun {σ6 H6 Q} S6 hq => gone_ok (S6.unsuite ok) hN hi hln hq
          cases f with
          | next =>
            obtain ⟨σ6, H6, S6, q6⟩ := hsp
            exact end_ S6 fun s7 J7 => ⟨_, _, J7, q6⟩
          | brk =>
            obtain ⟨σ6, H6, S6, q6⟩ := hsp
            exact end_ S6 fun s7 J7 => ⟨_, _, J7, q6⟩
          | cont =>
            obtain ⟨σ6, H6, S6, q6⟩ := hsp
            exact end_ S6 fun s7 J7 => ⟨_, _, J7, q6⟩
          | ret u =>
            obtain ⟨v6, σ6, H6, S6, r6, q6⟩ := hsp
            exact end_ S6 fun s7 J7 => ⟨_, _, _, J7, r6, q6⟩
        | false =>
          show wpAny _ X.A (handleBy (.ref a) X.env hds2) _ _ _
          exact ih (hno rfl)
    exact go hh w
  · cases f with
    | next =>
      obtain ⟨σ', H', J', q⟩ := hsp
      exact wpAny_execs_nil ⟨σ', H', J'.ofTry ok, q⟩
    | brk =>
      obtain ⟨σ', H', J', q⟩ := hsp
      exact ⟨σ', H', J'.ofTry ok, q⟩
    | cont =>
      obtain ⟨σ', H', J', q⟩ := hsp
      exact ⟨σ', H', J'.ofTry ok, q⟩
    | ret u =>
      obtain ⟨v, σ', H', J', r, q⟩ := hsp
      exact ⟨v, σ', H', J'.ofTry ok, r, q⟩
end

/-! ### what a suite says of a class -/
/-- the clause 'except x' takes the class n, or does not -/
def Cat (K : PySem.W.Frag) (mg : Str → Option Value) (x n : Str) (b : Bool) : Prop := ∃ C c, mg x = some (.ref C) ∧ mg n = some c ∧ PySem.W.exmOne K c (.ref C) = some b
/-- isinstance(e, x), e of the class n -/
def Isa (K : PySem.W.Frag) (mg : Str → Option Value) (x n : Str) (b : Bool) : Prop := ∃ C c, mg x = some (.ref C) ∧ mg n = some (.ref c) ∧ ExcC K c ∧ PySem.W.kitOne K (.ref c) (.ref C) = some b
def kE (i : Nat) (a : Addr) (v : V) : TE := fun σ H Q => σ[i]? = some (some (.ref a)) ∧ Q v H
def kT (i : Nat) (a : Addr) (b : Bool) : TT := fun σ H Q => σ[i]? = some (some (.ref a)) ∧ Q b H
section
variable {X : Cx} {a : Addr} {oe : Obj} {pn : List (Addr × Obj)} {i : Nat} {e c l r : Expr} {rest : List Expr} {v w : V} {b k : Bool} {pos p1 p2 p3 : Pos}
theorem kC (h : PE X e (tC v)) : PE X e (kE i a v) := PE.conseq h fun σ H Q q => q.2
theorem kIs {x n y : Str} {C : Addr} {u : Value} (I : Isa X.K X.mg x n b) (hz : Zc (xcl X.mg n) none oe) (hf : ∃ vs, oe.data = .fields vs) (hi : X.N[i]? = some y) (hv : Vis X.env.scope y) (hm : X.mg "isinstance" = none) (hg : Gl X "isinstance" := by rfl) (hgx : Gl X x := by rfl)
    (hd : (y == ("__debug__" : Str)) = false := by decide) (hcd : (y == ("__classdict__" : Str)) = false := by decide) (hdx : (x == ("__debug__" : Str)) = false := by decide) :
    PE (X.suite a ((a, oe) :: pn)) (.Call (.Name "isinstance" p1) [.Name y p2, .Name x p3] [] pos) (kE i a (.bl b)) := by
  obtain ⟨C, c, gx, gn, E, k⟩ := I
  have hz' : Zc (.ref c) none oe := by unfold xcl at hz; rw [gn] at hz; exact hz
  refine PE.conseq (pe_callB (X := X.suite a ((a, oe) :: pn)) (call_isE E hz' hf) hg hm (by decide +kernel) (pa_cons (pe_var (X := X.suite a ((a, oe) :: pn)) (i := i) hi hv hd hcd) (pa_cons (pe_glob (X := X.suite a ((a, oe) :: pn)) (v := .ref C) hgx gx rfl hdx) pa_nil) rfl)) fun σ H Q ⟨h1, q⟩ => ?_
  exact ⟨.ref a, h1, .ref C, .ref C, b, rfl, fun u r => r, k, q⟩
theorem kTr {X : Cx} (h : PE X e (kE i a (.bl b))) (he : ∀ whole, isTrue e X.env whole = (do let v ← whole; standAt e.pos; holding [v] (truthy v)) := by intro _; rfl) : PT X e (kT i a b) :=
  PT.conseq (pt_truth h he) fun σ H Q ⟨h1, q⟩ => ⟨h1, b, rfl, q⟩
theorem kNo {X : Cx} (h : PT X e (kT i a b)) : PT X (.UnaryOp .Not e pos) (kT i a (!b)) := PT.conseq (pt_not h) fun σ H Q q => q
theorem kAnd {X : Cx} (h : PT X e (kT i a b)) (h' : PT X c (kT i a k)) : PT X (.BoolOp .And [e, c] pos) (kT i a (b && k)) := by
  refine PT.conseq (PW.pt (pw_and h (pw_and1 h'))) fun σ H Q ⟨h1, q⟩ => ⟨h1, ?_⟩
  cases b with
  | true => exact ⟨h1, q⟩
  | false => exact q
theorem kIf {X : Cx} (h : PT X c (kT i a b)) (hl : PE X l (kE i a v)) (hr : PE X r (kE i a w)) : PE X (.IfExp c l r pos) (kE i a (cond b v w)) := by
  refine PE.conseq (pe_ifExp h hl hr) fun σ H Q ⟨h1, q⟩ => ⟨h1, ?_⟩
  cases b with
  | true => exact ⟨h1, q⟩
  | false => exact ⟨h1, q⟩
end
/-- a clause: the class that it names, the slot of its name, and what it gives back for each class that it takes -/
def tCl (mg : Str → Option Value) (i : Option Nat) (tab : List (Str × Str)) : Addr → Value → Option Addr → TS := fun a cls d D σ H => ∃ n y, (n, y) ∈ tab ∧ cls = xcl mg n ∧ d = none ∧ (∀ j, i = some j → σ[j]? = some (some (.ref a))) ∧ D.rt (.str y) H
def catH (K : PySem.W.Frag) (mg : Str → Option Value) : List (Str × Option Nat × List (Str × Str)) → Str → Str → Prop
  | [], _, _ => False
  | (x, i, tab) :: r, n, y => (Cat K mg x n true ∧ (n, y) ∈ tab) ∨ (Cat K mg x n false ∧ catH K mg r n y)
def gTry (b : Ta → Option Out) (tab : Str → Option Str) : Ta → Option Out := fun τ => match b τ with
  | some (.ex n τ1) => if τ1.length = τ.length then (tab n).map fun y => .rt (.str y) else none
  | o => o
section
variable {X : Cx} {W : WX} {body : List Stmt} {h₀ : ExceptHandler} {hds : List ExceptHandler} {pos pos' : Pos} {g : Ta → Option Out} {l : List (Str × Option Nat × List (Str × Str))} {tab : Str → Option Str}
def clOf (mg : Str → Option Value) (p : Str × Option Nat × List (Str × Str)) : Cl := (xcl mg p.1, p.2.1, tCl mg p.2.1 p.2.2)
theorem wMix_of {K : PySem.W.Frag} {mg : Str → Option Value} {D : Ends} {n y : Str} {σ : St} {H : Hp} (hq : D.rt (.str y) H) (hlen : ∀ p ∈ l, ∀ i, p.2.1 = some i → i < σ.length) (h : catH K mg l n y) : wMix K W D (l.map (clOf mg)) (xcl mg n) none σ H := by
  induction l with
  | nil => cases h
  | cons p r ih =>
    obtain ⟨x, i, tb⟩ := p
    have ih := ih fun q hq => hlen q (List.mem_cons_of_mem _ hq)
    rcases h with ⟨⟨C, c, gx, gn, e⟩, hm⟩ | ⟨⟨C, c, gx, gn, e⟩, h⟩
    · have e' : PySem.W.exmOne K (xcl mg n) (xcl mg x) = some true := by unfold xcl; rw [gx, gn]; exact e
      cases i with
      | none => exact ⟨true, e', fun _ a na => ⟨n, y, hm, rfl, rfl, (fun j z => nomatch z), hq⟩, fun z => by cases z⟩
      | some i =>
        refine ⟨true, e', fun _ a na => ⟨n, y, hm, rfl, rfl, fun j z => ?_, hq⟩, fun z => by cases z⟩
        cases z
        exact List.getElem?_set_self (hlen _ List.mem_cons_self i rfl)
    · have e' : PySem.W.exmOne K (xcl mg n) (xcl mg x) = some false := by unfold xcl; rw [gx, gn]; exact e
      cases i with
      | none => exact ⟨false, e', (fun z => by cases z), fun _ => ih h⟩
      | some i => exact ⟨false, e', (fun z => by cases z), fun _ => ih h⟩
theorem sTry (hs : X.stack = X.env :: X.outer) (hf : X.env.frame = some X.env.locals) (hN : X.N.Nodup) (tk : Takes X W)
    (hb : ∀ (W : WX) (pn : List (Addr × Obj)) (xe : Value → Shared → Prop), Takes (X.tr pn xe) W → PassesOwn (model X.prog X.w) X.A X.env xe → PDs (X.tr pn xe) W body g)
    (hh : ClsOk X (h₀ :: hds) (l.map (clOf X.mg))) (ht : ∀ n y, tab n = some y → catH X.K X.mg l n y) (hl : l.all (fun p => p.2.1.all fun i => decide (i < X.N.length)) = true := by rfl) : PD1 X W (.Try body (h₀ :: hds) [] [] pos) (gTry g tab) := by
  refine ⟨fun pins s σ H D I ⟨F0, H0, F, τ, o, s', hf', q⟩ => (ps_try_mix (tb := fun W => tS X.K X.mg W g) hs hf hN tk hb hh).run pins s σ H D I ?_⟩
  unfold gTry at hf'
  cases e1 : g τ with
  | none => rw [e1] at hf'; cases hf'
  | some o1 =>
    rw [e1] at hf'
    refine ⟨F0, H0, F, τ, o1, s', e1, ?_⟩
    cases o1 with
    | nx τ' => cases hf'; exact q
    | bk τ' => cases hf'; exact q
    | ct τ' => cases hf'; exact q
    | rt d => cases hf'; exact q
    | ex n τ1 =>
      simp only at hf'
      split at hf'
      · rename_i hlen
        obtain ⟨y, ey, rfl⟩ := Option.map_eq_some_iff.mp hf'
        intro F' H' σ' s1
        exact wMix_of (q F' H' (.str y) s1.ext (.str y)) (fun p hp i z => by rw [s1.len, hlen, ← s'.len, I.len]; exact (by have h1 := List.all_eq_true.mp hl p hp; rw [z] at h1; exact of_decide_eq_true h1)) (ht n y ey)
      · cases hf'
/-- the suite's text: return e, by the class -/
theorem suiteN {j : Nat} {tab : List (Str × Str)} {e : Expr} (h : ∀ (a : Addr) (oe : Obj) (pn : List (Addr × Obj)), (∃ vs, oe.data = .fields vs) → ∀ n y, (n, y) ∈ tab → Zc (xcl X.mg n) none oe → PE (X.suite a ((a, oe) :: pn)) e (kE j a (.str y))) :
    ∀ (a : Addr) (oe : Obj) (cls : Value) (d : Option Addr) (pn : List (Addr × Obj)), Zc cls d oe → (∃ vs, oe.data = .fields vs) → PSs (X.suite a ((a, oe) :: pn)) [.Return (some e) pos'] (tCl X.mg (some j) tab a cls d) := by
  intro a oe cls d pn hz hf
  refine ⟨fun pins s σ H D I ⟨n, y, hm, ec, ed, hi, q⟩ => ?_⟩
  subst ec ed
  exact (pss_cons (ps_ret (h a oe pn hf n y hm hz)) pss_nil).run pins s σ H D I ⟨hi j rfl, q⟩
theorem suiteU {tab : List (Str × Str)} {e : Expr} (h : ∀ (a : Addr) (oe : Obj) (pn : List (Addr × Obj)), ∀ n y, (n, y) ∈ tab → PE (X.suite a ((a, oe) :: pn)) e (tC (.str y))) :
    ∀ (a : Addr) (oe : Obj) (cls : Value) (d : Option Addr) (pn : List (Addr × Obj)), Zc cls d oe → (∃ vs, oe.data = .fields vs) → PSs (X.suite a ((a, oe) :: pn)) [.Return (some e) pos'] (tCl X.mg none tab a cls d) := by
  intro a oe cls d pn hz hf
  refine ⟨fun pins s σ H D I ⟨n, y, hm, ec, ed, hi, q⟩ => ?_⟩
  subst ec ed
  exact (pss_cons (ps_ret (h a oe pn n y hm)) pss_nil).run pins s σ H D I q
end
/-- tables -/
def tabOf : List (Str × Str) → Str → Option Str
  | [], _ => none
  | (m, y) :: r, n => if n = m then some y else tabOf r n
theorem tN {P : Str → Str → Prop} : ∀ n y, (n, y) ∈ ([] : List (Str × Str)) → P n y := fun _ _ h => nomatch h
theorem tC' {P : Str → Str → Prop} {m z : Str} {t : List (Str × Str)} (h : P m z) (h2 : ∀ n y, (n, y) ∈ t → P n y) : ∀ n y, (n, y) ∈ (m, z) :: t → P n y := fun n y hm => by
  rcases List.mem_cons.mp hm with e | e
  · cases e; exact h
  · exact h2 n y e
theorem htN {P : Str → Str → Prop} : ∀ n y, tabOf [] n = some y → P n y := fun _ _ h => nomatch h
theorem htC {P : Str → Str → Prop} {m z : Str} {t : List (Str × Str)} (h : P m z) (h2 : ∀ n y, tabOf t n = some y → P n y) : ∀ n y, tabOf ((m, z) :: t) n = some y → P n y := fun n y hm => by
  unfold tabOf at hm
  split at hm
  · rename_i e; subst e; cases hm; exact h
  · exact h2 n y hm
theorem nm_of {X : Cx} {x n : Str} {b : Bool} (c : Cat X.K X.mg x n b) (hg : Gl X x := by rfl) (hd : (x == ("__debug__" : Str)) = false := by decide) : Names X x (xcl X.mg x) := by
  obtain ⟨C, _, h, _⟩ := c
  exact ⟨hg, hd, .inl (by unfold xcl; rw [h]; rfl)⟩
end DL
set_option Elab.async false
set_option linter.all false
set_option maxRecDepth 100000
set_option maxHeartbeats 4000000
namespace DL
open PySem PySem.Spec PyProof.Rows L2

/-! ### chains as tests -/
section
variable {X : Cx} {W : WX} {a b c : Expr} {fa fb fc : Ta → R D} {h h' : D → D → Option D} {pos : Pos}
theorem fCh_bool (hb : Bln h') (τ : Ta) (d : D) (e : fCh h h' fa fb fc τ = ok d) : ∃ k, d = .bool k := by
  rcases bnd_some e with ⟨n, e1, e2⟩ | ⟨x, e1, hf⟩
  · cases e2
  · rcases bnd_some hf with ⟨n, e1, e2⟩ | ⟨y, e1, hf⟩
    · cases e2
    · rcases bnd_some hf with ⟨n, e1, e2⟩ | ⟨z, e1, hf⟩
      · cases e2
      · split at hf
        · rcases bnd_some hf with ⟨n, e1, e2⟩ | ⟨u, e1, hf⟩
          · cases e2
          · obtain ⟨z, e, e'⟩ := lft_eq hf
            cases e'
            exact hb _ _ _ e
        · cases hf; exact ⟨_, rfl⟩
        · cases hf
theorem dTCh {op op' : CmpOp} (hb' : Bln h') (ho : OpR X (compareOp op) (rD2 X.K h)) (ho' : OpR X (compareOp op') (rD2 X.K h')) (ha : PD X W a fa) (hb : PD X W b fb) (hc : PD X W c fc)
    (hm : lastMarks [op, op'] [b, c] = false := by with_unfolding_all rfl) : PB X W (.Compare a [op, op'] [b, c] pos) (fTr (fCh h h' fa fb fc)) :=
  PT.conseq (pt_chain ho ho' ha hb hc hm) fun _ _ _ q => tT_test (fun _ _ _ q => tE_ch q) (fCh_bool hb') q
end

/-! ### xs[::-1] -/
def fRv (f : Ta → R D) : Ta → R (List D) := fun τ => bnd (f τ) fun d => match d with
  | .list xs => ok xs.reverse
  | _ => none
section
variable {X : Cx} {W : WX} {e b : Expr} {f g : Ta → R D} {k : Nat} {p1 p2 p3 pos : Pos}
theorem lRv (he : PD X W e f) : PL X W (.Subscript e (.Slice none none (some (.UnaryOp .USub (.Constant (.int 1) k p1) p2)) p3) pos) (fRv f) := by
  refine PE.conseq (pe_revL he) fun σ H Q ⟨F0, H0, F, τ, r, s, hf, q⟩ => ?_
  rcases bnd_some hf with ⟨n, e1, rfl⟩ | ⟨d, e1, hf⟩
  · exact ⟨F0, H0, F, τ, _, s, e1, q⟩
  · refine ⟨F0, H0, F, τ, _, s, e1, fun v F1 H1 x1 dv => ?_⟩
    cases dv with
    | lst h1 h2 =>
      cases hf
      exact ⟨_, _, rfl, .of (x1.fh _ _ h1), fun p hp => q p _ F1 _ (x1.trans (Ext.newO x1.fh hp)) (x1.hh.free hp) upd_same (x1.fh.free hp) h2.reverse⟩
    | _ => cases hf
end

/-! ### x = y + (l.pop(e),) -/
def gPopT (ix iy il : Nat) (f : Ta → R D) : Ta → Option Out := fun τ => match τ[iy]? with
  | some (.d (.tuple ys)) => (match τ[il]? with
    | some (.o xs) => bndS (f τ) τ fun k => (match k with
      | .int n => if decide (n.natAbs < 2 ^ 63) && decide (ys.length + 1 ≤ 100000) then (seqIndex? n xs.length).bind fun j => (xs[j]?).map fun y => .nx ((τ.set il (.o (xs.eraseIdx j))).set ix (.d (.tuple (ys ++ [y])))) else none
      | _ => none)
    | _ => none)
  | _ => none
section
variable {X : Cx} {W : WX} {e : Expr} {f : Ta → R D} {x y l : Str} {x1 : Nat} {p1 p2 p3 p4 p5 p6 p7 pos : Pos}
theorem oPopT (ix iy il : Nat) (he : PD X W e f) (hN : X.N.Nodup) (hx : X.N[ix]? = some x := by rfl) (hy : X.N[iy]? = some y := by rfl) (hl : X.N[il]? = some l := by rfl)
    (hvy : Vis X.env.scope y := by first | exact Or.inl rfl | exact Or.inr (Or.inl rfl) | exact Or.inr (Or.inr rfl)) (hdy : (y == ("__debug__" : Str)) = false := by decide) (hcdy : (y == ("__classdict__" : Str)) = false := by decide)
    (hvl : Vis X.env.scope l := by first | exact Or.inl rfl | exact Or.inr (Or.inl rfl) | exact Or.inr (Or.inr rfl)) (hdl : (l == ("__debug__" : Str)) = false := by decide) (hcdl : (l == ("__classdict__" : Str)) = false := by decide)
    (hlx : Loc X.env.scope x := by first | exact Or.inl rfl | exact Or.inr rfl) (hse : starEach [e] X.env = (false, eval e X.env) :: starEach [] X.env := by rfl)
    (hfew : ((backTo p5 (starEach [e] X.env)).all (fun x => !x.1) && (backToKw p5 (keywordEach [] X.env)).all (fun x => x.1.isSome)
      && decide ([e].length + ([] : List Keyword).length + (if ([] : List Keyword).isEmpty then 0 else 1) < 30)) = true := by rfl)
    (hline : (p4.endLine == p5.line) = true := by rfl)
    (hs : swapsWith (.BinOp (.Name y p1) .Add (.Tuple [.Call (.Attribute (.Name l p3) "pop" p4) [e] [] p5] x1 p6) p7) (some (.Name x p2)) pos.line X.env = pure false := by rfl)
    (hf : X.fn x = true ∨ X.env.scope.names.lookup x = some .local := by first | exact .inl rfl | exact .inr rfl | assumption) :
    PD1 X W (.Assign [.Name x p2] (.BinOp (.Name y p1) .Add (.Tuple [.Call (.Attribute (.Name l p3) "pop" p4) [e] [] p5] x1 p6) p7) pos) (gPopT ix iy il f) := by
  refine PS.conseq (ps_set hN hx hlx (pe_op oAdd (pe_var (i := iy) hy hvy hdy hcdy) (pe_tup (pa_cons (pe_bm PySem.F.plainAttrs_list PySem.F.slot_list_pop PySem.F.type_list_pop mt_popAt (pe_var (i := il) hl hvl hdl hcdl) (pa_cons he pa_nil hse) rfl hfew hline hse) pa_nil))) hs hf) fun D σ H ⟨F0, H0, F, τ, o, s, hf, q⟩ => ?_
  unfold gPopT at hf
  split at hf
  · rename_i ys ey
    split at hf
    · rename_i xs ex
      obtain ⟨vy, ay, dy⟩ := s.dat iy _ ey
      obtain ⟨p, vs, a, b, c, d, z⟩ := s.own il xs ex
      refine ⟨vy, ay, _, a, .inl ⟨rfl, _, .of b⟩, tX_S s hf q fun k w F1 H1 e1 s1 dw hf q => ?_⟩
      cases dw with
      | int n =>
        simp only at hf
        split at hf
        · rename_i hc
          simp only [Bool.and_eq_true, decide_eq_true_eq] at hc
          obtain ⟨j, ej, hf⟩ := Option.bind_eq_some_iff.mp hf
          obtain ⟨yd, eyd, rfl⟩ := Option.map_eq_some_iff.mp hf
          have z1 := z.mono e1.ff
          obtain ⟨yv, eyv, dyv⟩ := z1.get eyd
          refine ⟨p, vs, n, j, yv, rfl, rfl, e1.hh _ _ b, by omega, by omega, by rw [z.length]; exact ej, eyv, ?_⟩
          have s2 := s1.mut ex a (z1.eraseIdx j)
          refine ⟨small5 (show 1 ≤ 100000 by decide), fun p2 hp2 => ?_⟩
          have x2 := Ext.new (o := .tup [yv]) s2.fh hp2
          refine ⟨_, .tuple ys, .tuple [yd], .tuple (ys ++ [yd]), x2.fh, (dy.mono e1.ff).mono x2.ff, .tup (.of upd_same) (.cons (dyv.mono x2.ff) .nil), ?_, fun v F3 H3 x3 dv => ?_⟩
          · show (if ys.length + [yd].length ≤ 100000 then _ else _) = _
            rw [if_pos (by simpa using hc.2)]
          · exact q F3 H3 _ (x2.ff.trans x3.ff) ((s2.go (x2.trans x3)).setD ix dv)
        · cases hf
      | _ => cases hf
    · cases hf
  · cases hf
end
end DL
set_option Elab.async false
set_option linter.all false
set_option maxRecDepth 100000
set_option maxHeartbeats 4000000
namespace DL
open PySem PySem.Spec PyProof.Rows L2
section
variable {K : PySem.W.Frag} {h : Heap} {mg : Str → Option Value}
theorem catmk {x n : Str} {b : Bool} {C c : Addr} (X : K.In h) (G : h.Ns mainGlobals mg) (a : PySem.W.nsIn K mainGlobals x = some (some (.ref C))) (a2 : PySem.W.nsIn K mainGlobals n = some (some (.ref c)))
    (h1 : PySem.W.subIn K (.ref C) (.type "BaseException") = some true) (h2 : PySem.W.hasDictIn K C = true) (h3 : PySem.W.typeIn K (.ref C) = some (.type "type")) (h4 : PySem.W.subIn K (.ref c) (.ref C) = some b) : Cat K mg x n b :=
  ⟨C, .ref c, PySem.W.mg_of X G a, PySem.W.mg_of X G a2, PySem.W.exm_ref h1 h2 h3 h4⟩
theorem kit_ref {C c : Addr} {b : Bool} (h2 : PySem.W.hasDictIn K C = true) (h3 : PySem.W.typeIn K (.ref C) = some (.type "type")) (h4 : PySem.W.subIn K (.ref c) (.ref C) = some b) (he : ((Value.ref c == Value.ref C) = true → b = true)) : PySem.W.kitOne K (.ref c) (.ref C) = some b := by
  unfold PySem.W.kitOne
  split
  · rename_i h; rw [he h]
  · obtain ⟨cd, hc, _⟩ := PySem.W.any_some h2
    have e2 : ((PySem.W.clsIn K C).isSome && PySem.W.typeIn K (.ref C) == some (.type "type")) = true := by rw [hc, h3] <;> rfl
    show (if ((PySem.W.clsIn K C).isSome && PySem.W.typeIn K (.ref C) == some (.type "type")) = true then PySem.W.subIn K (.ref c) (.ref C) else none) = some b
    rw [if_pos e2]
    exact h4
theorem isamk {x n : Str} {b : Bool} {C D : Addr} (X : K.In h) (G : h.Ns mainGlobals mg) (a : PySem.W.nsIn K mainGlobals x = some (some (.ref C))) (a2 : PySem.W.nsIn K mainGlobals n = some (some (.ref D)))
    (h1 : PySem.W.findIn K (.ref D) "__getattribute__" = some (some (.builtin "BaseException.__getattribute__")))
    (h2 : PySem.W.findIn K (.ref D) "__getattr__" = some none)
    (h3 : PySem.W.subIn K (.ref D) (.type "BaseException") = some true)
    (h4 : PySem.W.hasDictIn K D = true)
    (h5 : PySem.W.findIn K (.ref D) "__class__" = some (some (.builtin "object.__class__")))
    (h6 : PySem.W.specialIn K (.builtin "object.__class__") "__get__" = some (some (.builtin "getset_descriptor.__get__")))
    (h7 : PySem.W.takesIn K (.builtin "object.__class__") = some true)
    (h8 : PySem.W.mroIn K D (.type "object") = some true)
    (e2 : PySem.W.hasDictIn K C = true) (e3 : PySem.W.typeIn K (.ref C) = some (.type "type")) (e4 : PySem.W.subIn K (.ref D) (.ref C) = some b) (he : (Value.ref D == Value.ref C) = true → b = true) :
    Isa K mg x n b := ⟨C, D, PySem.W.mg_of X G a, PySem.W.mg_of X G a2, ⟨h1, h2, h3, h4, h5, h6, h7, h8⟩, kit_ref e2 e3 e4 he⟩
end
/-- the law's promise: nothing is raised -/
def spL (K : PySem.W.Frag) (f : List D → R D) : Sp := fun vs H Q E => ∃ F ds d, vs.length = 1 ∧ Same F H ∧ DqAll K F vs ds ∧ f ds = ok d ∧ ∀ v F' H', Ext F H F' H' → Dq K F' v d → Q v H'
theorem spL_spR {K : PySem.W.Frag} {mg : Str → Option Value} {f : List D → R D} (vs : List V) (H : Hp) (Q : VK) (E : XK) (h : spL K f vs H Q E) : spR K mg 1 f vs H Q E := by
  obtain ⟨F, ds, d, a, b, c, e, q⟩ := h
  exact ⟨F, ds, .ok d, a, b, c, e, q⟩
theorem law_spL {K : PySem.W.Frag} {f : List D → R D} {H : Hp} {a : Addr} {ns : List Int} (hS : SqL K H a (ns.map V.int)) (h : f [scr ns] = ok (.bool true)) :
    spL K f [.ref a] H (fun v _ => v = .bl true) fun _ _ _ => False :=
  ⟨H, [scr ns], .bool true, rfl, Same.refl _, .cons (.scr hS) .nil, h, fun v F' H' _ d => by cases d; rfl⟩
/-- the end of a law -/
theorem lawEnd {P : Program} {w : World} {K : PySem.W.Frag} {mg : Str → Option Value} {k : Nat} {f : List D → R D} {fa : Addr} {st : Stmt} (hfa : mg "law" = some (.ref fa)) (hx : ∃ a fd, Fun K "law" "law" st a fd ∧ mg "law" = some (.ref a))
    (hb : ∀ {a : Addr} {fd : FuncData}, Fun K "law" "law" st a fd → ∀ (s : Shared) (u : Value), BindsTo s fd ⟨[u], []⟩ [("script", u)])
    (G : ∀ base : Heap, ∀ {a : Addr} {fd : FuncData}, Fun K "law" "law" st a fd → FnOk P w K mg base (L2.CX P w) k a fd ["script"] (spR K mg 1 f)) :
    ∃ fd : FuncData, (∀ (s : Shared) (u : Value), BindsTo s fd ⟨[u], []⟩ [("script", u)]) ∧ ∀ base : Heap, K.In base → base.Ns mainGlobals mg → FnOk P w K mg base (L2.CX P w) k fa fd ["script"] (spL K f) := by
  obtain ⟨a, fd, F, hm⟩ := hx
  have e := hfa.symm.trans hm
  cases e
  exact ⟨fd, hb F, fun base _ _ => (G base F).imp spL_spR⟩
end DL
set_option Elab.async false
set_option linter.all false
set_option maxRecDepth 100000
set_option maxHeartbeats 4000000
namespace DL
open PySem PySem.Spec PyProof.Rows L2

/-! ### new lists: [x] * n, xs + ys -/
def fRep (f : Ta → R (List D)) (g : Ta → R D) : Ta → R (List D) := fun τ => bnd (f τ) fun xs => bnd (g τ) fun d => match d with
  | .int k => if decide (k.natAbs < 2 ^ 63) && decide (xs.length * k.toNat ≤ 100000) then ok (List.replicate k.toNat xs).flatten else none
  | _ => none
def fCat (f g : Ta → R (List D)) : Ta → R (List D) := fun τ => bnd (f τ) fun xs => bnd (g τ) fun ys => if xs.length + ys.length ≤ 100000 then ok (xs ++ ys) else none
section
variable {X : Cx} {W : WX} {a b : Expr} {fa : Ta → R (List D)} {fb : Ta → R D} {fc : Ta → R (List D)} {pos : Pos}
theorem bnd_fr {α : Type} {f : Ta → R (List D)} {k : List D → R α} (τ : Ta) : bnd (f τ) k = bnd (fFr f τ) fun d => match d with
    | .list xs => k xs
    | _ => none := by
  unfold fFr
  cases f τ with
  | none => rfl
  | some r => cases r <;> rfl
theorem lRep (ha : PL X W a fa) (hb : PD X W b fb) : PL X W (.BinOp a .Mult b pos) (fRep fa fb) := by
  refine PE.conseq (pe_op op_rep (dFr ha) hb) fun σ H Q ⟨F0, H0, F, τ, r, s, hf, q⟩ => ?_
  unfold fRep at hf
  rw [bnd_fr] at hf
  rcases bnd_some hf with ⟨n, e1, rfl⟩ | ⟨d, e1, hf⟩
  · exact ⟨F0, H0, F, τ, _, s, e1, q⟩
  refine ⟨F0, H0, F, τ, _, s, e1, fun v F1 H1 x1 dv => ?_⟩
  cases dv with
  | lst h1 h2 =>
    rcases bnd_some hf with ⟨n, e2, rfl⟩ | ⟨d2, e2, hf⟩
    · exact ⟨F0, H0, F1, τ, _, s.go x1, e2, fun F' H' x' => q F' H' (x1.trans x')⟩
    refine ⟨F0, H0, F1, τ, _, s.go x1, e2, fun w F2 H2 x2 dw => ?_⟩
    cases dw with
    | int k =>
      simp only at hf
      split at hf
      · rename_i hl
        cases hf
        simp only [Bool.and_eq_true, decide_eq_true_eq] at hl
        refine ⟨_, k, _, rfl, rfl, x2.hh _ _ (x1.fh _ _ h1), by omega, by omega, by rw [h2.length]; exact small5 hl.2, fun p hp => ?_⟩
        exact q p _ F2 _ ((x1.trans x2).trans (Ext.newO x2.fh hp)) (x1.hh.free (x2.hh.free hp)) upd_same (x2.fh.free hp) ((h2.mono x2.ff).rep _)
      · cases hf
    | _ => cases hf
  | _ => cases hf
theorem lCat {b : Expr} (ha : PL X W a fa) (hb : PL X W b fc) : PL X W (.BinOp a .Add b pos) (fCat fa fc) := by
  refine PE.conseq (pe_op op_cat (dFr ha) (dFr hb)) fun σ H Q ⟨F0, H0, F, τ, r, s, hf, q⟩ => ?_
  unfold fCat at hf
  rw [bnd_fr] at hf
  rcases bnd_some hf with ⟨n, e1, rfl⟩ | ⟨d, e1, hf⟩
  · exact ⟨F0, H0, F, τ, _, s, e1, q⟩
  refine ⟨F0, H0, F, τ, _, s, e1, fun v F1 H1 x1 dv => ?_⟩
  cases dv with
  | lst h1 h2 =>
    simp only at hf
    rw [bnd_fr] at hf
    rcases bnd_some hf with ⟨n, e2, rfl⟩ | ⟨d2, e2, hf⟩
    · exact ⟨F0, H0, F1, τ, _, s.go x1, e2, fun F' H' x' => q F' H' (x1.trans x')⟩
    refine ⟨F0, H0, F1, τ, _, s.go x1, e2, fun w F2 H2 x2 dw => ?_⟩
    cases dw with
    | lst h3 h4 =>
      simp only at hf
      split at hf
      · rename_i hl
        cases hf
        refine ⟨_, _, _, _, rfl, rfl, x2.hh _ _ (x1.fh _ _ h1), x2.fh _ _ h3, by rw [h2.length, h4.length]; exact small5 hl, fun p hp => ?_⟩
        exact q p _ F2 _ ((x1.trans x2).trans (Ext.newO x2.fh hp)) (x1.hh.free (x2.hh.free hp)) upd_same (x2.fh.free hp) ((h2.mono x2.ff).append h4)
      · cases hf
    | _ => cases hf
  | _ => cases hf
end

/-! ### x += e -/
def gAug (i : Nat) (f : Ta → R D) : Ta → Option Out := gSet i (fB addD (fV i) f)
end DL
set_option Elab.async false
set_option linter.all false
set_option maxRecDepth 100000
set_option maxHeartbeats 4000000
namespace DL
open PySem PySem.Spec PyProof.Rows L2

/-! ### own lists of own lists -/
section
variable {K : PySem.W.Frag} {F0 H0 F H : Hp} {σ : St} {τ : Ta}
theorem Rws.app {ps qs : List Addr} {xss yss : List (List D)} (h : Rws K F H ps xss) (h' : Rws K F H qs yss) : Rws K F H (ps ++ qs) (xss ++ yss) := by
  induction h with
  | nil => exact h'
  | cons a b _ ih => exact .cons a b ih
theorem Rws.get {ps : List Addr} {xss : List (List D)} (h : Rws K F H ps xss) : ∀ {j : Nat} {xs : List D}, xss[j]? = some xs → ∃ a vs, ps[j]? = some a ∧ H a = some (.lst vs) ∧ DqAll K F vs xs := by
  induction h with
  | nil => intro j xs e; simp at e
  | cons a b _ ih =>
    intro j xs e
    cases j with
    | zero => simp at e; subst e; exact ⟨_, _, rfl, a, b⟩
    | succ j => simpa using ih (j := j) (xs := xs) (by simpa using e)
theorem Rws.length {ps : List Addr} {xss : List (List D)} (h : Rws K F H ps xss) : ps.length = xss.length := by
  induction h with
  | nil => rfl
  | cons _ _ _ ih => simp [ih]
/-- one row is changed -/
theorem Rws.put {ps : List Addr} {xss : List (List D)} (h : Rws K F H ps xss) (nd : ps.Nodup) : ∀ {j : Nat} {a : Addr} {ws : List V} {ds : List D}, ps[j]? = some a → DqAll K F ws ds → Rws K F (upd H a (.lst ws)) ps (xss.set j ds) := by
  induction h with
  | nil => intro j a ws ds e; simp at e
  | @cons p ps vs xs xss e1 e2 t ih =>
    intro j a ws ds e hd
    obtain ⟨n1, n2⟩ := List.nodup_cons.mp nd
    cases j with
    | zero =>
      simp at e
      subst e
      refine .cons upd_same hd (t.go (Same.refl _) fun x hx o z => ?_)
      have hne : x ≠ p := fun w => by subst w; exact n1 hx
      rw [upd_ne hne]; exact z
    | succ j =>
      have hm : a ∈ ps := List.mem_of_getElem? (by simpa using e)
      refine .cons ?_ e2 (ih n2 (by simpa using e) hd)
      have hne : p ≠ a := fun w => by subst w; exact n1 hm
      rw [upd_ne hne]; exact e1
theorem StR.mat (s : StR K F0 H0 F H σ τ) {i : Nat} {xss : List (List D)} (h : τ[i]? = some (.m xss)) : ∃ p ps, σ[i]? = some (some (.ref p)) ∧ H p = some (.lst (ps.map V.ref)) ∧ Rws K F H ps xss := by
  obtain ⟨A, W⟩ := s.ows
  obtain ⟨p, ps, _, e2, e3, e4⟩ := W.m i xss h
  exact ⟨p, ps, e2, e3, e4⟩
/-- a new own matrix -/
theorem StR.setM {F1 H1 : Hp} {p : Addr} {ps : List Addr} {xss : List (List D)} (s : StR K F0 H0 F H σ τ) (i : Nat) (x1 : Ext F H F1 H1) (n : ∀ a ∈ p :: ps, H a = none) (hp : H1 p = some (.lst (ps.map V.ref))) (hF : ∀ a ∈ p :: ps, F1 a = none) (nd : (p :: ps).Nodup)
    (h : Rws K F1 H1 ps xss) : StR K F0 H0 F1 H1 (σ.set i (some (.ref p))) (τ.set i (.m xss)) where
  ext := s.ext.trans x1
  len := by rw [List.length_set, List.length_set]; exact s.len
  dat := fun j x e => by
    rcases set_get e with ⟨_, e', _⟩ | ⟨hj, e'⟩
    · cases e'
    · rw [List.getElem?_set_ne hj]
      exact (s.go x1).dat j x e'
  ows := by
    obtain ⟨A, W⟩ := s.ows
    have nA : ∀ j, Own τ j → ∀ a ∈ p :: ps, a ∉ A j := fun j hj a ha hm => W.live hj a hm (n a ha)
    obtain ⟨A', W'⟩ : ∃ A', A' = fun j => if j = i then p :: ps else A j := ⟨_, rfl⟩
    have e0 : A' i = p :: ps := by rw [W']; exact if_pos rfl
    have e1 : ∀ j, i ≠ j → A' j = A j := fun j hj => by rw [W']; exact if_neg fun z => hj z.symm
    refine ⟨A', fun j xs e => ?_, fun j yss e => ?_, fun j kvs e => by
      rcases set_get e with ⟨_, e', _⟩ | ⟨hj, e'⟩
      · cases e'
      · rw [List.getElem?_set_ne hj, e1 j hj]
        obtain ⟨p', vs', a1, a2, a3, a4⟩ := W.k j kvs e'
        exact ⟨p', vs', a1, a2, x1.hh _ _ a3, a4.mono x1.ff⟩, fun j e a ha => ?_, fun j e => ?_, fun j k hjk o1 o2 a ha => ?_⟩
    · rcases set_get e with ⟨_, e', _⟩ | ⟨hj, e'⟩
      · cases e'
      · rw [List.getElem?_set_ne hj, e1 j hj]
        obtain ⟨p', vs', a1, a2, a3, a4⟩ := W.o j xs e'
        exact ⟨p', vs', a1, a2, x1.hh _ _ a3, a4.mono x1.ff⟩
    · rcases set_get e with ⟨rfl, e', hi⟩ | ⟨hj, e'⟩
      · cases e'
        exact ⟨p, ps, e0, List.getElem?_set_self (by rw [s.len]; exact hi), hp, h⟩
      · rw [List.getElem?_set_ne hj, e1 j hj]
        obtain ⟨p', ps', a1, a2, a3, a4⟩ := W.m j yss e'
        exact ⟨p', ps', a1, a2, x1.hh _ _ a3, a4.go x1.ff fun a _ o => x1.hh a o⟩
    · by_cases hj : i = j
      · subst hj
        rw [e0] at ha
        exact ⟨hF a ha, s.ext.hh.free (n a ha)⟩
      · rw [e1 j hj] at ha
        have := W.fr j (own_set e hj) a ha
        rw [x1.fx a (W.live (own_set e hj) a ha)]
        exact this
    · by_cases hj : i = j
      · subst hj
        rw [e0]; exact nd
      · rw [e1 j hj]
        exact W.nd j (own_set e hj)
    · by_cases hj : i = j
      · subst hj
        rw [e0] at ha
        rw [e1 k hjk]
        exact nA k (own_set o2 hjk) a ha
      · rw [e1 j hj] at ha
        by_cases hk : i = k
        · subst hk
          rw [e0]
          intro z
          exact nA j (own_set o1 hj) a z ha
        · rw [e1 k hk]
          exact W.sp j k hjk (own_set o1 hj) (own_set o2 hk) a ha
/-- an own matrix is frozen -/
theorem StR.frzM (s : StR K F0 H0 F H σ τ) {i : Nat} {xss : List (List D)} (e : τ[i]? = some (.m xss)) : ∃ F', Same F F' ∧ StR K F0 H0 F' H σ (τ.set i (.d (.list (xss.map .list)))) := by
  obtain ⟨A, W⟩ := s.ows
  obtain ⟨p, ps, eA, a, b, q⟩ := W.m i xss e
  have oi : Own τ i := .inr (.inl ⟨xss, e⟩)
  have fr := W.fr i oi
  obtain ⟨F', hF'⟩ : ∃ F' : Hp, F' = fun x => if x ∈ A i then H x else F x := ⟨_, rfl⟩
  have in_ : ∀ x ∈ A i, F' x = H x := fun x hx => by rw [hF']; exact if_pos hx
  have out : ∀ x, x ∉ A i → F' x = F x := fun x hx => by rw [hF']; exact if_neg hx
  have mo : Same F F' := fun x o z => by
    have : x ∉ A i := fun hx => by rw [(fr x hx).1] at z; cases z
    rw [out x this]; exact z
  have rows : DqAll K F' (ps.map V.ref) (xss.map .list) := by
    have : ∀ {qs : List Addr} {yss : List (List D)}, Rws K F H qs yss → (∀ x ∈ qs, x ∈ A i) → DqAll K F' (qs.map V.ref) (yss.map .list) := by
      intro qs yss h
      induction h with
      | nil => exact fun _ => .nil
      | @cons y ys vs xs xss e1 e2 t ih =>
        intro hm
        refine .cons (.lst ?_ (e2.mono mo)) (ih fun x hx => hm x (List.mem_cons_of_mem _ hx))
        rw [in_ y (hm y List.mem_cons_self)]; exact e1
    exact this q fun x hx => by rw [eA]; exact List.mem_cons_of_mem _ hx
  refine ⟨F', mo, ⟨s.ext.hh, s.ext.ff.trans mo, fun x o z => ?_, fun x hx => ?_⟩, by rw [List.length_set]; exact s.len, fun j x ej => ?_, A, fun j ys ej => ?_, fun j yss ej => ?_, fun j kvs ej => by
    rcases set_get ej with ⟨_, e', _⟩ | ⟨hj, e'⟩
    · cases e'
    · obtain ⟨p', vs', a1, a2, a3, a4⟩ := W.k j kvs e'
      exact ⟨p', vs', a1, a2, a3, a4.mono mo⟩, fun j ej x hx => ?_, fun j ej => W.nd j (own_set_d ej).2, fun j k hjk e1 e2 => W.sp j k hjk (own_set_d e1).2 (own_set_d e2).2⟩
  · by_cases hx : x ∈ A i
    · rw [in_ x hx] at z; exact z
    · rw [out x hx] at z; exact s.ext.fh x o z
  · have : x ∉ A i := fun z => hx (fr x z).2
    rw [out x this]; exact s.ext.fx x hx
  · rcases set_get ej with ⟨rfl, e', _⟩ | ⟨hj, e'⟩
    · cases e'
      refine ⟨_, a, .lst ?_ rows⟩
      rw [in_ p (by rw [eA]; simp)]; exact b
    · obtain ⟨v, a, b⟩ := s.dat j x e'
      exact ⟨v, a, b.mono mo⟩
  · rcases set_get ej with ⟨_, e', _⟩ | ⟨hj, e'⟩
    · cases e'
    · obtain ⟨p', vs', a1, a2, a3, a4⟩ := W.o j ys e'
      exact ⟨p', vs', a1, a2, a3, a4.mono mo⟩
  · rcases set_get ej with ⟨_, e', _⟩ | ⟨hj, e'⟩
    · cases e'
    · obtain ⟨p', vs', a1, a2, a3, a4⟩ := W.m j yss e'
      exact ⟨p', vs', a1, a2, a3, a4.go mo fun _ _ _ z => z⟩
  · obtain ⟨hj, oj⟩ := own_set_d ej
    rw [out x fun z => W.sp i j hj oi oj x z hx]
    exact W.fr j oj x hx
/-- a row of a matrix is changed -/
theorem StR.mutR (s : StR K F0 H0 F H σ τ) {i j : Nat} {xss : List (List D)} {ds : List D} {p a : Addr} {ps : List Addr} {ws : List V} (e : τ[i]? = some (.m xss)) (h1 : σ[i]? = some (some (.ref p))) (h2 : H p = some (.lst (ps.map V.ref))) (hj : ps[j]? = some a) (h : DqAll K F ws ds) :
    StR K F0 H0 F (upd H a (.lst ws)) σ (τ.set i (.m (xss.set j ds))) := by
  obtain ⟨A, W⟩ := s.ows
  obtain ⟨p', ps', eA, a', b, q⟩ := W.m i xss e
  rw [h1] at a'; cases a'
  rw [h2] at b
  have eps : ps = ps' := by
    have : ps.map V.ref = ps'.map V.ref := by injection b with b; injection b
    exact List.map_inj_right (fun x y z => by cases z; rfl) |>.mp this
  subst eps
  have oi : Own τ i := .inr (.inl ⟨xss, e⟩)
  have nd := W.nd i oi
  rw [eA] at nd
  obtain ⟨n1, n2⟩ := List.nodup_cons.mp nd
  have ha : a ∈ ps := List.mem_of_getElem? hj
  have haA : a ∈ A i := by rw [eA]; exact List.mem_cons_of_mem _ ha
  obtain ⟨c, d⟩ := W.fr i oi a haA
  have ow : ∀ {k}, Own (τ.set i (.m (xss.set j ds))) k → Own τ k := fun {k} z => by
    by_cases hk : i = k
    · subst hk; exact oi
    · exact own_set z hk
  have np : ∀ k, i ≠ k → Own τ k → ∀ x ∈ A k, x ≠ a := fun k hk ok x hx z => by
    subst z
    exact W.sp i k hk oi ok x haA hx
  refine ⟨⟨fun x o z => ?_, s.ext.ff, fun x o z => ?_, s.ext.fx⟩, by rw [List.length_set]; exact s.len, fun k x ek => ?_, A, fun k ys ek => ?_, fun k yss ek => ?_, fun k kvs ek => by
    rcases set_get ek with ⟨_, e', _⟩ | ⟨hk, e'⟩
    · cases e'
    · obtain ⟨p', vs', a1, a2, a3, a4⟩ := W.k k kvs e'
      exact ⟨p', vs', a1, a2, by rw [upd_ne (np k hk (.inr (.inr ⟨kvs, e'⟩)) p' (by rw [a1]; simp))]; exact a3, a4⟩, fun k ek => W.fr k (ow ek), fun k ek => W.nd k (ow ek), fun k l hkl e1 e2 => W.sp k l hkl (ow e1) (ow e2)⟩
  · rw [upd_ne (ne_of_none z d)]; exact s.ext.hh x o z
  · rw [upd_ne (ne_of_none z c)]; exact s.ext.fh x o z
  · rcases set_get ek with ⟨_, e', _⟩ | ⟨hk, e'⟩
    · cases e'
    · exact s.dat k x e'
  · rcases set_get ek with ⟨_, e', _⟩ | ⟨hk, e'⟩
    · cases e'
    · obtain ⟨p', vs', a1, a2, a3, a4⟩ := W.o k ys e'
      exact ⟨p', vs', a1, a2, by rw [upd_ne (np k hk (.inl ⟨ys, e'⟩) p' (by rw [a1]; simp))]; exact a3, a4⟩
  · rcases set_get ek with ⟨rfl, e', _⟩ | ⟨hk, e'⟩
    · cases e'
      refine ⟨p, ps, eA, h1, ?_, q.put n2 hj h⟩
      have hne : p ≠ a := fun w => by subst w; exact n1 ha
      rw [upd_ne hne]; exact h2
    · obtain ⟨p', ps', a1, a2, a3, a4⟩ := W.m k yss e'
      have ok : Own τ k := .inr (.inl ⟨yss, e'⟩)
      exact ⟨p', ps', a1, a2, by rw [upd_ne (np k hk ok p' (by rw [a1]; simp))]; exact a3, a4.go (Same.refl _) fun x hx o z => by rw [upd_ne (np k hk ok x (by rw [a1]; exact List.mem_cons_of_mem _ hx))]; exact z⟩
end
end DL
set_option Elab.async false
set_option linter.all false
set_option maxRecDepth 100000
set_option maxHeartbeats 4000000
namespace DL
open PySem PySem.Spec PyProof.Rows L2
section
variable {K : PySem.W.Frag} {F0 H0 F H F1 H1 : Hp} {σ : St} {τ : Ta}
/-- a new row behind the others -/
theorem StR.appM (s : StR K F0 H0 F H σ τ) {i : Nat} {xss : List (List D)} {ds : List D} {p a : Addr} {ps : List Addr} {ws : List V} (e : τ[i]? = some (.m xss)) (h1 : σ[i]? = some (some (.ref p))) (h2 : H p = some (.lst (ps.map V.ref)))
    (x1 : Ext F H F1 H1) (n : H a = none) (ha : H1 a = some (.lst ws)) (nF : F1 a = none) (h : DqAll K F1 ws ds) : StR K F0 H0 F1 (upd H1 p (.lst ((ps ++ [a]).map V.ref))) σ (τ.set i (.m (xss ++ [ds]))) := by
  have s1 := s.go x1
  obtain ⟨A, W⟩ := s.ows
  obtain ⟨p', ps', eA, a', b, q⟩ := W.m i xss e
  rw [h1] at a'; cases a'
  rw [h2] at b
  have eps : ps = ps' := by
    have : ps.map V.ref = ps'.map V.ref := by injection b with b; injection b
    exact List.map_inj_right (fun x y z => by cases z; rfl) |>.mp this
  subst eps
  have oi : Own τ i := .inr (.inl ⟨xss, e⟩)
  have nd := W.nd i oi
  have nA : ∀ j, Own τ j → a ∉ A j := fun j hj hm => W.live hj a hm n
  have hpA : p ∈ A i := by rw [eA]; simp
  obtain ⟨c, d⟩ := W.fr i oi p hpA
  have c1 : F1 p = none := by rw [x1.fx p (by rw [h2]; simp)]; exact c
  have hap : a ≠ p := fun z => by subst z; exact nA i oi hpA
  obtain ⟨A', W'⟩ : ∃ A', A' = fun j => if j = i then A i ++ [a] else A j := ⟨_, rfl⟩
  have e0 : A' i = A i ++ [a] := by rw [W']; exact if_pos rfl
  have e1 : ∀ j, i ≠ j → A' j = A j := fun j hj => by rw [W']; exact if_neg fun z => hj z.symm
  have np : ∀ k, i ≠ k → Own τ k → ∀ x ∈ A k, x ≠ p := fun k hk ok x hx z => by
    subst z
    exact W.sp i k hk oi ok x hpA hx
  refine ⟨⟨fun x o z => ?_, (s.ext.trans x1).ff, fun x o z => ?_, (s.ext.trans x1).fx⟩, by rw [List.length_set]; exact s.len, fun k x ek => ?_, A', fun k ys ek => ?_, fun k yss ek => ?_, fun k kvs ek => by
    rcases set_get ek with ⟨_, e', _⟩ | ⟨hk, e'⟩
    · cases e'
    · rw [e1 k hk]
      obtain ⟨p', vs', a1, a2, a3, a4⟩ := W.k k kvs e'
      exact ⟨p', vs', a1, a2, by rw [upd_ne (np k hk (.inr (.inr ⟨kvs, e'⟩)) p' (by rw [a1]; simp))]; exact x1.hh _ _ a3, a4.mono x1.ff⟩, fun k ek x hx => ?_, fun k ek => ?_, fun k l hkl o1 o2 x hx => ?_⟩
  · rw [upd_ne (ne_of_none z d)]; exact (s.ext.trans x1).hh x o z
  · rw [upd_ne (ne_of_none z c1)]; exact x1.fh x o z
  · rcases set_get ek with ⟨_, e', _⟩ | ⟨hk, e'⟩
    · cases e'
    · exact s1.dat k x e'
  · rcases set_get ek with ⟨_, e', _⟩ | ⟨hk, e'⟩
    · cases e'
    · rw [e1 k hk]
      obtain ⟨p', vs', a1, a2, a3, a4⟩ := W.o k ys e'
      exact ⟨p', vs', a1, a2, by rw [upd_ne (np k hk (.inl ⟨ys, e'⟩) p' (by rw [a1]; simp))]; exact x1.hh _ _ a3, a4.mono x1.ff⟩
  · rcases set_get ek with ⟨rfl, e', _⟩ | ⟨hk, e'⟩
    · cases e'
      refine ⟨p, ps ++ [a], by rw [e0, eA]; rfl, h1, upd_same, ?_⟩
      have keep : ∀ x ∈ ps, ∀ o, H x = some o → upd H1 p (.lst ((ps ++ [a]).map V.ref)) x = some o := fun x hx o z => by
        have hne : x ≠ p := fun w => by
          subst w
          rw [eA] at nd
          exact (List.nodup_cons.mp nd).1 hx
        rw [upd_ne hne]; exact x1.hh x o z
      refine (q.go x1.ff keep).app (.cons ?_ h .nil)
      rw [upd_ne hap]; exact ha
    · rw [e1 k hk]
      obtain ⟨p', ps', a1, a2, a3, a4⟩ := W.m k yss e'
      have ok : Own τ k := .inr (.inl ⟨yss, e'⟩)
      exact ⟨p', ps', a1, a2, by rw [upd_ne (np k hk ok p' (by rw [a1]; simp))]; exact x1.hh _ _ a3, a4.go x1.ff fun x hx o z => by rw [upd_ne (np k hk ok x (by rw [a1]; exact List.mem_cons_of_mem _ hx))]; exact x1.hh _ _ z⟩
  · by_cases hk : i = k
    · subst hk
      rw [e0] at hx
      rcases List.mem_append.mp hx with hx | hx
      · rw [x1.fx x (W.live oi x hx)]
        exact W.fr i oi x hx
      · rw [List.mem_singleton.mp hx]
        exact ⟨nF, s.ext.hh.free n⟩
    · rw [e1 k hk] at hx
      rw [x1.fx x (W.live (own_set ek hk) x hx)]
      exact W.fr k (own_set ek hk) x hx
  · by_cases hk : i = k
    · subst hk
      rw [e0]
      exact List.nodup_append.mpr ⟨nd, by simp, fun x hx y hy z => by rw [List.mem_singleton.mp hy] at z; subst z; exact nA i oi hx⟩
    · rw [e1 k hk]
      exact W.nd k (own_set ek hk)
  · by_cases hk : i = k
    · subst hk
      rw [e1 l hkl]
      rw [e0] at hx
      rcases List.mem_append.mp hx with hx | hx
      · exact W.sp i l hkl oi (own_set o2 hkl) x hx
      · rw [List.mem_singleton.mp hx]
        exact nA l (own_set o2 hkl)
    · rw [e1 k hk] at hx
      by_cases hl : i = l
      · subst hl
        rw [e0]
        intro z
        rcases List.mem_append.mp z with z | z
        · exact W.sp k i hkl (own_set o1 hk) oi x hx z
        · rw [List.mem_singleton.mp z] at hx
          exact nA k (own_set o1 hk) hx
      · rw [e1 l hl]
        exact W.sp k l hkl (own_set o1 hk) (own_set o2 hl) x hx
end

/-! ### the rules -/
def frzMT (i : Nat) (τ : Ta) : Ta := match τ[i]? with
  | some (.m xss) => τ.set i (.d (.list (xss.map .list)))
  | _ => τ
def gFrzM (i : Nat) (h : Ta → Option Out) : Ta → Option Out := fun τ => h (frzMT i τ)
/-- rows[a][b] -/
def fMix (i : Nat) (fa fb : Ta → R D) : Ta → R D := fun τ => match τ[i]? with
  | some (.m xss) => bnd (fa τ) fun a => match a with
    | .int n => bnd (lft (atI xss n)) fun xs => bnd (fb τ) fun b => match b with
      | .int k => lft (atI xs k)
      | _ => none
    | _ => none
  | _ => none
/-- rows[a][b] = e -/
def gPutM (i : Nat) (fe fa fb : Ta → R D) : Ta → Option Out := fun τ => bndS (fe τ) τ fun d => match τ[i]? with
  | some (.m xss) => bndS (fa τ) τ fun a => match a with
    | .int n => (ixN xss.length n).bind fun j => (xss[j]?).bind fun xs => bndS (fb τ) τ fun b => match b with
      | .int k => (ixN xs.length k).map fun l => .nx (τ.set i (.m (xss.set j (xs.set l d))))
      | _ => none
    | _ => none
  | _ => none
/-- rows.append(new list) -/
def gAppM (i : Nat) (f : Ta → R (List D)) : Ta → Option Out := fun τ => match τ[i]? with
  | some (.m xss) => bndS (f τ) τ fun ds => if xss.length < 100000 then some (.nx (τ.set i (.m (xss ++ [ds])))) else none
  | _ => none
theorem Rws.atI {K : PySem.W.Frag} {F H : Hp} {ps : List Addr} {xss : List (List D)} (h : Rws K F H ps xss) {n : Int} {xs : List D} (e : L2.atI xss n = some xs) : ∃ a vs, L2.atI (ps.map V.ref) n = some (.ref a) ∧ H a = some (.lst vs) ∧ DqAll K F vs xs := by
  unfold L2.atI at e ⊢
  rw [List.length_map, h.length]
  obtain ⟨j, e1, e2⟩ := Option.bind_eq_some_iff.mp e
  obtain ⟨a, vs, h1, h2, h3⟩ := h.get e2
  refine ⟨a, vs, ?_, h2, h3⟩
  rw [e1, Option.bind_some, List.getElem?_map, h1]
  rfl
section
variable {X : Cx} {W : WX} {e a b : Expr} {fe fa fb : Ta → R D} {f : Ta → R (List D)} {pos p1 p2 p3 p4 p5 : Pos} {x : Str} {rest : List Stmt} {h : Ta → Option Out}
theorem sFrzM (i : Nat) (h1 : PDs X W rest h) : PDs X W rest (gFrzM i h) := by
  refine PSs.conseq h1 fun D σ H ⟨F0, H0, F, τ, o, s, hf, q⟩ => ?_
  unfold gFrzM frzMT at hf
  split at hf
  · rename_i xs hx
    obtain ⟨F', a, b⟩ := s.frzM hx
    exact ⟨F0, H0, F', _, o, b, hf, q.go a⟩
  · exact ⟨F0, H0, F, τ, o, s, hf, q⟩
theorem mIx (i : Nat) (ha : PD X W a fa) (hb : PD X W b fb) (hN : X.N[i]? = some x := by rfl) (hv : Vis X.env.scope x := by first | exact Or.inl rfl | exact Or.inr (Or.inl rfl) | exact Or.inr (Or.inr rfl)) (hd : (x == ("__debug__" : Str)) = false := by decide)
    (hcd : (x == ("__classdict__" : Str)) = false := by decide) (hs : PlainIx a := by exact fun _ _ => rfl) (hs2 : PlainIx b := by exact fun _ _ => rfl) : PD X W (.Subscript (.Subscript (.Name x p1) a p2) b pos) (fMix i fa fb) := by
  refine PE.conseq (pe_ix ix_list (pe_ix ix_list (pe_var (i := i) hN hv hd hcd) ha hs) hb hs2) fun σ H Q ⟨F0, H0, F, τ, r, s, hf, q⟩ => ?_
  unfold fMix at hf
  split at hf
  · rename_i xss hx
    obtain ⟨p, ps, m1, m2, m3⟩ := s.mat hx
    refine ⟨_, m1, tX_bnd s hf q fun k w F1 H1 x1 s1 dw hf q => ?_⟩
    cases dw with
    | int n =>
      rcases bnd_some hf with ⟨n, e1, rfl⟩ | ⟨xs, e1, hf⟩
      · obtain ⟨z, e, e'⟩ := lft_eq e1; cases e'
      obtain ⟨z, ez, e'⟩ := lft_eq e1
      cases e'
      obtain ⟨ra, vs, a1, a2, a3⟩ := (m3.go x1.ff fun _ _ _ z => x1.hh _ _ z).atI ez
      refine ⟨p, _, n, .ref ra, rfl, rfl, .of (x1.hh _ _ m2), a1, tX_bnd s1 hf q fun k w F2 H2 x2 s2 dw hf q => ?_⟩
      obtain ⟨y, e, rfl⟩ : ∃ y, (match k with | .int k => L2.atI xs k | _ => none) = some y ∧ r = .ok y := by
        cases k <;> first | (cases hf; done) | (obtain ⟨y, e, e'⟩ := lft_eq hf; exact ⟨y, e, e'⟩)
      cases dw with
      | int k =>
        obtain ⟨v, e', dv⟩ := (a3.mono x2.ff).at e
        exact ⟨ra, vs, k, v, rfl, rfl, .of (x2.hh _ _ a2), e', q v F2 H2 (.refl x2.fh) dv⟩
      | _ => cases e
    | _ => cases hf
  · cases hf
theorem mPut (i : Nat) (he : PD X W e fe) (ha : PD X W a fa) (hb : PD X W b fb) (hN : X.N[i]? = some x := by rfl) (hv : Vis X.env.scope x := by first | exact Or.inl rfl | exact Or.inr (Or.inl rfl) | exact Or.inr (Or.inr rfl)) (hd : (x == ("__debug__" : Str)) = false := by decide)
    (hcd : (x == ("__classdict__" : Str)) = false := by decide) (hpl : PlainIx a := by exact fun _ _ => rfl)
    (hasg : ∀ v, assign (.Subscript (.Subscript (.Name x p1) a p2) b p4) X.env v = (do
      let ov ← holding [v] (eval (.Subscript (.Name x p1) a p2) X.env)
      let iv ← holding [v, ov] (eval b X.env)
      standAt p4
      holding [v, ov, iv] (setItem ov iv v)
      release [v, ov, iv] []) := by intro _; rfl)
    (hs : swapsWithSole [.Subscript (.Subscript (.Name x p1) a p2) b p4] e pos.line X.env = pure false := by rfl) (hw : swappedStores [.Subscript (.Subscript (.Name x p1) a p2) b p4] e X.env = pure none := by rfl)
    (h1 : (assignEach [.Subscript (.Subscript (.Name x p1) a p2) b p4] X.env).map (·.2) = [assign (.Subscript (.Subscript (.Name x p1) a p2) b p4) X.env] := by rfl) :
    PD1 X W (.Assign [.Subscript (.Subscript (.Name x p1) a p2) b p4] e pos) (gPutM i fe fa fb) := by
  refine PS.conseq (ps_asg he (pg_sub (pe_ix ix_list (pe_var (i := i) hN hv hd hcd) ha hpl) hb set_list hasg) hs hw h1) fun D σ H ⟨F0, H0, F, τ, o, s, hf, q⟩ => ?_
  refine tX_S s hf q fun d v F1 H1 x1 s1 dv hf q => ?_
  split at hf
  · rename_i xss hx
    obtain ⟨p, ps, m1, m2, m3⟩ := s1.mat hx
    refine ⟨_, m1, tX_S s1 hf q fun k w F2 H2 x2 s2 dw hf q => ?_⟩
    cases dw with
    | int n =>
      obtain ⟨j, ej, hf⟩ := Option.bind_eq_some_iff.mp hf
      obtain ⟨xs, exs, hf⟩ := Option.bind_eq_some_iff.mp hf
      have m4 := m3.go x2.ff fun _ _ _ z => x2.hh _ _ z
      obtain ⟨ra, vs, a1, a2, a3⟩ := m4.get exs
      have eat : L2.atI (ps.map V.ref) n = some (.ref ra) := by
        unfold L2.atI
        rw [List.length_map, m3.length, ej, Option.bind_some, List.getElem?_map, a1]
        rfl
      refine ⟨p, _, n, .ref ra, rfl, rfl, .of (x2.hh _ _ m2), eat, tX_S s2 hf q fun k w F3 H3 x3 s3 dw hf q => ?_⟩
      cases dw with
      | int k =>
        obtain ⟨l, el, rfl⟩ := Option.map_eq_some_iff.mp hf
        refine ⟨ra, vs, k, l, rfl, rfl, x3.hh _ _ a2, by rw [a3.length]; exact el, ?_⟩
        exact q F3 _ σ (Same.refl _) (s3.mutR hx m1 (x3.hh _ _ (x2.hh _ _ m2)) a1 ((a3.mono x3.ff).set ((dv.mono x2.ff).mono x3.ff) l))
      | _ => cases hf
    | _ => cases hf
  · cases hf
theorem mApp (i : Nat) (he : PL X W e f) (hN : X.N[i]? = some x := by rfl) (hv : Vis X.env.scope x := by first | exact Or.inl rfl | exact Or.inr (Or.inl rfl) | exact Or.inr (Or.inr rfl)) (hd : (x == ("__debug__" : Str)) = false := by decide)
    (hcd : (x == ("__classdict__" : Str)) = false := by decide) (hse : starEach [e] X.env = (false, eval e X.env) :: starEach [] X.env := by rfl)
    (hfew : ((backTo p5 (starEach [e] X.env)).all (fun x => !x.1) && (backToKw p5 (keywordEach [] X.env)).all (fun x => x.1.isSome)
      && decide ([e].length + ([] : List Keyword).length + (if ([] : List Keyword).isEmpty then 0 else 1) < 30)) = true := by rfl)
    (hline : (p4.endLine == p5.line) = true := by rfl)
    (hs : swapsWith (.Call (.Attribute (.Name x p3) "append" p4) [e] [] p5) none pos.line X.env = pure false := by rfl) :
    PD1 X W (.Expr (.Call (.Attribute (.Name x p3) "append" p4) [e] [] p5) pos) (gAppM i f) := by
  refine PS.conseq (ps_expr (pe_bm PySem.F.plainAttrs_list PySem.F.slot_list_append PySem.F.type_list_append mt_append (pe_var (i := i) hN hv hd hcd) (pa_cons he pa_nil hse) rfl hfew hline hse) hs) fun D σ H ⟨F0, H0, F, τ, o, s, hf, q⟩ => ?_
  unfold gAppM at hf
  split at hf
  · rename_i xss hx
    obtain ⟨p, ps, m1, m2, m3⟩ := s.mat hx
    refine ⟨_, m1, .inl ⟨rfl, _, .of m2⟩, tO_S s hf q fun ds a ws F1 H1 x1 s1 n1 h1 nF dv hf q => ?_⟩
    split at hf
    · rename_i hl
      cases hf
      refine ⟨p, _, .ref a, rfl, rfl, x1.hh _ _ m2, by rw [List.length_map, m3.length]; exact lt5 hl, ?_⟩
      have z := s.appM hx m1 m2 x1 n1 h1 nF dv
      rw [List.map_append] at z
      exact q F1 _ σ (Same.refl _) z
    · cases hf
  · cases hf
end
end DL
set_option Elab.async false
set_option linter.all false
set_option maxRecDepth 100000
set_option maxHeartbeats 4000000
namespace DL
open PySem PySem.Spec PyProof.Rows L2
/-! ### a comprehension whose elements are new lists, kept as own rows -/
def lcM (g : D → Ta → Option Ta) (e : Ta → R (List D)) (τ : Ta) : List D → Option (List (List D))
  | [] => some []
  | x :: xs => (g x τ).bind fun τ1 => match e τ1 with
    | some (.ok d) => (lcM g e τ xs).map (d :: ·)
    | _ => none
def fLcM (f : Ta → R (List D)) (g : D → Ta → Option Ta) (e : Ta → R (List D)) (vs : List Nat) : Ta → R (List (List D)) := fun τ => bnd (f τ) fun xs => if xs.length ≤ 100000 then lft (lcM g e (wipeT τ vs) xs) else none
def RM (K : PySem.W.Frag) (mg : Str → Option Value) (W : WX) (σ : St) (F H : Hp) (Q : VK) : Except Str (List (List D)) → Prop
  | .ok xss => ∀ p ps F' H', Ext F H F' H' → (∀ a ∈ p :: ps, H a = none) → H' p = some (.lst (ps.map V.ref)) → (∀ a ∈ p :: ps, F' a = none) → (p :: ps).Nodup → Rws K F' H' ps xss → Q (.ref p) H'
  | .error n => ∀ F' H', Ext F H F' H' → W (xcl mg n) none σ H'
def tM (K : PySem.W.Frag) (mg : Str → Option Value) (W : WX) (f : Ta → R (List (List D))) : TE := fun σ H Q => ∃ F0 H0 F τ r, StR K F0 H0 F H σ τ ∧ f τ = some r ∧ RM K mg W σ F H Q r
theorem tLcM_of {K : PySem.W.Frag} {mg : Str → Option Value} {W : WX} {f : Ta → R (List D)} {sl vs : List Nat} {g : D → Ta → Option Ta} {e : Ta → R (List D)} (hsl : ∀ j ∈ sl, j ∈ vs) {σ : St} {H : Hp} {Q : VK}
    (q : tM K mg W (fLcM f g e vs) σ H Q) : tLc (tJ K mg W f) (tG K sl g) (tT K mg W0 fYes) (tO K mg W0 e) vs σ H Q := by
  obtain ⟨F0, H0, F, τ, r, s, hf, q⟩ := q
  rcases bnd_some hf with ⟨n, e1, rfl⟩ | ⟨xs, e1, hf⟩
  · exact ⟨F0, H0, F, τ, _, s, e1, q⟩
  split at hf
  · rename_i hlen
    obtain ⟨dss, ed, rfl⟩ := lft_eq hf
    refine ⟨F0, H0, F, τ, _, s, e1, fun J G F1 H1 x1 sG wk D hD => ?_⟩
    have s1 := s.go x1
    refine ⟨fun i m H2 => ∃ F2 ps as, m = xs.length - i ∧ i ≤ xs.length ∧ Ext F1 H1 F2 H2 ∧ F2 D = none ∧ H2 D = some (.lst (ps.map V.ref)) ∧ Rws K F2 H2 ps as ∧ (∀ a ∈ ps, H1 a = none ∧ F2 a = none) ∧ (D :: ps).Nodup ∧ ps.length ≤ i ∧ (lcM g e (wipeT τ vs) (xs.drop i)).map (as ++ ·) = some dss,
      ⟨xs.length, F1, [], [], by simp, Nat.zero_le _, Ext.newO x1.fh hD, x1.fh.free hD, upd_same, .nil, by simp, by simp, Nat.le_refl _, by simp [ed]⟩, ?_⟩
    rintro i m H2 ⟨F2, ps, as, rfl, hi, x2, nD, eD, dA, fr, nd, hacc, hL⟩
    have wk2 := wk i H2 (sG.trans x2.hh)
    by_cases hlt : i < xs.length
    · obtain ⟨rest, hL1, hL2⟩ := Option.map_eq_some_iff.mp hL
      rw [List.drop_eq_getElem_cons hlt, lcM] at hL1
      obtain ⟨τ3, e3, hL1⟩ := Option.bind_eq_some_iff.mp hL1
      refine .inr ⟨wk2.1 hlt, fun H' => ∃ F' ps' as', Ext F1 H1 F' H' ∧ F' D = none ∧ H' D = some (.lst (ps'.map V.ref)) ∧ Rws K F' H' ps' as' ∧ (∀ a ∈ ps', H1 a = none ∧ F' a = none) ∧ (D :: ps').Nodup ∧ ps'.length ≤ i + 1 ∧ (lcM g e (wipeT τ vs) (xs.drop (i + 1))).map (as' ++ ·) = some dss,
        fun H' ⟨F', ps', as', a1, a2, a3, a4, a5, a6, a7, a8⟩ => ⟨xs.length - (i + 1), by omega, F', ps', as', rfl, hlt, a1, a2, a3, a4, a5, a6, a7, a8⟩, fun x H3 hy => ?_⟩
      obtain ⟨F3, x3, dx⟩ := wk2.2.2 _ (List.getElem?_eq_getElem hlt) x H3 hy F2 x2.ff x2.fh
      have s3 := ((s1.go x2).go x3).wipe vs
      refine ⟨F0, H0, F3, _, _, τ3, s3, dx, e3, fun σ4 s4 l4 k4 => ⟨wipe_eq (by rw [l4, wipe_length]) fun j hj => k4 j fun z => hj (hsl j z), ?_⟩⟩
      have hD3 : H3 D = some (.lst (ps.map V.ref)) := x3.hh _ _ eD
      have nD3 : F3 D = none := by rw [x3.fx D (by rw [eD]; simp)]; exact nD
      refine ⟨F0, H0, F3, τ3, _, s4, rfl, fun v F4 H4 x4 hv => ?_⟩
      subst hv
      rw [if_pos rfl]
      cases e6 : e τ3 with
      | none => rw [e6] at hL1; cases hL1
      | some r6 =>
        cases r6 with
        | error n => rw [e6] at hL1; cases hL1
        | ok d =>
          rw [e6] at hL1
          obtain ⟨rest', hL3, rfl⟩ := Option.map_eq_some_iff.mp hL1
          refine ⟨F0, H0, F4, τ3, _, s4.go x4, e6, fun a ws F5 H5 x5 na ha nF dv => ?_⟩
          have hD5 : H5 D = some (.lst (ps.map V.ref)) := x5.hh _ _ (x4.hh _ _ hD3)
          have x25 : Ext F2 H2 F5 H5 := (x3.trans x4).trans x5
          have nD5 : F5 D = none := by rw [x25.fx D (by rw [eD]; simp)]; exact nD
          have x15 : Ext F1 H1 F5 H5 := x2.trans x25
          have na2 : H2 a = none := x3.hh.free (x4.hh.free na)
          have naD : a ≠ D := fun z => by subst z; rw [eD] at na2; cases na2
          have nap : a ∉ ps := fun z => dA.live a z na2
          obtain ⟨nd1, nd2⟩ := List.nodup_cons.mp nd
          refine ⟨ps.map V.ref, hD5, lt5 (by rw [List.length_map]; omega), F5, ps ++ [a], as ++ [d], ⟨fun b o z => ?_, x15.ff, fun b o z => ?_, x15.fx⟩, nD5, by rw [List.map_append]; exact upd_same, ?_, fun b hb => ?_, ?_, by simp; omega, ?_⟩
          · rw [upd_ne (ne_of_none z hD)]; exact x15.hh b o z
          · rw [upd_ne (ne_of_none z nD5)]; exact x15.fh b o z
          · refine (dA.go x25.ff fun b hb o z => ?_).app (.cons ?_ dv .nil)
            · have hne : b ≠ D := fun w => by subst w; exact nd1 hb
              rw [upd_ne hne]; exact x25.hh _ _ z
            · rw [upd_ne naD]; exact ha
          · rcases List.mem_append.mp hb with hb | hb
            · refine ⟨(fr b hb).1, ?_⟩
              rw [x25.fx b (dA.live b hb)]; exact (fr b hb).2
            · rw [List.mem_singleton.mp hb]
              exact ⟨x2.hh.free na2, nF⟩
          · refine List.nodup_cons.mpr ⟨fun z => ?_, List.nodup_append.mpr ⟨nd2, by simp, fun b hb c hc z => by rw [List.mem_singleton.mp hc] at z; subst z; exact nap hb⟩⟩
            rcases List.mem_append.mp z with z | z
            · exact nd1 z
            · exact naD (List.mem_singleton.mp z).symm
          · rw [hL3]
            simp only [Option.map_some, List.append_assoc, List.singleton_append]
            exact congrArg some hL2
    · have e : i = xs.length := by omega
      subst e
      rw [List.drop_length] at hL
      simp only [lcM, Option.map_some, List.append_nil, Option.some.injEq] at hL
      subst hL
      refine .inl ⟨wk2.2.1 rfl, q D ps F2 H2 (x1.trans x2) (fun a ha => ?_) eD (fun a ha => ?_) nd dA⟩
      · rcases List.mem_cons.mp ha with rfl | ha
        · exact x1.hh.free hD
        · exact x1.hh.free (fr a ha).1
      · rcases List.mem_cons.mp ha with rfl | ha
        · exact nD
        · exact (fr a ha).2
  · cases hf
/-- the parts -/
structure BlkM (X : Cx) (W : WX) (elt tg iter : Expr) (scope : Scope) (own : List (Str × Nat)) (f : Ta → R (List D)) (g : D → Ta → Option Ta) (e : Ta → R (List D)) : Prop where
  it : PJt X W tg iter f
  ok : BlkOk X.N X.env.scope scope own
  sl : ∃ sl : List Nat, (∀ j ∈ sl, j ∈ own.map (·.2)) ∧ ∀ (s : Shared) (H : Hp) (C : Addr) (cl : List (Str × Addr)) (fp : List Addr), PG (X.blk s H scope (compEnvC scope cl C X.env) fp) tg (tG X.K sl g)
  el : ∀ (s : Shared) (H : Hp) (C : Addr) (cl : List (Str × Addr)) (fp : List Addr), PL (X.blk s H scope (compEnvC scope cl C X.env) fp) W0 elt e
def gSetM (i : Nat) (f : Ta → R (List (List D))) : Ta → Option Out := fun τ => bndS (f τ) τ fun xss => some (.nx (τ.set i (.m xss)))
section
variable {X : Cx} {W : WX} {elt tg iter : Expr} {scope : Scope} {pos : Pos} {f : Ta → R (List D)} {g : D → Ta → Option Ta} {e : Ta → R (List D)}
theorem sSetLcM (i : Nat) {own : List (Str × Nat)} {y : Str} {py spos : Pos} (B : BlkM X W elt tg iter scope own f g e) (hN : X.N.Nodup) (hsw : swapsWith (.ListComp elt [⟨tg, iter, [], 0⟩] scope pos) (some (.Name y py)) spos.line X.env = pure true)
    (hy : X.N[i]? = some y := by rfl) (hyl : X.env.scope.names.lookup y = some .local := by rfl) (hc : X.calm = true := by rfl) (hs : ∀ x, foldedSetIterable iter X.env x = pure x := by intro _; rfl) :
    PD1 X W (.Assign [.Name y py] (.ListComp elt [⟨tg, iter, [], 0⟩] scope pos) spos) (gSetM i (fLcM f g e (own.map (·.2)))) := by
  obtain ⟨sl, h1, h2⟩ := B.sl
  refine PS.conseq (ps_setLc hc hN hy hyl hsw B.it B.ok h2 (fun _ _ _ _ _ => pYes rfl) B.el hs) fun D σ H ⟨F0, H0, F, τ, o, s, hf, q⟩ => tLcM_of h1 ?_
  rcases bndS_some hf with ⟨n, e1, rfl⟩ | ⟨x, e1, hf⟩
  · exact ⟨F0, H0, F, τ, _, s, e1, fun F' H' x' => q F' H' σ (s.go x')⟩
  · cases hf
    exact ⟨F0, H0, F, τ, _, s, e1, fun p ps F1 H1 x1 n1 h1 nF nd dv => q F1 H1 _ x1.ff (s.setM i x1 n1 h1 nF nd dv)⟩
end
end DL
set_option Elab.async false
set_option linter.all false
set_option maxRecDepth 100000
set_option maxHeartbeats 4000000
namespace DL
open PySem PySem.Spec PyProof.Rows L2

/-! ### zip of three -/
def ItZ3 (K : PySem.W.Frag) (k l m : Bool) (a b c : Addr) : It :=
  ⟨fun i H => ∃ (xs ys zs : List V) (x y z : V), SqK k K H a xs ∧ SqK l K H b ys ∧ SqK m K H c zs ∧ xs[i]? = some x ∧ ys[i]? = some y ∧ zs[i]? = some z,
    fun i H v H' => ∃ T x y z, v = .ref T ∧ H T = none ∧ H' = upd H T (.tup [x, y, z]) ∧ (∀ xs, SqK k K H a xs → xs[i]? = some x) ∧ (∀ ys, SqK l K H b ys → ys[i]? = some y) ∧ ∀ zs, SqK m K H c zs → zs[i]? = some z,
    fun i H => ∃ xs ys zs : List V, SqK k K H a xs ∧ SqK l K H b ys ∧ SqK m K H c zs ∧ i ≤ xs.length ∧ i ≤ ys.length ∧ i ≤ zs.length ∧ (i = xs.length ∨ i = ys.length ∨ i = zs.length)⟩
theorem turnZ3 {P : Program} {w : World} {K : PySem.W.Frag} {elts : List Expr} {kk : Nat} {tpos : Pos} {k l m : Bool} {a b d z TI TO i1 i2 i3 : Addr} (S : ZipSep3 z TI TO i1 i2 i3 [i1, a] [i2, b] [i3, d]) (ha : a ≠ i1) (hb : b ≠ i2) (hd : d ≠ i3) :
    Turn P w K (.Tuple elts kk tpos) (ItZ3 K k l m a b d) [z, TI, TO, i1, i2, i3] z (fun i h => IsZip h z TI TO .none ∧ IsTupOf3 h TI (.ref i1) (.ref i2) (.ref i3) ∧ (∃ a1 a2 a3, IsTupOf3 h TO a1 a2 a3) ∧ IsIt k h i1 a i ∧ IsIt l h i2 b i ∧ IsIt m h i3 d i) where
  mem := by simp
  obj := fun i h st c hc => by
    obtain ⟨hz, hTI, ⟨a1, a2, a3, hTO⟩, h1, h2, h3⟩ := st
    have e' : c = z ∨ c = TI ∨ c = TO ∨ c = i1 ∨ c = i2 ∨ c = i3 := by simpa using hc
    rcases e' with rfl | rfl | rfl | rfl | rfl | rfl
    · exact ⟨_, hz, fun v q => nomatch q⟩
    · exact ⟨_, hTI, fun v q => nomatch q⟩
    · exact ⟨_, hTO, fun v q => nomatch q⟩
    · exact h1.obj
    · exact h2.obj
    · exact h3.obj
  keep := fun i h h' st kp => by
    obtain ⟨hz, hTI, ⟨a1, a2, a3, hTO⟩, h1, h2, h3⟩ := st
    exact ⟨kp z (by simp) _ hz, kp TI (by simp) _ hTI, ⟨a1, a2, a3, kp TO (by simp) _ hTO⟩, h1.at' fun o q => kp i1 (by simp) o q, h2.at' fun o q => kp i2 (by simp) o q, h3.at' fun o q => kp i3 (by simp) o q⟩
  item := by
    intro X hP hw hK hc i pins s σ H E I hf st hg
    subst hP hw hK
    obtain ⟨hz, hTI, ⟨a1, a2, a3, hTO⟩, h1, h2, h3⟩ := st
    obtain ⟨xs, ys, zs, x, y, y3, hq, hr, ht, hx, hy, hy3⟩ := hg
    obtain ⟨its, rv, p, _⟩ := sqK_get I hq
    obtain ⟨its2, rv2, p2, _⟩ := sqK_get I hr
    obtain ⟨its3, rv3, p3, _⟩ := sqK_get I ht
    obtain ⟨u, hu, ru⟩ := rv.get hx
    obtain ⟨u2, hu2, ru2⟩ := rv2.get hy
    obtain ⟨u3, hu3, ru3⟩ := rv3.get hy3
    have lt : i < its.toArray.size := by have := (List.getElem?_eq_some_iff.mp hu).1; simpa using this
    have lt2 : i < its2.toArray.size := by have := (List.getElem?_eq_some_iff.mp hu2).1; simpa using this
    have lt3 : i < its3.toArray.size := by have := (List.getElem?_eq_some_iff.mp hu3).1; simpa using this
    refine wpAny_pyNext_zipD3_item S (drawsK (A := X.A.in1) k (I.ok.hd hc) i1 a ha its.toArray) (drawsK (A := X.A.in1) l (I.ok.hd hc) i2 b hb its2.toArray) (drawsK (A := X.A.in1) m (I.ok.hd hc) i3 d hd its3.toArray) hz hTI hTO ⟨h1, p⟩ ⟨h2, p2⟩ ⟨h3, p3⟩ lt lt2 lt3 fun x1 x2 x3 h' tk e1 e2 e3 hz' hTO' st1 st2 st3 hT hsz hk => ?_
    have ex : x1 = u := by rw [List.getElem?_toArray, hu] at e1; exact (Option.some.inj e1).symm
    have ex2 : x2 = u2 := by rw [List.getElem?_toArray, hu2] at e2; exact (Option.some.inj e2).symm
    have ex3 : x3 = u3 := by rw [List.getElem?_toArray, hu3] at e3; exact (Option.some.inj e3).symm
    subst ex ex2 ex3
    have hzl : z < s.heap.objs.size := Heap.lt_size hz
    refine ⟨_, rfl, wpAny_letOwnedTupleGo_zip (s := { s with heap := h', toks := tk }) hz' fun h'' hz'' sb => ?_⟩
    have hT2 : h''.get? s.heap.objs.size = some { cls := .type "tuple", data := .seq #[x1, x2, x3] } := (sb.2 _ (Nat.ne_of_gt hzl)).trans hT
    have new : ObjOk X.prog X.w (upd H s.heap.objs.size (.tup [x, y, y3])) h'' s.heap.objs.size (.tup [x, y, y3]) :=
      ⟨by show 3 ≤ sizeLine; decide, [x1, x2, x3], .cons ru (.cons ru2 (.cons ru3 .nil)), ⟨_, hT2, rfl, _, rfl⟩⟩
    have I1 : L2.Inv X pins σ (upd H s.heap.objs.size (.tup [x, y, y3])) { s with heap := h'', toks := tk } :=
      I.turnedNew (ch := [z, TI, TO, i1, i2, i3]) (fun c ob hcn q => (sb.2 c (fun z => hcn (by simp [z]))).trans (hk c ob (fun z => hcn (by simp [z])) (fun z => hcn (by simp [z])) (fun z => hcn (by simp [z])) (fun z => hcn (by simp [z])) (fun z => hcn (by simp [z])) q)) hf (Nat.le_refl _) new
    refine ⟨.ref s.heap.objs.size, _, I1, rfl, ⟨_, x, y, y3, rfl, I.hok.fresh (Nat.le_refl _), rfl, fun ws hw => by rw [sqK_inj I hw hq]; exact hx, fun ws hw => by rw [sqK_inj I hw hr]; exact hy, fun ws hw => by rw [sqK_inj I hw ht]; exact hy3⟩,
      ⟨hz'', (sb.2 _ S.TIz).trans (hk TI _ S.TIz S.TITO S.TIi1 S.TIi2 S.TIi3 hTI), ⟨x1, x2, x3, (sb.2 _ S.TOz).trans hTO'⟩, st1.1.at' fun o q => (sb.2 i1 (Ne.symm S.zi1)).trans q, st2.1.at' fun o q => (sb.2 i2 (Ne.symm S.zi2)).trans q, st3.1.at' fun o q => (sb.2 i3 (Ne.symm S.zi3)).trans q⟩, fun c hcm => ?_⟩
    have hlt : c < s.heap.objs.size := by
      have e' : c = z ∨ c = TI ∨ c = TO ∨ c = i1 ∨ c = i2 ∨ c = i3 := by simpa using hcm
      rcases e' with rfl | rfl | rfl | rfl | rfl | rfl
      · exact hzl
      · exact Heap.lt_size hTI
      · exact Heap.lt_size hTO
      · obtain ⟨o, q, _⟩ := h1.obj; exact Heap.lt_size q
      · obtain ⟨o, q, _⟩ := h2.obj; exact Heap.lt_size q
      · obtain ⟨o, q, _⟩ := h3.obj; exact Heap.lt_size q
    rw [upd_ne (Nat.ne_of_lt hlt)]
    exact (hf c hcm).1
  done := by
    intro X hP hw hK hc i pins s σ H E I hf st hg
    subst hP hw hK
    obtain ⟨hz, hTI, ⟨a1, a2, a3, hTO⟩, h1, h2, h3⟩ := st
    obtain ⟨xs, ys, zs, hq, hr, ht, l1, l2, l3, hend⟩ := hg
    obtain ⟨its, rv, p, _⟩ := sqK_get I hq
    obtain ⟨its2, rv2, p2, _⟩ := sqK_get I hr
    obtain ⟨its3, rv3, p3, _⟩ := sqK_get I ht
    have n1 : its.toArray.size = xs.length := by rw [List.size_toArray]; exact rv.length.symm
    have n2 : its2.toArray.size = ys.length := by rw [List.size_toArray]; exact rv2.length.symm
    have n3 : its3.toArray.size = zs.length := by rw [List.size_toArray]; exact rv3.length.symm
    refine wpAny_pyNext_zipD3_end S (drawsK (A := X.A.in1) k (I.ok.hd hc) i1 a ha its.toArray) (drawsK (A := X.A.in1) l (I.ok.hd hc) i2 b hb its2.toArray) (drawsK (A := X.A.in1) m (I.ok.hd hc) i3 d hd its3.toArray) hz hTI hTO ⟨h1, p⟩ ⟨h2, p2⟩ ⟨h3, p3⟩ (by omega) (by omega) (by omega) (by omega) fun h' tk hk => ⟨rfl, ?_⟩
    have nch : ∀ b u, H b = some u → b ∉ [z, TI, TO, i1, i2, i3] := fun b u e hm => by
      have := (hf b hm).1
      rw [e] at this; cases this
    have fr : ∀ c ∈ [z, TI, TO, i1, i2, i3], FpOk X pins H c := hf
    refine I.step (g' := s.gens) (d' := s.drawn) (ch := [z, TI, TO, i1, i2, i3]) (fun c hcm => ?_) (fun c o _ _ hn e _ => hk c o (fun z => hn (by simp [z])) (fun z => hn (by simp [z])) (fun z => hn (by simp [z])) (fun z => hn (by simp [z])) (fun z => hn (by simp [z])) e) (fun c o _ _ hn e _ => ⟨o.slots, hk c o (fun z => hn (by simp [z])) (fun z => hn (by simp [z])) (fun z => hn (by simp [z])) (fun z => hn (by simp [z])) (fun z => hn (by simp [z])) e⟩) (fun _ _ _ _ n => n)
      (fun c o hn e => ⟨o, hk c o (fun z => hn (by simp [z])) (fun z => hn (by simp [z])) (fun z => hn (by simp [z])) (fun z => hn (by simp [z])) (fun z => hn (by simp [z])) e⟩) (fun _ _ e => e) (fun _ _ _ e => e) (fun b ps e => ⟨#[], by rw [e]; simp⟩) (fun m hm => ?_) (fun b u e => ?_) I.bare
    · obtain ⟨f0, f1, f2, f3, f4, f5⟩ := fr c hcm
      exact ⟨f3, f1, f4, f5⟩
    · obtain ⟨o, es, ep, ho, r⟩ := hm
      have nl : ∀ c ∈ [z, TI, TO, i1, i2, i3], X.env.locals ≠ c := fun c hcm => Ne.symm (fr c hcm).2.1
      exact ⟨o, es, ep, hk _ o (nl z (by simp)) (nl TO (by simp)) (nl i1 (by simp)) (nl i2 (by simp)) (nl i3 (by simp)) ho, r⟩
    · refine (I.hok b u e).stay (fun c v hcv q => ?_) (fun _ q => q) fun _ _ q => q
      have hn : c ∉ [z, TI, TO, i1, i2, i3] := by
        rcases hcv with rfl | hcv
        · exact nch c u e
        · exact nch c _ hcv
      exact hk c v (fun z => hn (by simp [z])) (fun z => hn (by simp [z])) (fun z => hn (by simp [z])) (fun z => hn (by simp [z])) (fun z => hn (by simp [z])) q
  self := fun A i s Q E st h => wpAny_pyIter_zip st.1 h
def zip3D : List D → List D → List D → List D
  | x :: xs, y :: ys, z :: zs => .tuple [x, y, z] :: zip3D xs ys zs
  | _, _, _ => []
theorem zip3D_len : ∀ xs ys zs : List D, (zip3D xs ys zs).length = min xs.length (min ys.length zs.length)
  | [], _, _ => by simp [zip3D]
  | _ :: _, [], _ => by simp [zip3D]
  | _ :: _, _ :: _, [] => by simp [zip3D]
  | x :: xs, y :: ys, z :: zs => by
    have := zip3D_len xs ys zs
    simp only [zip3D, List.length_cons, this]
    omega
theorem zip3D_get : ∀ (xs ys zs : List D) (i : Nat) (d : D), (zip3D xs ys zs)[i]? = some d → ∃ x y z, xs[i]? = some x ∧ ys[i]? = some y ∧ zs[i]? = some z ∧ d = .tuple [x, y, z]
  | [], _, _, i, d, h => by simp [zip3D] at h
  | _ :: _, [], _, i, d, h => by simp [zip3D] at h
  | _ :: _, _ :: _, [], i, d, h => by simp [zip3D] at h
  | x :: xs, y :: ys, z :: zs, 0, d, h => by simp [zip3D] at h; exact ⟨x, y, z, rfl, rfl, rfl, h.symm⟩
  | x :: xs, y :: ys, z :: zs, i + 1, d, h => by
    simp only [zip3D, List.getElem?_cons_succ] at h ⊢
    exact zip3D_get xs ys zs i d h
theorem walksZ3 {K : PySem.W.Frag} {k l m : Bool} {a b c : Addr} {G F : Hp} {vs ws us : List V} {xs ys zs : List D} (h : SqK k K G a vs) (q : DqAll K F vs xs) (h' : SqK l K G b ws) (q' : DqAll K F ws ys) (h3 : SqK m K G c us) (q3 : DqAll K F us zs) : Walks K (ItZ3 K k l m a b c) G F (zip3D xs ys zs) := fun i H sm => by
  have hl : SqK k K H a vs := sqK_same sm h
  have hl' : SqK l K H b ws := sqK_same sm h'
  have hl3 : SqK m K H c us := sqK_same sm h3
  have el := zip3D_len xs ys zs
  refine ⟨fun hi => ?_, fun hi => ⟨vs, ws, us, hl, hl', hl3, by rw [q.length]; omega, by rw [q'.length]; omega, by rw [q3.length]; omega, by rw [q.length, q'.length, q3.length]; omega⟩, fun d hd x H1 hy F2 s2 s3 => ?_⟩
  · rw [el] at hi
    obtain ⟨v, e, _⟩ := q.get (List.getElem?_eq_getElem (show i < xs.length by omega))
    obtain ⟨v', e', _⟩ := q'.get (List.getElem?_eq_getElem (show i < ys.length by omega))
    obtain ⟨v3, e3, _⟩ := q3.get (List.getElem?_eq_getElem (show i < zs.length by omega))
    exact ⟨vs, ws, us, v, v', v3, hl, hl', hl3, e, e', e3⟩
  · obtain ⟨T, y, y', y3, rfl, nT, rfl, hy, hy', hy3⟩ := hy
    obtain ⟨x0, x1, x2, e1, e2, e3, rfl⟩ := zip3D_get xs ys zs i d hd
    obtain ⟨v, e, dv⟩ := q.get e1
    obtain ⟨v', e', dv'⟩ := q'.get e2
    obtain ⟨v3, e3', dv3⟩ := q3.get e3
    have z : y = v := Option.some.inj ((hy vs hl).symm.trans e)
    subst z
    have z : y' = v' := Option.some.inj ((hy' ws hl').symm.trans e')
    subst z
    have z : y3 = v3 := Option.some.inj ((hy3 us hl3).symm.trans e3')
    subst z
    have x3 := Ext.new (o := .tup [y, y', y3]) s3 nT
    exact ⟨_, x3, .tup (.of upd_same) (.cons ((dv.mono s2).mono x3.ff) (.cons ((dv'.mono s2).mono x3.ff) (.cons ((dv3.mono s2).mono x3.ff) .nil)))⟩
def fZ3 (f : Ta → R (List D)) : Ta → R (List D) := fun τ => bnd (f τ) fun ds => match ds with
  | [d, e, g] => bnd (lft (seqD d)) fun xs => bnd (lft (seqD e)) fun ys => bnd (lft (seqD g)) fun zs => ok (zip3D xs ys zs)
  | _ => none
section
variable {X : Cx} {W : WX} {e e2 e3 : Expr} {elts : List Expr} {kk : Nat} {tpos p pos : Pos} {fs : Ta → R (List D)}
theorem pi_zip3K {ta : TA} (hg : Gl X "zip") (hm : X.mg "zip" = none) (ha : PA X [e, e2, e3] ta)
    (hs : starEach [e, e2, e3] X.env = (false, eval e X.env) :: starEach [e2, e3] X.env := by rfl) (hpl : (backTo pos (starEach [e2, e3] X.env)).any (·.1) = false := by rfl) :
    PI X (.Tuple elts kk tpos) (.Call (.Name "zip" p) [e, e2, e3] [] pos) (fun σ H R => ta σ H fun vs H1 => ∃ a b c k l m xs ys zs, vs = [.ref a, .ref b, .ref c] ∧ SqK k X.K H1 a xs ∧ SqK l X.K H1 b ys ∧ SqK m X.K H1 c zs ∧ R (ItZ3 X.K k l m a b c) H1) := by
  refine ⟨fun pins s σ H R I h => ?_⟩
  refine Call_ (ld_blt I hg hm PyProof.Rows.boot_zip (PyProof.Rows.callWith_type1 (thn (ha.run pos pins s σ H _ I h) fun us s1 ⟨vs, H1, I1, r1, q1⟩ => ?_) hs hpl))
  obtain ⟨a, b, d, k, l, m, xs, ys, zs, ex, hq, hr, ht, q⟩ := q1
  subst ex
  cases r1 with
  | cons r rr =>
    cases rr with
    | cons r' rr =>
      cases rr with
      | cons r3 rr =>
        cases rr
        cases r
        cases r'
        cases r3
        obtain ⟨its, rv, p1, la⟩ := sqK_get I1 hq
        obtain ⟨its2, rv2, p2, lb⟩ := sqK_get I1 hr
        obtain ⟨its3, rv3, p3, lc⟩ := sqK_get I1 ht
        refine zip_begins3 (beginsK k a its.toArray) (beginsK l b its2.toArray) (beginsK m d its3.toArray) p1 p2 p3 fun h' hz hTI hTO g1 g2 g3 hsz hk => wpAny_pyIter_zip hz ?_
        have I2 : L2.Inv X pins σ H1 { s1 with heap := h' } := I1.kept (t' := s1.toks) hk
        refine ⟨s1.heap.objs.size + 5, [s1.heap.objs.size + 5, s1.heap.objs.size + 3, s1.heap.objs.size + 4, s1.heap.objs.size, s1.heap.objs.size + 1, s1.heap.objs.size + 2], _, _, H1, rfl, I2, turnZ3 (sep3 s1.heap.objs.size a b d la lb lc) (Nat.ne_of_lt la) (ltNe lb 1) (ltNe lc 2), ⟨hz, hTI, ⟨_, _, _, hTO⟩, IsIt.new g1, IsIt.new g2, IsIt.new g3⟩, fun c hcm => ?_, q⟩
        have hle : s1.heap.objs.size ≤ c := le6 (by simpa using hcm)
        exact I1.fpOk hle (I1.hok.fresh hle)
theorem iZ3 (hm : X.mg "zip" = none) (ha : PAs X W [e, e2, e3] fs) (hg : Gl X "zip" := by rfl)
    (hs : starEach [e, e2, e3] X.env = (false, eval e X.env) :: starEach [e2, e3] X.env := by rfl) (hpl : (backTo pos (starEach [e2, e3] X.env)).any (·.1) = false := by rfl) : PIt X W (.Tuple elts kk tpos) (.Call (.Name "zip" p) [e, e2, e3] [] pos) (fZ3 fs) := by
  refine PI.conseq (pi_zip3K hg hm ha hs hpl) fun σ H Q ⟨F0, H0, F, τ, r, s, hf, q⟩ => ?_
  rcases bnd_some hf with ⟨n, e1, rfl⟩ | ⟨ds, e1, hf⟩
  · exact ⟨F0, H0, F, τ, _, s, e1, q⟩
  · refine ⟨F0, H0, F, τ, _, s, e1, fun vs F1 H1 x1 dv => ?_⟩
    split at hf
    · rename_i d d' d''
      rcases bnd_some hf with ⟨n, e2, rfl⟩ | ⟨xs, e2, hf⟩
      · obtain ⟨z, e, e'⟩ := lft_eq e2; cases e'
      rcases bnd_some hf with ⟨n, e3, rfl⟩ | ⟨ys, e3, hf⟩
      · obtain ⟨z, e, e'⟩ := lft_eq e3; cases e'
      rcases bnd_some hf with ⟨n, e4, rfl⟩ | ⟨zs, e4, hf⟩
      · obtain ⟨z, e, e'⟩ := lft_eq e4; cases e'
      obtain ⟨z, ee, e'⟩ := lft_eq e2
      cases e'
      obtain ⟨z, ee', e'⟩ := lft_eq e3
      cases e'
      obtain ⟨z, ee3, e'⟩ := lft_eq e4
      cases e'; cases hf
      cases dv with
      | cons d1 d2 =>
        cases d2 with
        | cons d2 d3 =>
          cases d3 with
          | cons d3 d4 =>
            cases d4
            obtain ⟨a, k, ws, rfl, hq, da⟩ := d1.sq ee
            obtain ⟨b, l, us, rfl, hr, db⟩ := d2.sq ee'
            obtain ⟨c, m, ts, rfl, ht, dc⟩ := d3.sq ee3
            exact ⟨a, b, c, k, l, m, ws, us, ts, rfl, sqK_same x1.fh hq, sqK_same x1.fh hr, sqK_same x1.fh ht, q _ F1 H1 x1 (walksZ3 hq da hr db ht dc)⟩
    · cases hf
end

/-! ### l.remove(x) -/
section
variable {X : Cx}
def rRemD (K : PySem.W.Frag) : V → List V → Hp → VK → Prop := fun x xs H Q => ∃ (a : Addr) (y : V) (vs : List V) (d : PyData) (ds : List PyData) (j : Nat) (z : PyData), x = V.ref a ∧ xs = [y] ∧ H a = some (.lst vs) ∧ DpAll K H vs ds ∧ Dp K H y d ∧
  SeqAt.shaped (.list ds) = true ∧ SeqAt.shaped d = true ∧ ds[j]? = some z ∧ PyData.eqv z d = true ∧ (∀ (m : Nat) (z' : PyData), m < j → ds[m]? = some z' → PyData.eqv z' d = false) ∧ Q .non (upd H a (.lst (vs.eraseIdx j)))
theorem mt_removeD (hu : X.A.units + 65 < cLine) : MtM X "list.remove" (rRemD X.K) := by
  intro pins s σ H x xs v us Q I rx rxs h
  obtain ⟨a, y, vs, d, ds, j, z, rfl, rfl, hH, hl, hy, sl, sd, hz, hzj, hno, q⟩ := h
  cases rx
  cases rxs with
  | cons ry rt =>
    rename_i uy ut
    cases rt
    obtain ⟨bs, r1⟩ := Dp.reads I d y uy hy ry
    have hxs : PyData.canLayAll0 ds = true := SeqAt.canLay_of_shaped sl
    have hroom : X.A.units + 1 + min (PyData.depthAll ds) d.depth < cLine := room_in_shaped sd hu
    obtain ⟨zl, its, n, rv, hlen, e⟩ := I.lstM hH
    obtain ⟨as, h4⟩ := Dp.readsAll I ds _ its hl rv
    have hn : its.length = ds.length := SeqAt.ReadsAll.length ds its as h4
    have hmap : its.map (SeqAt.readOf s.heap) = ds := SeqAt.readsAll_map ds its as hxs h4
    obtain ⟨hjd, _⟩ := List.getElem?_eq_some_iff.mp hz
    have hjl : j < its.length := by omega
    have hj : j < its.toArray.size := by simpa using hjl
    have at_ : ∀ (m : Nat) (hm : m < its.toArray.size) (z' : PyData), ds[m]? = some z' → SeqAt.readOf s.heap its.toArray[m] = z' := by
      intro m hm z' hz'
      have hml : m < its.length := by simpa using hm
      rw [← hmap, List.getElem?_map, List.getElem?_eq_getElem hml] at hz'
      have e1 : SeqAt.readOf s.heap its[m] = z' := Option.some.inj (show some (SeqAt.readOf s.heap its[m]) = some z' from hz')
      simpa using e1
    refine call_meets PySem.F.slot_list_remove ⟨_, e, rfl⟩ PySem.F.entry_list_remove (PySem.F.args_list_remove_2 _ _)
      (SeqAt.list_removeAt a its.toArray n _ _ uy (fun u => PyData.eqv (SeqAt.readOf s.heap u) d) j hj ?_ ?_ (by rw [List.size_toArray]; omega)) ⟨e, SeqAt.items_eqAt (vs := its.toArray) (show ReadsAll s.heap its.toArray.toList ds as from h4) r1 hxs (SeqAt.canLay_of_shaped sd) hroom, ?_⟩
    · show PyData.eqv (SeqAt.readOf s.heap its.toArray[j]) d = true
      rw [at_ j hj z hz]
      exact hzj
    · intro m hm hmj
      have hmd : m < ds.length := by omega
      have hz' : ds[m]? = some ds[m] := List.getElem?_eq_getElem hmd
      show PyData.eqv (SeqAt.readOf s.heap its.toArray[m]) d = false
      rw [at_ m hm _ hz']
      exact hno m _ hmj hz'
    · refine ⟨.non, _, I.lset (its' := its.eraseIdx j) (t' := s.toks) hH e ?_ (rv.eraseIdx j) ?_, rfl, q⟩
      · show its.toArray.eraseIdxIfInBounds j = (its.eraseIdx j).toArray
        rw [List.eraseIdxIfInBounds_toArray]
      · have := List.length_eraseIdx_le vs j
        omega
end
def remJ (d : D) : List D → Option Nat
  | [] => none
  | z :: r => if PyData.eqv z d then some 0 else (remJ d r).map (· + 1)
theorem remJ_spec (d : D) : ∀ {ds : List D} {j : Nat}, remJ d ds = some j → ∃ z, ds[j]? = some z ∧ PyData.eqv z d = true ∧ ∀ (m : Nat) (z' : D), m < j → ds[m]? = some z' → PyData.eqv z' d = false
  | [], j, h => by cases h
  | z :: r, j, h => by
    unfold remJ at h
    split at h
    · rename_i hz
      cases h
      exact ⟨z, rfl, hz, fun m z' hm => absurd hm (Nat.not_lt_zero _)⟩
    · rename_i hz
      obtain ⟨i, e, rfl⟩ := Option.map_eq_some_iff.mp h
      obtain ⟨y, h1, h2, h3⟩ := remJ_spec d e
      refine ⟨y, by simpa using h1, h2, fun m z' hm hz' => ?_⟩
      cases m with
      | zero =>
        simp at hz'
        subst hz'
        simpa using hz
      | succ m => exact h3 m z' (by omega) (by simpa using hz')
def gRem (i : Nat) (f : Ta → R D) : Ta → Option Out := fun τ => match τ[i]? with
  | some (.o xs) => bndS (f τ) τ fun d => if SeqAt.shaped d && SeqAt.shaped (.list xs) then (remJ d xs).map fun j => .nx (τ.set i (.o (xs.eraseIdx j))) else none
  | _ => none
section
variable {X : Cx} {W : WX} {e : Expr} {f : Ta → R D} {x : Str} {pos : Pos}
theorem oRem (i : Nat) (hu : X.A.units + 65 < cLine) (he : PD X W e f) (hN : X.N[i]? = some x := by rfl) (hv : Vis X.env.scope x := by first | exact Or.inl rfl | exact Or.inr (Or.inl rfl) | exact Or.inr (Or.inr rfl)) (hd : (x == ("__debug__" : Str)) = false := by decide)
    (hcd : (x == ("__classdict__" : Str)) = false := by decide) {p3 p4 p5 : Pos} (hse : starEach [e] X.env = (false, eval e X.env) :: starEach [] X.env := by rfl)
    (hfew : ((backTo p5 (starEach [e] X.env)).all (fun x => !x.1) && (backToKw p5 (keywordEach [] X.env)).all (fun x => x.1.isSome)
      && decide ([e].length + ([] : List Keyword).length + (if ([] : List Keyword).isEmpty then 0 else 1) < 30)) = true := by rfl)
    (hline : (p4.endLine == p5.line) = true := by rfl)
    (hs : swapsWith (.Call (.Attribute (.Name x p3) "remove" p4) [e] [] p5) none pos.line X.env = pure false := by rfl) :
    PD1 X W (.Expr (.Call (.Attribute (.Name x p3) "remove" p4) [e] [] p5) pos) (gRem i f) := by
  refine PS.conseq (ps_expr (pe_bm PySem.F.plainAttrs_list PySem.F.slot_list_remove PySem.F.type_list_remove (mt_removeD hu) (pe_var (i := i) hN hv hd hcd) (pa_cons he pa_nil hse) rfl hfew hline hse) hs) fun D σ H ⟨F0, H0, F, τ, o, s, hf, q⟩ => ?_
  unfold gRem at hf
  split at hf
  · rename_i xs hx
    obtain ⟨p, vs, a, b, c, d, z⟩ := s.own i xs hx
    refine ⟨_, a, .inl ⟨rfl, _, .of b⟩, tX_S s hf q fun k w F1 H1 x1 s1 dw hf q => ?_⟩
    split at hf
    · rename_i hl
      obtain ⟨sk, sx⟩ := Bool.and_eq_true_iff.mp hl
      obtain ⟨j, ej, rfl⟩ := Option.map_eq_some_iff.mp hf
      obtain ⟨y, y1, y2, y3⟩ := remJ_spec k ej
      refine ⟨p, w, vs, k, xs, j, y, rfl, rfl, x1.hh _ _ b, ((z.mono x1.ff).mono x1.fh).dp (SeqAt.canLay_of_shaped sx), dw.dpH x1.fh sk, sx, sk, y1, y2, y3, ?_⟩
      exact q F1 _ σ (Same.refl _) (s1.mut hx a ((z.mono x1.ff).eraseIdx j))
    · cases hf
  · cases hf
end
end DL
set_option Elab.async false
set_option linter.all false
set_option maxRecDepth 100000
set_option maxHeartbeats 4000000
namespace DL
open PySem PySem.Spec PyProof.Rows L2

section
variable {X : Cx} {W : WX} {e a b : Expr} {f fa fb : Ta → R D} {x l : Str} {pos p p1 p2 : Pos}
/-! ### x += e, ints -/
def augD : D → D → Option D
  | .int i, .int j => some (.int (i + j))
  | _, _ => none
def gAg (i : Nat) (f : Ta → R D) : Ta → Option Out := fun τ => match τ[i]? with
  | some (.d (.int n)) => bndS (f τ) τ fun d => match d with
    | .int k => some (.nx (τ.set i (.d (.int (n + k)))))
    | _ => none
  | _ => none
theorem sAug (i : Nat) (he : PD X W e f) (hN : X.N.Nodup) (hi : X.N[i]? = some x := by rfl) (hx : Loc X.env.scope x := by first | exact Or.inl rfl | exact Or.inr rfl)
    (hf : X.fn x = true ∨ X.env.scope.names.lookup x = some .local := by first | exact .inl rfl | exact .inr rfl | assumption) : PD1 X W (.AugAssign (.Name x p) .Add e pos) (gAg i f) := by
  refine PS.conseq (ps_aug hN hi hx he ip_add hf) fun D σ H ⟨F0, H0, F, τ, o, s, hf, q⟩ => ?_
  unfold gAg at hf
  split at hf
  · rename_i n hn
    obtain ⟨v, a1, a2⟩ := s.dat _ _ hn
    cases a2
    refine ⟨_, a1, tX_S s hf q fun d w F1 H1 x1 s1 dw hf q => ?_⟩
    cases dw with
    | int k =>
      cases hf
      exact ⟨n, k, rfl, rfl, q F1 H1 _ (Same.refl _) (s1.setD i (.int _))⟩
    | _ => cases hf
  · cases hf
/-! ### an own list's truth -/
def fOtr (i : Nat) : Ta → R Bool := fun τ => match τ[i]? with
  | some (.o xs) => ok (!xs.isEmpty)
  | _ => none
theorem oTr (i : Nat) (hN : X.N[i]? = some x := by rfl) (hv : Vis X.env.scope x := by first | exact Or.inl rfl | exact Or.inr (Or.inl rfl) | exact Or.inr (Or.inr rfl)) (hd : (x == ("__debug__" : Str)) = false := by decide)
    (hcd : (x == ("__classdict__" : Str)) = false := by decide) (he : ∀ whole, isTrue (.Name x p) X.env whole = (do let v ← whole; standAt (Expr.Name x p).pos; holding [v] (truthy v)) := by intro _; rfl) : PB X W (.Name x p) (fOtr i) := by
  refine PT.conseq (pt_truth (pe_var (i := i) hN hv hd hcd) he) fun σ H Q ⟨F0, H0, F, τ, r, s, hf, q⟩ => ?_
  unfold fOtr at hf
  split at hf
  · rename_i xs hx
    cases hf
    obtain ⟨p, vs, a, b, c, d, z⟩ := s.own i xs hx
    exact ⟨_, a, _, .inl ⟨_, .of b, rfl⟩, q _ F H (.refl s.fh) (by rw [z.isEmpty])⟩
  · cases hf
/-! ### x = l.pop(e) -/
def gPop (ix il : Nat) (f : Ta → R D) : Ta → Option Out := fun τ => match τ[il]? with
  | some (.o xs) => bndS (f τ) τ fun k => (match k with
    | .int n => if n.natAbs < 2 ^ 62 then (seqIndex? n xs.length).bind fun j => (xs[j]?).map fun y => .nx ((τ.set il (.o (xs.eraseIdx j))).set ix (.d y)) else none
    | _ => none)
  | _ => none
theorem oPop (ix il : Nat) (he : PD X W e f) (hN : X.N.Nodup) {p3 p4 p5 : Pos} (hx : X.N[ix]? = some x := by rfl) (hl : X.N[il]? = some l := by rfl)
    (hvl : Vis X.env.scope l := by first | exact Or.inl rfl | exact Or.inr (Or.inl rfl) | exact Or.inr (Or.inr rfl)) (hdl : (l == ("__debug__" : Str)) = false := by decide) (hcdl : (l == ("__classdict__" : Str)) = false := by decide)
    (hlx : Loc X.env.scope x := by first | exact Or.inl rfl | exact Or.inr rfl) (hse : starEach [e] X.env = (false, eval e X.env) :: starEach [] X.env := by rfl)
    (hfew : ((backTo p5 (starEach [e] X.env)).all (fun x => !x.1) && (backToKw p5 (keywordEach [] X.env)).all (fun x => x.1.isSome)
      && decide ([e].length + ([] : List Keyword).length + (if ([] : List Keyword).isEmpty then 0 else 1) < 30)) = true := by rfl)
    (hline : (p4.endLine == p5.line) = true := by rfl)
    (hs : swapsWith (.Call (.Attribute (.Name l p3) "pop" p4) [e] [] p5) (some (.Name x p2)) pos.line X.env = pure false := by rfl)
    (hf : X.fn x = true ∨ X.env.scope.names.lookup x = some .local := by first | exact .inl rfl | exact .inr rfl | assumption) :
    PD1 X W (.Assign [.Name x p2] (.Call (.Attribute (.Name l p3) "pop" p4) [e] [] p5) pos) (gPop ix il f) := by
  refine PS.conseq (ps_set hN hx hlx (pe_bm PySem.F.plainAttrs_list PySem.F.slot_list_pop PySem.F.type_list_pop mt_popAt (pe_var (i := il) hl hvl hdl hcdl) (pa_cons he pa_nil hse) rfl hfew hline hse) hs hf) fun D σ H ⟨F0, H0, F, τ, o, s, hf, q⟩ => ?_
  unfold gPop at hf
  split at hf
  · rename_i xs ex
    obtain ⟨p, vs, a, b, c, d, z⟩ := s.own il xs ex
    refine ⟨_, a, .inl ⟨rfl, _, .of b⟩, tX_S s hf q fun k w F1 H1 e1 s1 dw hf q => ?_⟩
    cases dw with
    | int n =>
      simp only at hf
      split at hf
      · rename_i hc
        obtain ⟨j, ej, hf⟩ := Option.bind_eq_some_iff.mp hf
        obtain ⟨yd, eyd, rfl⟩ := Option.map_eq_some_iff.mp hf
        have z1 := z.mono e1.ff
        obtain ⟨yv, eyv, dyv⟩ := z1.get eyd
        refine ⟨p, vs, n, j, yv, rfl, rfl, e1.hh _ _ b, by omega, by omega, by rw [z.length]; exact ej, eyv, ?_⟩
        have s2 := s1.mut ex a (z1.eraseIdx j)
        exact q F1 _ _ (Same.refl _) (s2.setD ix dyv)
      · cases hf
    | _ => cases hf
  · cases hf
/-! ### l.insert(i, y) -/
def gIns (il : Nat) (f : Ta → R (List D)) : Ta → Option Out := fun τ => match τ[il]? with
  | some (.o xs) => bndS (f τ) τ fun ds => (match ds with
    | [.int n, y] => if 0 ≤ n ∧ n.natAbs < 2 ^ 62 ∧ xs.length < 100000 then some (.nx (τ.set il (.o (xs.take n.toNat ++ [y] ++ xs.drop n.toNat)))) else none
    | _ => none)
  | _ => none
theorem oIns (i : Nat) {e2 : Expr} {fs : Ta → R (List D)} (he : PAs X W [e, e2] fs) (hN : X.N[i]? = some x := by rfl) (hv : Vis X.env.scope x := by first | exact Or.inl rfl | exact Or.inr (Or.inl rfl) | exact Or.inr (Or.inr rfl)) (hd : (x == ("__debug__" : Str)) = false := by decide)
    (hcd : (x == ("__classdict__" : Str)) = false := by decide) {p3 p4 p5 : Pos} (hse : starEach [e, e2] X.env = (false, eval e X.env) :: starEach [e2] X.env := by rfl)
    (hfew : ((backTo p5 (starEach [e, e2] X.env)).all (fun x => !x.1) && (backToKw p5 (keywordEach [] X.env)).all (fun x => x.1.isSome)
      && decide ([e, e2].length + ([] : List Keyword).length + (if ([] : List Keyword).isEmpty then 0 else 1) < 30)) = true := by rfl)
    (hline : (p4.endLine == p5.line) = true := by rfl) (hpl : (backTo p5 (starEach [e2] X.env)).any (·.1) = false := by rfl)
    (hs : swapsWith (.Call (.Attribute (.Name x p3) "insert" p4) [e, e2] [] p5) none pos.line X.env = pure false := by rfl) :
    PD1 X W (.Expr (.Call (.Attribute (.Name x p3) "insert" p4) [e, e2] [] p5) pos) (gIns i fs) := by
  refine PS.conseq (ps_expr (pe_bm PySem.F.plainAttrs_list PySem.F.slot_list_insert PySem.F.type_list_insert mt_insert (pe_var (i := i) hN hv hd hcd) he rfl hfew hline hse hpl) hs) fun D σ H ⟨F0, H0, F, τ, o, s, hf, q⟩ => ?_
  unfold gIns at hf
  split at hf
  · rename_i xs hx
    obtain ⟨p, vs, a, b, c, d, z⟩ := s.own i xs hx
    refine ⟨_, a, .inl ⟨rfl, _, .of b⟩, tX_S s hf q fun k w F1 H1 x1 s1 dw hf q => ?_⟩
    split at hf
    · rename_i n y
      cases dw with
      | cons d1 d2 =>
        cases d2 with
        | cons d2 d3 =>
          cases d3
          cases d1
          split at hf
          · rename_i hc
            cases hf
            refine ⟨p, vs, n, _, rfl, rfl, x1.hh _ _ b, by rw [z.length]; exact lt5 hc.2.2, hc.1, by omega, ?_⟩
            have z1 := z.mono x1.ff
            exact q F1 _ σ (Same.refl _) (s1.mut hx a (((z1.take n.toNat).append (.cons d2 .nil)).append (z1.drop n.toNat)))
          · cases hf
    · cases hf
  · cases hf
/-! ### l[i], l[j] = e -/
def gPut2 (i : Nat) (fe fx fy : Ta → R D) : Ta → Option Out := fun τ => bndS (fe τ) τ fun d => match d with
  | .tuple [a, b] => (match τ[i]? with
    | some (.o xs) => bndS (fx τ) τ fun k => (match k with
      | .int n => (ixN xs.length n).bind fun j => bndS (fy (τ.set i (.o (xs.set j a)))) (τ.set i (.o (xs.set j a))) fun k2 => (match k2 with
        | .int m => (ixN xs.length m).map fun l => .nx (τ.set i (.o ((xs.set j a).set l b)))
        | _ => none)
      | _ => none)
    | _ => none)
  | _ => none
theorem set_set_o (τ : Ta) (i : Nat) (u v : SV) : (τ.set i u).set i v = τ.set i v := by
  rw [List.set_set]
theorem oPut2 (i : Nat) {fe fx fy : Ta → R D} (he : PD X W e fe) (hx : PD X W a fx) (hy : PD X W b fy) {q1 q2 q3 q4 q5 : Pos} {kt : Nat} (hN : X.N[i]? = some x := by rfl) (hv : Vis X.env.scope x := by first | exact Or.inl rfl | exact Or.inr (Or.inl rfl) | exact Or.inr (Or.inr rfl)) (hd : (x == ("__debug__" : Str)) = false := by decide)
    (hcd : (x == ("__classdict__" : Str)) = false := by decide) (hc : X.calm = true := by rfl)
    (ha : ∀ v, assign (.Subscript (.Name x q1) a q2) X.env v = (do
      let ov ← holding [v] (eval (.Name x q1) X.env)
      let iv ← holding [v, ov] (eval a X.env)
      standAt q2
      holding [v, ov, iv] (setItem ov iv v)
      release [v, ov, iv] []) := by intro _; rfl)
    (hb : ∀ v, assign (.Subscript (.Name x q3) b q4) X.env v = (do
      let ov ← holding [v] (eval (.Name x q3) X.env)
      let iv ← holding [v, ov] (eval b X.env)
      standAt q4
      holding [v, ov, iv] (setItem ov iv v)
      release [v, ov, iv] []) := by intro _; rfl)
    (h2 : (assignEach [.Subscript (.Name x q1) a q2, .Subscript (.Name x q3) b q4] X.env).map (·.2) = assign (.Subscript (.Name x q1) a q2) X.env :: (assignEach [.Subscript (.Name x q3) b q4] X.env).map (·.2) := by rfl)
    (h3 : (assignEach [.Subscript (.Name x q3) b q4] X.env).map (·.2) = assign (.Subscript (.Name x q3) b q4) X.env :: (assignEach [] X.env).map (·.2) := by rfl)
    (hn : (assignEach [.Subscript (.Name x q1) a q2, .Subscript (.Name x q3) b q4] X.env).length = 2 := by rfl) (hst : (assignEach [.Subscript (.Name x q1) a q2, .Subscript (.Name x q3) b q4] X.env).findIdx? (·.1) = none := by rfl)
    (hs : swapsWithSole [.Tuple [.Subscript (.Name x q1) a q2, .Subscript (.Name x q3) b q4] kt q5] e pos.line X.env = pure false := by rfl) (hw : swappedStores [.Tuple [.Subscript (.Name x q1) a q2, .Subscript (.Name x q3) b q4] kt q5] e X.env = pure none := by rfl)
    (h1 : (assignEach [.Tuple [.Subscript (.Name x q1) a q2, .Subscript (.Name x q3) b q4] kt q5] X.env).map (·.2) = [assign (.Tuple [.Subscript (.Name x q1) a q2, .Subscript (.Name x q3) b q4] kt q5) X.env] := by rfl) :
    PD1 X W (.Assign [.Tuple [.Subscript (.Name x q1) a q2, .Subscript (.Name x q3) b q4] kt q5] e pos) (gPut2 i fe fx fy) := by
  refine PS.conseq (ps_asg he (pg_tup hc (pgs_cons (pg_sub (pe_var (i := i) hN hv hd hcd) hx set_list ha) (pgs_cons (pg_sub (pe_var (i := i) hN hv hd hcd) hy set_list hb) pgs_nil h3) h2) hn hst) hs hw h1) fun D σ H ⟨F0, H0, F, τ, o, s, hf, q⟩ => ?_
  refine tX_S s hf q fun d v F1 H1 x1 s1 dv hf q => ?_
  split at hf
  · rename_i da db
    split at hf
    · rename_i xs ex
      cases dv with
      | tup ht hall =>
        cases hall with
        | cons d1 d2 =>
          cases d2 with
          | cons d2 d3 =>
            cases d3
            obtain ⟨p, vs, ap, bp, _, _, z⟩ := s1.own i xs ex
            refine ⟨_, _, rfl, sameT x1.fh ht, rfl, _, _, rfl, _, ap, tX_S s1 hf q fun k w F2 H2 x2 s2 dw hf q => ?_⟩
            cases dw with
            | int n =>
              obtain ⟨j, ej, hf⟩ := Option.bind_eq_some_iff.mp hf
              refine ⟨p, vs, n, j, rfl, rfl, x2.hh _ _ bp, by rw [z.length]; exact ej, ?_⟩
              have z2 := z.mono x2.ff
              have s3 := s2.mut ex ap (z2.set (d1.mono x2.ff) j)
              refine ⟨_, _, rfl, _, ap, tX_S s3 hf q fun k2 w2 F4 H4 x4 s4 dw2 hf q => ?_⟩
              cases dw2 with
              | int m =>
                obtain ⟨l, el, rfl⟩ := Option.map_eq_some_iff.mp hf
                refine ⟨p, _, m, l, rfl, rfl, x4.hh _ _ upd_same, by rw [List.length_set, z.length]; exact el, rfl, ?_⟩
                have hi : i < τ.length := (List.getElem?_eq_some_iff.mp ex).1
                have s5 := s4.mut (ds := (xs.set j da).set l db) (List.getElem?_set_self hi) ap (((z2.mono x4.ff).set ((d1.mono x2.ff).mono x4.ff) j).set ((d2.mono x2.ff).mono x4.ff) l)
                rw [set_set_o] at s5
                exact q F4 _ σ (Same.refl _) s5
              | _ => cases hf
            | _ => cases hf
    · cases hf
  · cases hf
/-! ### a new list: xs + ys -/
def fAddL (fa fb : Ta → R D) : Ta → R (List D) := fun τ => bnd (fa τ) fun x => bnd (fb τ) fun y => match x, y with
  | .list xs, .list ys => if xs.length + ys.length ≤ 100000 then ok (xs ++ ys) else none
  | _, _ => none
theorem lAddL (ha : PD X W a fa) (hb : PD X W b fb) : PL X W (.BinOp a .Add b pos) (fAddL fa fb) := by
  refine PE.conseq (pe_op op_cat ha hb) fun σ H Q ⟨F0, H0, F, τ, r, s, hf, q⟩ => ?_
  unfold fAddL at hf
  rcases bnd_some hf with ⟨n, e1, rfl⟩ | ⟨d, e1, hf⟩
  · exact ⟨F0, H0, F, τ, _, s, e1, q⟩
  refine ⟨F0, H0, F, τ, _, s, e1, fun v F1 H1 x1 dv => ?_⟩
  rcases bnd_some hf with ⟨n, e2, rfl⟩ | ⟨d2, e2, hf⟩
  · exact ⟨F0, H0, F1, τ, _, s.go x1, e2, fun F' H' x' => q F' H' (x1.trans x')⟩
  refine ⟨F0, H0, F1, τ, _, s.go x1, e2, fun w F2 H2 x2 dw => ?_⟩
  split at hf
  · rename_i xs ys
    cases dv with
    | lst h1 h2 =>
      cases dw with
      | lst h3 h4 =>
        split at hf
        · rename_i hl
          cases hf
          refine ⟨_, _, _, _, rfl, rfl, x2.hh _ _ (x1.fh _ _ h1), x2.fh _ _ h3, by rw [h2.length, h4.length]; exact small5 hl, fun p hp => ?_⟩
          exact q p _ F2 _ ((x1.trans x2).trans (Ext.newO x2.fh hp)) (x1.hh.free (x2.hh.free hp)) upd_same (x2.fh.free hp) ((h2.mono x2.ff).append h4)
        · cases hf
  · cases hf
end
end DL
set_option Elab.async false
set_option linter.all false
set_option maxRecDepth 100000
set_option maxHeartbeats 4000000
namespace DL
open PySem PySem.Spec PyProof.Rows L2

/-! ### sorted(xs), xs a list or a tuple of alike data -/
section
variable {prog : Program} {w : World} {A : Around} {E : Value → Shared → Prop} {s : Shared}
theorem collect_tup {l : Addr} {vs : List Value} {Q : List Value → Shared → Prop} (hl : s.heap.IsTuple l vs.toArray)
    (h : Q vs { s with heap := (s.heap.push (seqObj "list" #[] 0)).update s.heap.objs.size (Obj.mapSeq (· ++ vs.toArray)) }) (hsz : vs.length ≤ sizeLine) :
    wpAny (model prog w) A (collect (.ref l)) Q E s := by
  obtain ⟨o, ho, hc, n, hd⟩ := id hl
  unfold collect
  refine wpAny_bind (wpAny_runValue (codeAny_builtin entry_proto_collect' ?_))
  show wpAny _ _ (do again (.builtin "list.__iadd__" ⟨[← newList [], .ref l], []⟩)) _ _ s
  refine wpAny_bind (wpAny_newList (wpAny_pure ⟨Code.quiet_builtin _ (by decide +kernel), codeAny_builtin entry_list_iadd' ?_⟩))
  show wpAny _ _ (Builtin.List.listExtendWith (.ref s.heap.objs.size) (.ref l) (.ref s.heap.objs.size)) _ _ { s with heap := s.heap.push (seqObj "list" #[] 0) }
  unfold Builtin.List.listExtendWith
  have ho' : (s.heap.push (seqObj "list" #[] 0)).get? l = some o := Heap.get?_push_of_some _ ho
  refine wpAny_bind (wpAny_typeOf (T := "tuple") ⟨o, ho', hc⟩ ?_)
  have ht : (Value.type "tuple" == Value.type "tuple") = true := by rfl
  rw [if_pos (by rw [ht]; simp)]
  refine wpAny_bind (listItems_at ho' hd ?_)
  refine wpAny_bind (listItems_at (xs := #[]) (n := 0) (Heap.get?_push_size _ rfl) rfl ?_)
  rw [if_neg (by simp)]
  refine wpAny_bind (listUpdate_at (xs := #[]) (n := 0) (Heap.get?_push_size _ rfl) rfl ?_ (Nat.zero_le _) (by show (#[] ++ vs.toArray).size ≤ sizeLine + 1; simp only [Array.size_append, List.size_toArray, List.length_nil]; omega))
  refine wpAny_pure ?_
  show wpAny (model prog w) A (do
      let o ← load s.heap.objs.size
      match o.data with
      | .seq xs _ => pure xs.toList
      | _ => unsupported "internal:collect") Q E { s with heap := (s.heap.push (seqObj "list" #[] 0)).update s.heap.objs.size (Obj.mapSeq (· ++ vs.toArray)) }
  refine wpAny_bind (wpAny_load (get?_update_seq (Heap.get?_push_size _ rfl) _) ?_)
  show wpAny _ _ (pure ((#[] : Array Value) ++ vs.toArray).toList) Q E _
  rw [show ((#[] : Array Value) ++ vs.toArray).toList = vs by simp]
  exact wpAny_pure h
/-- sorted of a list or a tuple -/
theorem sortedK {k : Bool} {l : Addr} {vs : List Value} {β : Type} {bs : List β} {enc : β → PyData} {R : Value → β → Prop} {Q : Value → Shared → Prop} (hl : IsSq k s.heap l vs.toArray) (e : PySem.W.EachIs R vs bs) (er : PySem.W.EachIs (fun v b => ∃ as, Reads s.heap v (enc b) as) vs bs) (hal : PySem.W.AllAlike (bs.map enc)) (hk : PySem.W.Sortable (bs.map enc)) (hL : bs.length ≤ sizeLine)
    (hu : ∀ b, b ∈ bs → A.units + 2 + (enc b).depth < cLine) (h : ∀ out, out.length = bs.length → PySem.W.EachIs R out (bs.mergeSort (PySem.W.dataLe false enc)) → Q (.ref (s.heap.objs.size + 1)) { s with heap := sortedAll s.heap vs (List.toArray out) }) :
    wpAny (model prog w) A (call (.builtin "sorted") [.ref l]) Q E s := by
  cases k with
  | true => exact PySem.W.sorted_data hl e er hal hk hL hu h
  | false =>
    have er' : PySem.W.EachIs (fun v b => ∃ as, Reads (PySem.W.sortingHeap (PySem.W.copyHeap s.heap vs) (s.heap.objs.size + 1) vs) v (enc b) as) vs bs := er.mono fun _ _ ⟨as, r⟩ => ⟨as, PyProof.Rows.Reads.keeps (fun _ _ => PySem.W.sorting_copy_old) r⟩
    have hLv : vs.length ≤ sizeLine := by rw [e.length]; exact hL
    refine Calls.call_function_entry kind_sorted plain_sorted entry_sorted (args_sorted1 _) ?_
    unfold Builtin.«sorted»
    refine wpAny_bind (m := checkCount "sorted" 1 1 _) (wpAny_pure ?_)
    refine wpAny_bind (collect_tup hl ?_ hLv)
    refine wpAny_bind (wpAny_newList ?_ hLv)
    have hsz : ((s.heap.push (seqObj "list" #[] 0)).update s.heap.objs.size (Obj.mapSeq (· ++ vs.toArray))).objs.size = s.heap.objs.size + 1 := by
      rw [Heap.size_update, size_push']
    show wpAny _ _ _ _ _ { s with heap := PySem.W.copyHeap s.heap vs }
    rw [hsz]
    refine wpAny_bind (wpAny_holding (wpAny_call_entry slot_list_sort ⟨_, PySem.W.copyHeap_at s.heap vs, rfl⟩ entry_list_sort ?body (args_list_sort _)))
    case body =>
      show wpAny (model prog w) A.in1.in1 (Builtin.«list.sort» ⟨[.ref (s.heap.objs.size + 1)], []⟩) _ _ _
      refine wpAny_mono (PySem.W.list_sort_vals (s := { s with heap := PySem.W.copyHeap s.heap vs }) (P := fun f s' => f = .done (.ret .none) ∧ Q (.ref (s.heap.objs.size + 1)) s') (PySem.W.copyHeap_at s.heap vs) (PySem.W.SortsAt.data (s := { s with heap := PySem.W.sortingHeap (PySem.W.copyHeap s.heap vs) (s.heap.objs.size + 1) vs }) (PySem.W.each_map (R := fun v d => ∃ as, Reads (PySem.W.sortingHeap (PySem.W.copyHeap s.heap vs) (s.heap.objs.size + 1) vs) v d as) enc er') hal hk (PySem.W.bound_map hu)) hLv
        ⟨rfl, h _ (by rw [PySem.W.sortVals_length false rfl]; exact e.length) (PySem.W.sortVals_data false e er' hal)⟩) (fun f s' hf => ?_) fun _ _ e => e
      obtain ⟨rfl, hq⟩ := hf
      exact ⟨_, rfl, wpAny_pure ⟨_, rfl, hq⟩⟩
end
def tup1 : D → Bool
  | .tuple (_ :: _) => true
  | _ => false
def noTup : D → Bool
  | .tuple _ => false
  | .none => false
  | _ => true
def okSort (ds : List D) : Bool := ds.all (fun d => ds.all fun d' => PySem.W.alike d d') && (ds.all tup1 || ds.all noTup) && SeqAt.shaped (.list ds) && decide (ds.length ≤ 100000)
def srtD (ds : List D) : List D := ds.mergeSort (PySem.W.dataLe false id)
def sortD : D → Option D
  | .list ds => if okSort ds then some (.list (srtD ds)) else none
  | .tuple ds => if okSort ds then some (.list (srtD ds)) else none
  | _ => none
theorem okSort_alike {ds : List D} (h : okSort ds = true) : PySem.W.AllAlike ds ∧ PySem.W.Sortable ds ∧ SeqAt.shaped (.list ds) = true ∧ ds.length ≤ 100000 := by
  unfold okSort at h
  simp only [Bool.and_eq_true, Bool.or_eq_true, List.all_eq_true, decide_eq_true_eq] at h
  obtain ⟨⟨⟨h1, h2⟩, h3⟩, h4⟩ := h
  refine ⟨fun d hd d' hd' => h1 d hd d' hd', ?_, h3, h4⟩
  rcases h2 with h2 | h2
  · refine .inl fun d hd => ?_
    have := h2 d hd
    unfold tup1 at this
    split at this
    · exact ⟨_, _, rfl⟩
    · cases this
  · refine .inr fun d hd => ?_
    have := h2 d hd
    constructor
    · rintro rfl; cases this
    · rintro xs rfl; cases this
section
variable {X : Cx} {K : PySem.W.Frag}
theorem each_pairs {α β γ : Type} {R : α → β → Prop} {S : α → γ → Prop} : ∀ {as : List α} {bs : List β} {cs : List γ}, PySem.W.EachIs R as bs → PySem.W.EachIs S as cs → PySem.W.EachIs (fun a (p : β × γ) => R a p.1 ∧ S a p.2) as (bs.zip cs)
  | _, _, _, .nil, .nil => .nil
  | _, _, _, .cons h t, .cons h' t' => .cons ⟨h, h'⟩ (each_pairs t t')
theorem dq_zip {F : Hp} : ∀ {vs : List V} {ds : List D}, DqAll K F vs ds → ∀ p ∈ vs.zip ds, Dq K F p.1 p.2
  | _, _, .nil, p, h => by simp at h
  | _, _, .cons a t, p, h => by
    rcases List.mem_cons.mp (by simpa using h) with e | e
    · rw [e]; exact a
    · exact dq_zip t p e
theorem each_vals : ∀ {vs : List V} {us : List Value} {ds : List D}, Vals vs us → vs.length = ds.length → PySem.W.EachIs (fun u (p : V × D) => RelV p.1 u) us (vs.zip ds)
  | _, _, [], .nil, _ => .nil
  | _, _, d :: ds, .cons r t, h => .cons r (each_vals t (by simpa using h))
  | _, _, [], .cons _ _, h => by simp at h
  | _, _, _ :: _, .nil, h => by simp at h
theorem vals_each : ∀ {us : List Value} {ps : List (V × D)}, PySem.W.EachIs (fun u (p : V × D) => RelV p.1 u) us ps → Vals (ps.map (·.1)) us
  | _, _, .nil => .nil
  | _, _, .cons r t => .cons r (vals_each t)
theorem dq_map {F : Hp} : ∀ (ps : List (V × D)), (∀ p ∈ ps, Dq K F p.1 p.2) → DqAll K F (ps.map (·.1)) (ps.map (·.2))
  | [], _ => .nil
  | p :: ps, h => .cons (h p List.mem_cons_self) (dq_map ps fun q hq => h q (List.mem_cons_of_mem _ hq))
theorem map_sort {α β : Type} (g : α → β) (le : β → β → Bool) (xs : List α) : (xs.mergeSort fun a b => le (g a) (g b)).map g = (xs.map g).mergeSort le := by
  rw [List.map_mergeSort (r := fun a b => le (g a) (g b)) (s := le) (f := g) (fun _ _ _ _ => rfl)]
theorem depth_mem : ∀ {xs : List D} {d : D}, d ∈ xs → d.depth ≤ PyData.depthAll xs
  | y :: ys, d, h => by
    rw [PyData.depthAll]
    rcases List.mem_cons.mp h with rfl | h
    · exact Nat.le_max_left _ _
    · exact Nat.le_trans (depth_mem h) (Nat.le_max_right _ _)
theorem cSorted (hu : X.A.units + 70 < cLine) : CallR X (.builtin "sorted") (rDs X.K fun ds => match ds with | [d] => sortD d | _ => none) := by
  intro pins s σ H vs us Q I r h
  obtain ⟨F, ds, z, sm, dv, e, q⟩ := h
  cases dv with
  | nil => cases e
  | @cons v vs d ds dv dt =>
    cases dt with
    | cons _ _ => cases e
    | nil =>
      simp only at e
      obtain ⟨xs, hd, ho, rfl⟩ : ∃ xs, (d = .list xs ∨ d = .tuple xs) ∧ okSort xs = true ∧ z = .list (srtD xs) := by
        unfold sortD at e
        split at e
        · rename_i xs
          split at e
          · rename_i ho; cases e; exact ⟨xs, .inl rfl, ho, rfl⟩
          · cases e
        · rename_i xs
          split at e
          · rename_i ho; cases e; exact ⟨xs, .inr rfl, ho, rfl⟩
          · cases e
        · cases e
      obtain ⟨hal, hsb, hsh, hln⟩ := okSort_alike ho
      obtain ⟨a, k, ws, rfl, hq, da⟩ := dv.sq (show seqD d = some xs by rcases hd with rfl | rfl <;> rfl)
      have hlay := SeqAt.canLay_of_shaped hsh
      have hdep : PyData.depthAll xs ≤ 64 := by
        unfold SeqAt.shaped at hsh
        rw [Bool.and_eq_true, decide_eq_true_eq] at hsh
        have := hsh.2
        rw [PyData.depth] at this
        omega
      have hq' := sqK_same sm hq
      obtain ⟨its, rv, p, la⟩ := sqK_get I hq'
      rw [Vals.ref1 r]
      have hwl := da.length
      obtain ⟨as, h4⟩ := Dp.readsAll I xs _ its ((da.mono sm).dp (by simpa [PyData.canLay0] using hlay)) rv
      have e2 : PySem.W.EachIs (fun u (p : V × D) => ∃ as, Reads s.heap u p.2 as) its (ws.zip xs) := by
        have z := PySem.W.readsAll_each (fun p : V × D => p.2) (bs := ws.zip xs) (vs := its) (as := as) (by rw [List.map_snd_zip (by omega)]; exact h4)
        exact z
      have e1 := each_vals rv hwl
      have hm : (ws.zip xs).map (fun p => p.2) = xs := List.map_snd_zip (by omega)
      refine sortedK (k := k) (R := fun u (p : V × D) => RelV p.1 u) (enc := fun p => p.2) p e1 e2 (by rw [hm]; exact hal) (by rw [hm]; exact hsb) (by rw [List.length_zip]; exact small5 (by omega)) (fun b hb => ?_) fun out hlo heo => ?_
      · have hb2 : b.2 ∈ xs := (List.of_mem_zip hb).2
        have hle : b.2.depth ≤ PyData.depthAll xs := by
          exact depth_mem hb2
        omega
      · obtain ⟨ep, he'⟩ := PyProof.Rows.sortedAll_at s.heap its out.toArray
        have hv := vals_each heo
        have hlen : (((ws.zip xs).mergeSort (PySem.W.dataLe false fun p => p.2)).map (·.1)).length ≤ sizeLine := by
          rw [List.length_map, List.length_mergeSort, List.length_zip]
          exact small5 (by omega)
        have hfree := I.hok.fresh (Nat.le_succ s.heap.objs.size)
        refine ⟨.ref _, upd H (s.heap.objs.size + 1) (.lst (((ws.zip xs).mergeSort (PySem.W.dataLe false fun p => p.2)).map (·.1))), I.laid (t' := s.toks) (fun _ _ => PyProof.Rows.sortedAll_old) (Nat.le_succ _) ⟨hlen, out, ep, hv, he'⟩, rfl, ?_⟩
        refine newL q sm hfree ?_
        have hs2 : srtD xs = ((ws.zip xs).mergeSort (PySem.W.dataLe false fun p => p.2)).map (·.2) := by
          have := map_sort (fun p : V × D => p.2) (PySem.W.dataLe false id) (ws.zip xs)
          rw [hm] at this
          exact this.symm
        rw [hs2]
        exact dq_map _ fun p hp => dq_zip da p ((List.mergeSort_perm _ _).mem_iff.mp hp)
end
section
variable {X : Cx} {W : WX} {e : Expr} {f : Ta → R D} {pos p : Pos}
theorem dSorted (hu : X.A.units + 70 < cLine) (he : PD X W e f) (hm : X.mg "sorted" = none) (hg : Gl X "sorted" := by rfl) (hs : starEach [e] X.env = (false, eval e X.env) :: starEach [] X.env := by rfl) : PD X W (.Call (.Name "sorted" p) [e] [] pos) (fU sortD f) := by
  have := dCallB (X := X) (W := W) (pos := pos) (p := p) (cSorted hu) hm bt_sorted (aCons he aNil hs) hg (by decide) (by decide) hs
  have e1 : fN (fun ds => match ds with | [d] => sortD d | _ => none) (fCons f fNil) = fU sortD f := by
    funext τ
    simp only [fN, fU, fCons, fNil]
    cases f τ with
    | none => rfl
    | some r => cases r <;> rfl
  rw [← e1]
  exact this
end
end DL
set_option Elab.async false
set_option linter.all false
set_option maxRecDepth 100000
set_option maxHeartbeats 4000000
namespace DL
open PySem PySem.Spec PyProof.Rows L2

theorem room70 {k : Nat} {A : Around} (r : Room k A) : A.units + 70 < cLine := by have := r.un; omega
/-! ### own dicts, keys ints -/
def lkK (kvs : List (Int × D)) (n : Int) : Option D := (kvs.find? fun p => decide (p.1 = n)).map (·.2)
def putKd (kvs : List (Int × D)) (n : Int) (d : D) : List (Int × D) := if kvs.any (fun p => decide (p.1 = n)) = true then kvs.map (fun p => if p.1 = n then (p.1, d) else p) else kvs ++ [(n, d)]
def dicD (kvs : List (Int × D)) : D := .dict ((.bool true, .none) :: kvs.map fun p => (.int p.1, p.2))
section
variable {K : PySem.W.Frag} {F H H0 F0 : Hp} {σ : St} {τ : Ta}
theorem KvR.get {l : List (Key × V)} {kvs : List (Int × D)} (h : KvR K F l kvs) (n : Int) : (lkK kvs n = none ∧ valV l (.inl n) = none) ∨ ∃ d v, lkK kvs n = some d ∧ valV l (.inl n) = some v ∧ Dq K F v d := by
  induction h with
  | nil => exact .inl ⟨rfl, rfl⟩
  | @cons m v d l kvs a t ih =>
    by_cases e : m = n
    · subst e
      exact .inr ⟨d, v, by simp [lkK], valV_pos rfl, a⟩
    · have e' : ¬ ((.inl m : Key) = .inl n) := fun z => e (by injection z)
      rw [valV_neg (p := ((.inl m : Key), v)) e', show lkK ((m, d) :: kvs) n = lkK kvs n by simp [lkK, e]]
      exact ih
theorem KvR.any {l : List (Key × V)} {kvs : List (Int × D)} (h : KvR K F l kvs) (n : Int) : (l.any fun kv => decide (kv.1 = (.inl n : Key))) = kvs.any fun p => decide (p.1 = n) := by
  induction h with
  | nil => rfl
  | @cons m v d l kvs a t ih =>
    rw [List.any_cons, List.any_cons, ih]
    congr 1
    by_cases e : m = n
    · simp [e]
    · rw [decide_eq_false e, decide_eq_false fun z => e (by injection z)]
theorem KvR.repl {l : List (Key × V)} {kvs : List (Int × D)} (h : KvR K F l kvs) (n : Int) {v : V} {d : D} (hv : Dq K F v d) : KvR K F (l.map fun kv => if kv.1 = .inl n then (kv.1, v) else kv) (kvs.map fun p => if p.1 = n then (p.1, d) else p) := by
  induction h with
  | nil => exact .nil
  | @cons m v' d' l kvs a t ih =>
    rw [List.map_cons, List.map_cons]
    by_cases e : m = n
    · rw [if_pos (by rw [e]), if_pos e]; exact .cons hv ih
    · rw [if_neg fun z => e (by injection z), if_neg e]; exact .cons a ih
theorem KvR.snoc {l : List (Key × V)} {kvs : List (Int × D)} (h : KvR K F l kvs) (n : Int) {v : V} {d : D} (hv : Dq K F v d) : KvR K F (l ++ [(.inl n, v)]) (kvs ++ [(n, d)]) := by
  induction h with
  | nil => exact .cons hv .nil
  | cons a t ih => exact .cons a ih
theorem KvR.put {l : List (Key × V)} {kvs : List (Int × D)} (h : KvR K F l kvs) (n : Int) {v : V} {d : D} (hv : Dq K F v d) : KvR K F (putK l (.inl n) v) (putKd kvs n d) := by
  unfold putK putKd
  rw [h.any n]
  split
  · exact h.repl n hv
  · exact h.snoc n hv
theorem KvR.keys {l : List (Key × V)} {kvs : List (Int × D)} (h : KvR K F l kvs) : l.map (·.1) = (kvs.map (·.1)).map Sum.inl := by
  induction h with
  | nil => rfl
  | cons a t ih => simp [ih]
theorem KvR.vals {l : List (Key × V)} {kvs : List (Int × D)} (h : KvR K F l kvs) : DqAll K F (l.map (·.2)) (kvs.map (·.2)) := by
  induction h with
  | nil => exact .nil
  | cons a t ih => exact .cons a ih
theorem zip_kvs : ∀ kvs : List (Int × D), (kvs.map (·.1)).zipWith (fun k d => (PyData.int k, d)) (kvs.map (·.2)) = kvs.map fun p => (.int p.1, p.2)
  | [] => rfl
  | p :: kvs => by simp [zip_kvs kvs]
theorem KvR.len {l : List (Key × V)} {kvs : List (Int × D)} (h : KvR K F l kvs) : l.length = kvs.length := by
  induction h with
  | nil => rfl
  | cons a t ih => simp [ih]
theorem KvR.dq {a : Addr} {l : List (Key × V)} {kvs : List (Int × D)} (h : KvR K F l kvs) (e : F a = some (.dK l)) : Dq K F (.ref a) (dicD kvs) := by
  have := Dq.dic e h.keys h.vals (by simp)
  rw [zip_kvs] at this
  exact this
theorem StR.dic (s : StR K F0 H0 F H σ τ) {i : Nat} {kvs : List (Int × D)} (h : τ[i]? = some (.k kvs)) : ∃ p l, σ[i]? = some (some (.ref p)) ∧ H p = some (.dK l) ∧ F p = none ∧ H0 p = none ∧ KvR K F l kvs := by
  obtain ⟨A, W⟩ := s.ows
  obtain ⟨p, l, e1, e2, e3, e4⟩ := W.k i kvs h
  have := W.fr i (.inr (.inr ⟨kvs, h⟩)) p (by rw [e1]; simp)
  exact ⟨p, l, e2, e3, this.1, this.2, e4⟩
/-- a new own dict -/
theorem StR.setK {F1 H1 : Hp} {p : Addr} {l : List (Key × V)} {kvs : List (Int × D)} (s : StR K F0 H0 F H σ τ) (i : Nat) (x1 : Ext F H F1 H1) (n : H p = none) (hp : H1 p = some (.dK l)) (hF : F1 p = none) (h : KvR K F1 l kvs) :
    StR K F0 H0 F1 H1 (σ.set i (some (.ref p))) (τ.set i (.k kvs)) where
  ext := s.ext.trans x1
  len := by rw [List.length_set, List.length_set]; exact s.len
  dat := fun j x e => by
    rcases set_get e with ⟨_, e', _⟩ | ⟨hj, e'⟩
    · cases e'
    · rw [List.getElem?_set_ne hj]
      exact (s.go x1).dat j x e'
  ows := by
    obtain ⟨A, W⟩ := s.ows
    have nA : ∀ j, Own τ j → p ∉ A j := fun j hj hm => W.live hj p hm n
    obtain ⟨A', W'⟩ : ∃ A', A' = fun j => if j = i then [p] else A j := ⟨_, rfl⟩
    have e0 : A' i = [p] := by rw [W']; exact if_pos rfl
    have e1 : ∀ j, i ≠ j → A' j = A j := fun j hj => by rw [W']; exact if_neg fun z => hj z.symm
    refine ⟨A', fun j xs e => ?_, fun j xss e => ?_, fun j kvs' e => ?_, fun j e a ha => ?_, fun j e => ?_, fun j k hjk o1 o2 a ha => ?_⟩
    · rcases set_get e with ⟨_, e', _⟩ | ⟨hj, e'⟩
      · cases e'
      · rw [List.getElem?_set_ne hj, e1 j hj]
        obtain ⟨p', vs', a1, a2, a3, a4⟩ := W.o j xs e'
        exact ⟨p', vs', a1, a2, x1.hh _ _ a3, a4.mono x1.ff⟩
    · rcases set_get e with ⟨_, e', _⟩ | ⟨hj, e'⟩
      · cases e'
      · rw [List.getElem?_set_ne hj, e1 j hj]
        obtain ⟨p', ps', a1, a2, a3, a4⟩ := W.m j xss e'
        exact ⟨p', ps', a1, a2, x1.hh _ _ a3, a4.go x1.ff fun a _ o => x1.hh a o⟩
    · rcases set_get e with ⟨rfl, e', hi⟩ | ⟨hj, e'⟩
      · cases e'
        exact ⟨p, l, e0, List.getElem?_set_self (by rw [s.len]; exact hi), hp, h⟩
      · rw [List.getElem?_set_ne hj, e1 j hj]
        obtain ⟨p', vs', a1, a2, a3, a4⟩ := W.k j kvs' e'
        exact ⟨p', vs', a1, a2, x1.hh _ _ a3, a4.mono x1.ff⟩
    · by_cases hj : i = j
      · subst hj
        rw [e0] at ha
        rw [List.mem_singleton.mp ha]
        exact ⟨hF, s.ext.hh.free n⟩
      · rw [e1 j hj] at ha
        have := W.fr j (own_set e hj) a ha
        rw [x1.fx a (W.live (own_set e hj) a ha)]
        exact this
    · by_cases hj : i = j
      · subst hj
        rw [e0]; simp
      · rw [e1 j hj]
        exact W.nd j (own_set e hj)
    · by_cases hj : i = j
      · subst hj
        rw [e0] at ha
        rw [List.mem_singleton.mp ha, e1 k hjk]
        exact nA k (own_set o2 hjk)
      · rw [e1 j hj] at ha
        by_cases hk : i = k
        · subst hk
          rw [e0]
          intro z
          rw [List.mem_singleton.mp z] at ha
          exact nA j (own_set o1 hj) ha
        · rw [e1 k hk]
          exact W.sp j k hjk (own_set o1 hj) (own_set o2 hk) a ha
/-- an own dict is frozen -/
theorem StR.frzK (s : StR K F0 H0 F H σ τ) {i : Nat} {kvs : List (Int × D)} (e : τ[i]? = some (.k kvs)) : ∃ F', Same F F' ∧ StR K F0 H0 F' H σ (τ.set i (.d (dicD kvs))) := by
  obtain ⟨A, W⟩ := s.ows
  obtain ⟨p, vs, eA, a, b, q⟩ := W.k i kvs e
  have oi : Own τ i := .inr (.inr ⟨kvs, e⟩)
  obtain ⟨c, d⟩ := W.fr i oi p (by rw [eA]; simp)
  have mo : Same F (upd F p (.dK vs)) := (Ext.newO (fun _ _ e => e) c).hh
  refine ⟨upd F p (.dK vs), mo, s.ext.freeze d c b, by rw [List.length_set]; exact s.len, fun j x ej => ?_, A, fun j ys ej => ?_, fun j yss ej => ?_, fun j kvs' ej => ?_, fun j ej x hx => ?_, fun j ej => W.nd j (own_set_d ej).2, fun j k hjk e1 e2 => W.sp j k hjk (own_set_d e1).2 (own_set_d e2).2⟩
  · rcases set_get ej with ⟨rfl, e', _⟩ | ⟨hj, e'⟩
    · cases e'
      exact ⟨_, a, (q.mono mo).dq upd_same⟩
    · obtain ⟨v, a, b⟩ := s.dat j x e'
      exact ⟨v, a, b.mono mo⟩
  · rcases set_get ej with ⟨_, e', _⟩ | ⟨hj, e'⟩
    · cases e'
    · obtain ⟨p', vs', a1, a2, a3, a4⟩ := W.o j ys e'
      exact ⟨p', vs', a1, a2, a3, a4.mono mo⟩
  · rcases set_get ej with ⟨_, e', _⟩ | ⟨hj, e'⟩
    · cases e'
    · obtain ⟨p', vs', a1, a2, a3, a4⟩ := W.m j yss e'
      exact ⟨p', vs', a1, a2, a3, a4.go mo fun _ _ _ z => z⟩
  · rcases set_get ej with ⟨_, e', _⟩ | ⟨hj, e'⟩
    · cases e'
    · obtain ⟨p', vs', a1, a2, a3, a4⟩ := W.k j kvs' e'
      exact ⟨p', vs', a1, a2, a3, a4.mono mo⟩
  · obtain ⟨hj, oj⟩ := own_set_d ej
    have := W.fr j oj x hx
    have hne : x ≠ p := fun z => by
      subst z
      exact W.sp i j hj oi oj x (by rw [eA]; simp) hx
    rw [upd_ne hne]
    exact this
/-- an own dict is changed -/
theorem StR.mutK (s : StR K F0 H0 F H σ τ) {i : Nat} {kvs kvs' : List (Int × D)} {p : Addr} {l : List (Key × V)} (e : τ[i]? = some (.k kvs)) (a : σ[i]? = some (some (.ref p))) (h : KvR K F l kvs') : StR K F0 H0 F (upd H p (.dK l)) σ (τ.set i (.k kvs')) := by
  obtain ⟨A, W⟩ := s.ows
  obtain ⟨p', vs, eA, a', b, q⟩ := W.k i kvs e
  rw [a] at a'; cases a'
  have oi : Own τ i := .inr (.inr ⟨kvs, e⟩)
  obtain ⟨c, d⟩ := W.fr i oi p (by rw [eA]; simp)
  have hi : i < τ.length := (List.getElem?_eq_some_iff.mp e).1
  have ow : ∀ {j}, Own (τ.set i (.k kvs')) j → Own τ j := fun {j} z => by
    by_cases hj : i = j
    · subst hj; exact oi
    · exact own_set z hj
  have np : ∀ j, i ≠ j → Own τ j → ∀ x ∈ A j, x ≠ p := fun j hj oj x hx z => by
    subst z
    exact W.sp i j hj oi oj x (by rw [eA]; simp) hx
  refine ⟨⟨fun x o z => ?_, s.ext.ff, fun x o z => ?_, s.ext.fx⟩, by rw [List.length_set]; exact s.len, fun j x ej => ?_, A, fun j ys ej => ?_, fun j yss ej => ?_, fun j kvs2 ej => ?_, fun j ej => W.fr j (ow ej), fun j ej => W.nd j (ow ej), fun j k hjk e1 e2 => W.sp j k hjk (ow e1) (ow e2)⟩
  · rw [upd_ne (ne_of_none z d)]; exact s.ext.hh x o z
  · rw [upd_ne (ne_of_none z c)]; exact s.ext.fh x o z
  · rcases set_get ej with ⟨_, e', _⟩ | ⟨hj, e'⟩
    · cases e'
    · exact s.dat j x e'
  · rcases set_get ej with ⟨_, e', _⟩ | ⟨hj, e'⟩
    · cases e'
    · obtain ⟨p', vs', a1, a2, a3, a4⟩ := W.o j ys e'
      exact ⟨p', vs', a1, a2, by rw [upd_ne (np j hj (.inl ⟨ys, e'⟩) p' (by rw [a1]; simp))]; exact a3, a4⟩
  · rcases set_get ej with ⟨_, e', _⟩ | ⟨hj, e'⟩
    · cases e'
    · obtain ⟨p', ps', a1, a2, a3, a4⟩ := W.m j yss e'
      have oj : Own τ j := .inr (.inl ⟨yss, e'⟩)
      exact ⟨p', ps', a1, a2, by rw [upd_ne (np j hj oj p' (by rw [a1]; simp))]; exact a3, a4.go (Same.refl _) fun x hx o z => by rw [upd_ne (np j hj oj x (by rw [a1]; exact List.mem_cons_of_mem _ hx))]; exact z⟩
  · rcases set_get ej with ⟨rfl, e', _⟩ | ⟨hj, e'⟩
    · cases e'
      exact ⟨p, l, eA, a, upd_same, h⟩
    · obtain ⟨p', vs', a1, a2, a3, a4⟩ := W.k j kvs2 e'
      exact ⟨p', vs', a1, a2, by rw [upd_ne (np j hj (.inr (.inr ⟨kvs2, e'⟩)) p' (by rw [a1]; simp))]; exact a3, a4⟩
end
/-! ### the rules -/
def frzKT (i : Nat) (τ : Ta) : Ta := match τ[i]? with
  | some (.k kvs) => τ.set i (.d (dicD kvs))
  | _ => τ
def gFrzK (i : Nat) (h : Ta → Option Out) : Ta → Option Out := fun τ => h (frzKT i τ)
/-- x = {k: v} -/
def gSetK (i : Nat) (fk fv : Ta → R D) : Ta → Option Out := fun τ => bndS (fk τ) τ fun k => bndS (fv τ) τ fun v => match k with
  | .int n => some (.nx (τ.set i (.k [(n, v)])))
  | _ => none
/-- k in d, k not in d -/
def fKin (i : Nat) (b : Bool) (f : Ta → R D) : Ta → R Bool := fun τ => bnd (f τ) fun k => match k with
  | .int n => (match τ[i]? with
    | some (.k kvs) => ok (b == (lkK kvs n).isSome)
    | _ => none)
  | _ => none
/-- d[k] -/
def fKix (i : Nat) (f : Ta → R D) : Ta → R D := fun τ => match τ[i]? with
  | some (.k kvs) => bnd (f τ) fun k => (match k with
    | .int n => lft (lkK kvs n)
    | _ => none)
  | _ => none
/-- d[k] = e -/
def gPutK (i : Nat) (fe fk : Ta → R D) : Ta → Option Out := fun τ => bndS (fe τ) τ fun d => match τ[i]? with
  | some (.k kvs) => bndS (fk τ) τ fun k => (match k with
    | .int n => if kvs.length < 100000 then some (.nx (τ.set i (.k (putKd kvs n d)))) else none
    | _ => none)
  | _ => none
/-- a dict that is data -/
def dicL : D → Option (List (D × D))
  | .dict ((.bool true, .none) :: l) => some l
  | _ => none
def lkL (l : List (D × D)) (n : Int) : Option D := (l.find? fun p => match p.1 with | .int m => decide (m = n) | _ => false).map (·.2)
def kinD (b : Bool) : D → D → Option D
  | .int n, d => (dicL d).map fun l => .bool (b == (lkL l n).isSome)
  | _, _ => none
def kixD : D → D → Option D
  | d, .int n => (dicL d).bind fun l => lkL l n
  | _, _ => none
theorem bKin (b : Bool) : Bln (kinD b) := fun x y z h => by
  unfold kinD at h
  split at h
  · obtain ⟨l, _, rfl⟩ := Option.map_eq_some_iff.mp h
    exact ⟨_, rfl⟩
  · cases h
section
variable {X : Cx} {W : WX} {e a b : Expr} {rest : List Stmt} {h : Ta → Option Out} {f fk fv fe : Ta → R D} {x : Str} {pos p p1 p2 p3 : Pos}
theorem sFrzK (i : Nat) (h1 : PDs X W rest h) : PDs X W rest (gFrzK i h) := by
  refine PSs.conseq h1 fun D σ H ⟨F0, H0, F, τ, o, s, hf, q⟩ => ?_
  unfold gFrzK frzKT at hf
  split at hf
  · rename_i kvs e
    obtain ⟨F', m, s'⟩ := s.frzK e
    exact ⟨F0, H0, F', _, o, s', hf, q.go m⟩
  · exact ⟨F0, H0, F, τ, o, s, hf, q⟩
theorem kIx (i : Nat) (hu : X.A.units + 65 < cLine) (hb : PD X W b f) (hN : X.N[i]? = some x := by rfl) (hv : Vis X.env.scope x := by first | exact Or.inl rfl | exact Or.inr (Or.inl rfl) | exact Or.inr (Or.inr rfl)) (hd : (x == ("__debug__" : Str)) = false := by decide)
    (hcd : (x == ("__classdict__" : Str)) = false := by decide) (hs : NoSl b := by exact fun _ _ => rfl) : PD X W (.Subscript (.Name x p) b pos) (fKix i f) := by
  refine PE.conseq (pe_dget (by omega) (pe_var (i := i) hN hv hd hcd) hb hs) fun σ H Q ⟨F0, H0, F, τ, r, s, hf, q⟩ => ?_
  unfold fKix at hf
  split at hf
  · rename_i kvs e
    obtain ⟨p, l, e1, e2, e3, e4, e5⟩ := s.dic e
    refine ⟨_, e1, tX_bnd s hf q fun k w F1 H1 x1 s1 dw hf q => ?_⟩
    cases dw with
    | int n =>
      simp only at hf
      obtain ⟨z, ez, rfl⟩ := lft_eq hf
      rcases (e5.mono x1.ff).get n with ⟨g1, _⟩ | ⟨d, v, g1, g2, g3⟩
      · rw [g1] at ez; cases ez
      · rw [g1] at ez; cases ez
        exact ⟨p, v, rfl, .inl ⟨l, .inl n, .inl (x1.hh _ _ e2), rfl, g2.symm⟩, q v F1 H1 (.refl x1.fh) g3⟩
    | _ => cases hf
  · cases hf
theorem kNin (i : Nat) (hu : X.A.units + 65 < cLine) (hb : PD X W b f) (hN : X.N[i]? = some x := by rfl) (hv : Vis X.env.scope x := by first | exact Or.inl rfl | exact Or.inr (Or.inl rfl) | exact Or.inr (Or.inr rfl)) (hd : (x == ("__debug__" : Str)) = false := by decide)
    (hcd : (x == ("__classdict__" : Str)) = false := by decide) (hm : behindInMarks .NotIn (.Name x p) = false := by rfl) : PB X W (.Compare b [.NotIn] [.Name x p] pos) (fKin i false f) := by
  refine PT.conseq (pt_cmp (pc_dnotin (by omega) hb (pe_var (i := i) hN hv hd hcd)) hm) fun σ H Q ⟨F0, H0, F, τ, r, s, hf, q⟩ => ?_
  refine tX_bnd s hf q fun k w F1 H1 x1 s1 dw hf q => ?_
  cases dw with
  | int n =>
    simp only at hf
    split at hf
    · rename_i kvs e
      cases hf
      obtain ⟨p, l, e1, e2, e3, e4, e5⟩ := s1.dic e
      refine ⟨_, e1, p, valV l (.inl n), rfl, .inl ⟨l, .inl n, .inl e2, rfl, rfl⟩, _, rfl, ?_⟩
      refine q _ F1 H1 (.refl x1.fh) ?_
      rcases e5.get n with ⟨g1, g2⟩ | ⟨d, v, g1, g2, g3⟩
      · rw [g1, g2]; rfl
      · rw [g1, g2]; rfl
    · cases hf
  | _ => cases hf
theorem kPut (i : Nat) (hu : X.A.units + 65 < cLine) (he : PD X W e fe) (hb : PD X W b fk) (hN : X.N[i]? = some x := by rfl) (hv : Vis X.env.scope x := by first | exact Or.inl rfl | exact Or.inr (Or.inl rfl) | exact Or.inr (Or.inr rfl)) (hd : (x == ("__debug__" : Str)) = false := by decide)
    (hcd : (x == ("__classdict__" : Str)) = false := by decide) (hs : swapsWith e (some (.Subscript (.Name x p1) b p2)) pos.line X.env = pure false := by rfl) : PD1 X W (.Assign [.Subscript (.Name x p1) b p2] e pos) (gPutK i fe fk) := by
  refine PS.conseq (ps_dput (by omega) (pe_var (i := i) hN hv hd hcd) hb he hs) fun D σ H ⟨F0, H0, F, τ, o, s, hf, q⟩ => ?_
  refine tX_S s hf q fun d v F1 H1 x1 s1 dv hf q => ?_
  split at hf
  · rename_i kvs ek
    obtain ⟨p, l, e1, e2, e3, e4, e5⟩ := s1.dic ek
    refine ⟨_, e1, tX_S s1 hf q fun k w F2 H2 x2 s2 dw hf q => ?_⟩
    cases dw with
    | int n =>
      simp only at hf
      split at hf
      · rename_i hl
        cases hf
        refine ⟨p, _, rfl, .inl ⟨l, .inl n, x2.hh _ _ e2, rfl, by rw [e5.len]; exact lt5 hl, rfl⟩, ?_⟩
        exact q F2 _ σ (Same.refl _) (s2.mutK ek e1 ((e5.mono x2.ff).put n (dv.mono x2.ff)))
      · cases hf
    | _ => cases hf
  · cases hf
/-- the new dict's object is filled -/
theorem Ext.fill {F H F' H' : Hp} {p : Addr} {o : HO} (a : Ext F H F' H') (n : H p = none) (nF : F' p = none) : Ext F H F' (upd H' p o) :=
  ⟨fun b x e => by rw [upd_ne (ne_of_none e n)]; exact a.hh b x e, a.ff, fun b x e => by rw [upd_ne (ne_of_none e nF)]; exact a.fh b x e, a.fx⟩
theorem sSetK (i : Nat) (hk : PD X W a fk) (hv : PD X W b fv) (hN : X.N.Nodup) (hi : X.N[i]? = some x := by rfl) (hx : Loc X.env.scope x := by first | exact Or.inl rfl | exact Or.inr rfl) (hs : swapsWith (.Dict [some a] [b] p) (some (.Name x p2)) pos.line X.env = pure false := by rfl)
    (hf : X.fn x = true ∨ X.env.scope.names.lookup x = some .local := by first | exact .inl rfl | exact .inr rfl | assumption) : PD1 X W (.Assign [.Name x p2] (.Dict [some a] [b] p) pos) (gSetK i fk fv) := by
  refine PS.conseq (ps_set hN hi hx (pe_disp (pps_cons hk hv pps_nil) rfl rfl (by simp) (by simp)) hs hf) fun D σ H ⟨F0, H0, F, τ, o, s, hf, q⟩ => ?_
  intro p hp
  have hFp : F p = none := s.fh.free hp
  have x0 : Ext F H F (upd H p (.dK [])) := Ext.newO s.fh hp
  have s0 := s.go x0
  refine tX_S s0 hf q fun k w F1 H1 x1 s1 dw hf q => ?_
  refine tX_S s1 hf q fun d v F2 H2 x2 s2 dv hf q => ?_
  cases dw with
  | int n =>
    cases hf
    have e2 : H2 p = some (.dK []) := x2.hh _ _ (x1.hh _ _ upd_same)
    have f1 : F1 p = none := by rw [x1.fx p (by rw [upd_same]; simp)]; exact hFp
    have f2 : F2 p = none := by rw [x2.fx p (by rw [x1.hh _ _ upd_same]; simp)]; exact f1
    refine ⟨e2, [(.inl n, v)], rfl, by simp, ?_⟩
    have xx := ((x0.trans x1).trans x2).fill (o := .dK (mergeK [] [((.inl n : Key), v)])) hp f2
    exact q F2 _ _ (Same.refl _) (s.setK i xx hp upd_same f2 (.cons dv .nil))
  | _ => cases hf
/-! ### on data -/
theorem lk_dic {K : PySem.W.Frag} {F : Hp} {l : List (Key × V)} {ks : List Int} {ds : List D} (hk : l.map (·.1) = ks.map Sum.inl) (h : DqAll K F (l.map (·.2)) ds) (hl : ks.length = ds.length) (n : Int) :
    (lkL (ks.zipWith (fun k d => (PyData.int k, d)) ds) n = none ∧ valV l (.inl n) = none) ∨ ∃ d v, lkL (ks.zipWith (fun k d => (PyData.int k, d)) ds) n = some d ∧ valV l (.inl n) = some v ∧ Dq K F v d := by
  induction l generalizing ks ds with
  | nil =>
    cases ks with
    | nil => exact .inl ⟨rfl, rfl⟩
    | cons k ks => simp at hk
  | cons p l ih =>
    cases ks with
    | nil => simp at hk
    | cons k ks =>
      obtain ⟨pk, pv⟩ := p
      simp only [List.map_cons, List.cons.injEq] at hk
      cases h with
      | cons a t =>
        rename_i d ds
        obtain ⟨e1, e2⟩ := hk
        simp only at e1 a t
        subst e1
        by_cases e : k = n
        · subst e
          exact .inr ⟨d, pv, by simp [lkL], valV_pos rfl, a⟩
        · have e' : ¬ ((.inl k : Key) = .inl n) := fun z => e (by injection z)
          rw [valV_neg (p := ((.inl k : Key), pv)) e', List.zipWith_cons_cons, show lkL ((PyData.int k, d) :: ks.zipWith (fun k d => (PyData.int k, d)) ds) n = lkL (ks.zipWith (fun k d => (PyData.int k, d)) ds) n by simp [lkL, e]]
          exact ih e2 t (by simpa using hl)
theorem dKix (hu : X.A.units + 65 < cLine) (ha : PD X W a f) (hb : PD X W b fk) (hs : NoSl b := by exact fun _ _ => rfl) : PD X W (.Subscript a b pos) (fB kixD f fk) := by
  refine PE.conseq (pe_dget (by omega) ha hb hs) fun σ H Q ⟨F0, H0, F, τ, r, s, hf, q⟩ => ?_
  refine tX_bnd s hf q fun x v F1 H1 x1 s1 dv hf q => ?_
  refine tX_bnd s1 hf q fun y w F2 H2 x2 s2 dw hf q => ?_
  obtain ⟨z, ez, rfl⟩ := lft_eq hf
  cases dw with
  | int n =>
    cases dv with
    | dic h1 h2 h3 h4 =>
      simp only [kixD, dicL, Option.bind_some] at ez
      rcases lk_dic h2 (h3.mono x2.ff) h4 n with ⟨g1, _⟩ | ⟨d, v, g1, g2, g3⟩
      · rw [g1] at ez; cases ez
      · rw [g1] at ez; cases ez
        exact ⟨_, v, rfl, .inl ⟨_, .inl n, .inl (x2.hh _ _ (x1.fh _ _ h1)), rfl, g2.symm⟩, q v F2 H2 (.refl x2.fh) g3⟩
    | _ => cases ez
  | _ => cases dv <;> cases ez
theorem dKin (hu : X.A.units + 65 < cLine) (hb : PD X W b fk) (ha : PD X W a f) (hm : behindInMarks .In a = false := by rfl) : PB X W (.Compare b [.In] [a] pos) (fTr (fB (kinD true) fk f)) := by
  refine PT.conseq (pt_cmp (pc_din (by omega) hb ha) hm) fun σ H Q q => ?_
  refine tT_test (t := tDIn (tE X.K X.mg W fk) (tE X.K X.mg W f)) (fun σ H Q q => ?_) (fB_bool (bKin true)) q
  obtain ⟨F0, H0, F, τ, r, s, hf, q⟩ := q
  refine tX_bnd s hf q fun y w F1 H1 x1 s1 dw hf q => ?_
  refine tX_bnd s1 hf q fun x v F2 H2 x2 s2 dv hf q => ?_
  obtain ⟨z, ez, rfl⟩ := lft_eq hf
  cases dw with
  | int n =>
    cases dv with
    | dic h1 h2 h3 h4 =>
      simp only [kinD, dicL, Option.map_some, Option.some.injEq] at ez
      subst ez
      refine ⟨_, _, rfl, .inl ⟨_, .inl n, .inl (x2.fh _ _ h1), rfl, rfl⟩, q _ F2 H2 (.refl x2.fh) ?_⟩
      rcases lk_dic h2 h3 h4 n with ⟨g1, g2⟩ | ⟨d, v, g1, g2, g3⟩
      · rw [g1, g2]; exact .bl false
      · rw [g1, g2]; exact .bl true
    | _ => cases ez
  | _ => cases ez
end
end DL
set_option Elab.async false
set_option linter.all false
set_option maxRecDepth 100000
set_option maxHeartbeats 4000000
namespace LW
open PySem PySem.Spec PyProof.Rows L2 DL
abbrev Ta := DL.Ta
abbrev D := DL.D
def k_ZERO : D := (.tuple [(.int (0)), (.int (1))])
def k_ONE : D := (.tuple [(.int (1)), (.int (1))])
def k_MAX_PLAYERS : D := (.int (6))
def k_MAX_WEIGHT : D := (.int (9))
def k_DIGITS : D := (.str "0123456789")
noncomputable def g_is_integer : Ta → Option Out := (gSeq (gRet (vAnd (fU (isiD "int") (fV 0)) (fNoV (fU (isiD "bool") (fV 0)))))
    gNil)
noncomputable def f_is_integer : List D → R D := runDef 1 1 g_is_integer
noncomputable def w_gcd_1 : Ta → R Bool := (fTr (fB neD (fV 1) (fC (.int (0)))))
noncomputable def b_gcd_1 : Ta → Option Out := (gSeq (gPar 0 1 (fV 1) (fB modD (fV 0) (fV 1)))
    gNil)
noncomputable def g_gcd : Ta → Option Out := (gSeq (gWh w_gcd_1
    b_gcd_1)
    (gSeq (gRet (fN absDs (fCons (fV 0) fNil)))
    gNil))
noncomputable def f_gcd : List D → R D := runDef 2 2 g_gcd
noncomputable def g_reduced : Ta → Option Out := (gSeq (gSet 2 (fCl f_gcd (fCons (fV 0) (fCons (fV 1) fNil))))
    (gSeq (gIf (fTr (fB ltD (fV 1) (fC (.int (0)))))
    (gSeq (gSet 2 (fU negD (fV 2)))
    gNil)
    gNil)
    (gSeq (gRet (fTup (fCons (fB divD (fV 0) (fV 2)) (fCons (fB divD (fV 1) (fV 2)) fNil))))
    gNil)))
noncomputable def f_reduced : List D → R D := runDef 2 3 g_reduced
noncomputable def g_add : Ta → Option Out := (gSeq (gRet (fCl f_reduced (fCons (fB addD (fB mulD (fB ixD (fV 0) (fC (.int (0)))) (fB ixD (fV 1) (fC (.int (1))))) (fB mulD (fB ixD (fV 1) (fC (.int (0)))) (fB ixD (fV 0) (fC (.int (1)))))) (fCons (fB mulD (fB ixD (fV 0) (fC (.int (1)))) (fB ixD (fV 1) (fC (.int (1))))) fNil))))
    gNil)
noncomputable def f_add : List D → R D := runDef 2 2 g_add
noncomputable def g_subtract : Ta → Option Out := (gSeq (gRet (fCl f_reduced (fCons (fB subD (fB mulD (fB ixD (fV 0) (fC (.int (0)))) (fB ixD (fV 1) (fC (.int (1))))) (fB mulD (fB ixD (fV 1) (fC (.int (0)))) (fB ixD (fV 0) (fC (.int (1)))))) (fCons (fB mulD (fB ixD (fV 0) (fC (.int (1)))) (fB ixD (fV 1) (fC (.int (1))))) fNil))))
    gNil)
noncomputable def f_subtract : List D → R D := runDef 2 2 g_subtract
noncomputable def g_multiply : Ta → Option Out := (gSeq (gRet (fCl f_reduced (fCons (fB mulD (fB ixD (fV 0) (fC (.int (0)))) (fB ixD (fV 1) (fC (.int (0))))) (fCons (fB mulD (fB ixD (fV 0) (fC (.int (1)))) (fB ixD (fV 1) (fC (.int (1))))) fNil))))
    gNil)
noncomputable def f_multiply : List D → R D := runDef 2 2 g_multiply
noncomputable def g_divide : Ta → Option Out := (gSeq (gRet (fCl f_reduced (fCons (fB mulD (fB ixD (fV 0) (fC (.int (0)))) (fB ixD (fV 1) (fC (.int (1))))) (fCons (fB mulD (fB ixD (fV 0) (fC (.int (1)))) (fB ixD (fV 1) (fC (.int (0))))) fNil))))
    gNil)
noncomputable def f_divide : List D → R D := runDef 2 2 g_divide
noncomputable def b_total_1 : Ta → Option Out := (gSeq (gSet 1 (fCl f_add (fCons (fV 1) (fCons (fV 2) fNil))))
    gNil)
noncomputable def g_total : Ta → Option Out := (gSeq (gSet 1 (fC k_ZERO))
    (gSeq (gFor (fSq (fV 0)) (gN 2)
    b_total_1)
    (gSeq (gRet (fV 1))
    gNil)))
noncomputable def f_total : List D → R D := runDef 1 3 g_total
noncomputable def g_is_rational : Ta → Option Out := (gSeq (gIf (fOr (fNo (fTr (fU (isiD "tuple") (fV 0)))) (fOr (fTr (fB neD (fN lenDs (fCons (fV 0) fNil)) (fC (.int (2))))) (fOr (fNo (fTr (fCl f_is_integer (fCons (fB ixD (fV 0) (fC (.int (0)))) fNil)))) (fNo (fTr (fCl f_is_integer (fCons (fB ixD (fV 0) (fC (.int (1)))) fNil)))))))
    (gSeq (gRet (fC (.bool false)))
    gNil)
    gNil)
    (gSeq (gRet (vAnd (fB gtD (fB ixD (fV 0) (fC (.int (1)))) (fC (.int (0)))) (fB eqD (fCl f_gcd (fCons (fB ixD (fV 0) (fC (.int (0)))) (fCons (fB ixD (fV 0) (fC (.int (1)))) fNil))) (fC (.int (1))))))
    gNil))
noncomputable def f_is_rational : List D → R D := runDef 1 1 g_is_rational
noncomputable def e_cleared_1 : Ta → R D := (fCl f_subtract (fCons (fV 4) (fCons (fCl f_multiply (fCons (fV 3) (fCons (fV 5) fNil))) fNil)))
noncomputable def g_cleared : Ta → Option Out := (gSeq (gSet 3 (fB ixD (fV 0) (fV 2)))
    (gSeq (gRet (fFr (fLc (fZp (fCons (fV 0) (fCons (fV 1) fNil))) (gT (gs1 (gN 4) (gs1 (gN 5) gs0))) fYes e_cleared_1 [4, 5])))
    gNil))
noncomputable def f_cleared : List D → R D := runDef 3 6 g_cleared
noncomputable def e_eliminate_1 : Ta → R D := (fFr (fLs (fV 6)))
noncomputable def t_eliminate_2 : Ta → R Bool := (fTr (fB neD (fB ixD (fV 6) (fV 3)) (fC k_ZERO)))
noncomputable def e_eliminate_2 : Ta → R D := (fV 6)
noncomputable def e_eliminate_3 : Ta → R D := (fCl f_divide (fCons (fV 7) (fCons (fB ixD (fV 5) (fV 3)) fNil)))
noncomputable def e_eliminate_4 : Ta → R D := (fCl f_divide (fCons (fV 7) (fCons (fB ixD (fV 5) (fV 3)) fNil)))
noncomputable def e_eliminate_5 : Ta → R D := (fCl f_cleared (fCons (fV 6) (fCons (fV 5) (fCons (fV 3) fNil))))
noncomputable def e_eliminate_6 : Ta → R D := (fTup (fCons (fV 8) (fCons (fCl f_cleared (fCons (fV 6) (fCons (fV 5) (fCons (fV 3) fNil)))) fNil)))
noncomputable def e_eliminate_7 : Ta → R D := (fTup (fCons (fV 8) (fCons (fCl f_cleared (fCons (fV 6) (fCons (fV 5) (fCons (fV 3) fNil)))) fNil)))
noncomputable def b_eliminate_1 : Ta → Option Out := (gSeq (gSetO 4 (fLc (fOw 0) (gN 6) t_eliminate_2 e_eliminate_2 [6]))
    (gFrz 4 (gSeq (gIf (fTr (fV 4))
    (gSeq (gSet 5 (fB ixD (fV 4) (fC (.int (0)))))
    (gSeq (gRem 0 (fV 5))
    (gSeq (gSet 5 (fFr (fLc (fSq (fV 5)) (gN 7) fYes e_eliminate_4 [7])))
    (gSeq (gSetO 0 (fLc (fOw 0) (gN 6) fYes e_eliminate_5 [6]))
    (gSeq (gSet 2 (fB addD (fFr (fLc (fSq (fV 2)) (gT (gs1 (gN 8) (gs1 (gN 6) gs0))) fYes e_eliminate_7 [8, 6])) (fFr (fLst (fCons (fTup (fCons (fV 3) (fCons (fV 5) fNil))) fNil)))))
    gNil)))))
    gNil)
    gNil)))
noncomputable def g_eliminate : Ta → Option Out := (gSeq (gSetO 0 (fLc (fSq (fV 0)) (gN 6) fYes e_eliminate_1 [6]))
    (gSeq (gSet 2 (fFr (fLst fNil)))
    (gSeq (gFor (fRg1 (fCons (fV 1) fNil)) (gN 3)
    b_eliminate_1)
    (gSeq (gRet (fV 2))
    gNil))))
noncomputable def f_eliminate : List D → R D := runDef 2 9 g_eliminate
noncomputable def b_solve_1 : Ta → Option Out := (gSeq (gPut 2 (fB ixD (fV 4) (fU negD (fC (.int (1))))) (fV 3))
    gNil)
noncomputable def g_solve : Ta → Option Out := (gSeq (gSetO 2 (fRep (fLst (fCons (fC k_ZERO) fNil)) (fV 1)))
    (gSeq (gFor (fSq (fCl f_eliminate (fCons (fV 0) (fCons (fV 1) fNil)))) (gT (gs1 (gN 3) (gs1 (gN 4) gs0)))
    b_solve_1)
    (gFrz 2 (gSeq (gRet (fV 2))
    gNil))))
noncomputable def f_solve : List D → R D := runDef 2 5 g_solve
noncomputable def g_in_range : Ta → Option Out := (gSeq (gRet (vAnd (fCl f_is_integer (fCons (fV 0) fNil)) (fCh leD leD (fV 1) (fV 0) (fV 2))))
    gNil)
noncomputable def f_in_range : List D → R D := runDef 3 3 g_in_range
noncomputable def g_is_match : Ta → Option Out := (gSeq (gIf (fOr (fNo (fTr (fU (isiD "tuple") (fV 1)))) (fOr (fTr (fB neD (fN lenDs (fCons (fV 1) fNil)) (fC (.int (3))))) (fNo (fTr (fCl f_in_range (fCons (fB ixD (fV 1) (fC (.int (0)))) (fCons (fC (.int (0))) (fCons (fB subD (fV 0) (fC (.int (2)))) fNil))))))))
    (gSeq (gRet (fC (.bool false)))
    gNil)
    gNil)
    (gSeq (gRet (vAnd (fCl f_in_range (fCons (fB ixD (fV 1) (fC (.int (1)))) (fCons (fB addD (fB ixD (fV 1) (fC (.int (0)))) (fC (.int (1)))) (fCons (fB subD (fV 0) (fC (.int (1)))) fNil)))) (fCl f_in_range (fCons (fB ixD (fV 1) (fC (.int (2)))) (fCons (fC (.int (1))) (fCons (fC k_MAX_WEIGHT) fNil))))))
    gNil))
noncomputable def f_is_match : List D → R D := runDef 2 2 g_is_match
noncomputable def t_is_schedule_1 : Ta → R Bool := (fNo (fTr (fCl f_is_match (fCons (fB ixD (fV 0) (fC (.int (0)))) (fCons (fV 1) fNil)))))
noncomputable def e_is_schedule_1 : Ta → R D := (fV 1)
noncomputable def t_is_schedule_2 : Ta → R Bool := (fTr (fB geD (fSl (fV 1) none (some (fC (.int (2))))) (fSl (fV 2) none (some (fC (.int (2)))))))
noncomputable def e_is_schedule_2 : Ta → R D := (fC (.int (1)))
noncomputable def g_is_schedule : Ta → Option Out := (gSeq (gIf (fOr (fNo (fTr (fU (isiD "tuple") (fV 0)))) (fOr (fTr (fB neD (fN lenDs (fCons (fV 0) fNil)) (fC (.int (2))))) (fNo (fTr (fCl f_in_range (fCons (fB ixD (fV 0) (fC (.int (0)))) (fCons (fC (.int (2))) (fCons (fC k_MAX_PLAYERS) fNil))))))))
    (gSeq (gRet (fC (.bool false)))
    gNil)
    gNil)
    (gSeq (gIf (fOr (fNo (fTr (fU (isiD "tuple") (fB ixD (fV 0) (fC (.int (1))))))) (fTr (fFr (fLc (fSq (fB ixD (fV 0) (fC (.int (1))))) (gN 1) t_is_schedule_1 e_is_schedule_1 [1]))))
    (gSeq (gRet (fC (.bool false)))
    gNil)
    gNil)
    (gSeq (gRet (fNoV (fFr (fLc (fZp (fCons (fB ixD (fV 0) (fC (.int (1)))) (fCons (fSl (fB ixD (fV 0) (fC (.int (1)))) (some (fC (.int (1)))) none) fNil))) (gT (gs1 (gN 1) (gs1 (gN 2) gs0))) t_is_schedule_2 e_is_schedule_2 [1, 2]))))
    gNil)))
noncomputable def f_is_schedule : List D → R D := runDef 1 3 g_is_schedule
noncomputable def g_check_schedule : Ta → Option Out := (gSeq (gIf (fNo (fTr (fCl f_is_schedule (fCons (fV 0) fNil))))
    (gSeq (gRaise "InvalidSchedule")
    gNil)
    gNil)
    gNil)
noncomputable def f_check_schedule : List D → R D := runDef 1 1 g_check_schedule
noncomputable def g_check_player : Ta → Option Out := (gSeq (gEx (fCl f_check_schedule (fCons (fV 0) fNil)))
    (gSeq (gIf (fNo (fTr (fCl f_in_range (fCons (fV 1) (fCons (fC (.int (0))) (fCons (fB subD (fB ixD (fV 0) (fC (.int (0)))) (fC (.int (1)))) fNil))))))
    (gSeq (gRaise "InvalidPlayer")
    gNil)
    gNil)
    gNil))
noncomputable def f_check_player : List D → R D := runDef 2 2 g_check_player
noncomputable def e_groups_of_1 : Ta → R D := (fIf (fTr (fB eqD (fV 7) (fV 6))) (fV 5) (fV 7))
noncomputable def e_groups_of_2 : Ta → R D := (fIf (fTr (fB eqD (fV 7) (fV 6))) (fV 5) (fV 7))
noncomputable def b_groups_of_1 : Ta → Option Out := (gSeq (gAsg (fTup (fCons (fN minDs (fCons (fB ixD (fV 1) (fV 2)) (fCons (fB ixD (fV 1) (fV 3)) fNil))) (fCons (fN maxDs (fCons (fB ixD (fV 1) (fV 2)) (fCons (fB ixD (fV 1) (fV 3)) fNil))) fNil))) (gT (gs1 (gN 5) (gs1 (gN 6) gs0))))
    (gSeq (gSet 1 (fFr (fLc (fSq (fV 1)) (gN 7) fYes e_groups_of_2 [7])))
    gNil))
noncomputable def t_groups_of_3 : Ta → R Bool := (fTr (fB eqD (fB ixD (fV 1) (fV 8)) (fV 7)))
noncomputable def e_groups_of_3 : Ta → R D := (fV 8)
noncomputable def e_groups_of_4 : Ta → R D := (fFr (fLc (fRg1 (fCons (fB ixD (fV 0) (fC (.int (0)))) fNil)) (gN 8) t_groups_of_3 e_groups_of_3 [8]))
noncomputable def g_groups_of : Ta → Option Out := (gSeq (gSet 1 (fFr (fLr (fB ixD (fV 0) (fC (.int (0)))))))
    (gSeq (gFor (fSq (fB ixD (fV 0) (fC (.int (1))))) (gT (gs1 (gN 2) (gs1 (gN 3) (gs1 (gN 4) gs0))))
    b_groups_of_1)
    (gSeq (gRet (fFr (fLc (fSq (fSortSet (fV 1))) (gN 7) fYes e_groups_of_4 [7])))
    gNil)))
noncomputable def f_groups_of : List D → R D := runDef 1 9 g_groups_of
noncomputable def g_components : Ta → Option Out := (gSeq (gEx (fCl f_check_schedule (fCons (fV 0) fNil)))
    (gSeq (gRet (fCl f_groups_of (fCons (fV 0) fNil)))
    gNil))
noncomputable def f_components : List D → R D := runDef 1 1 g_components
noncomputable def t_match_index_1 : Ta → R Bool := (fTr (fB eqD (fSl (fV 6) none (some (fC (.int (2))))) (fV 3)))
noncomputable def e_match_index_1 : Ta → R D := (fV 5)
noncomputable def g_match_index : Ta → Option Out := (gSeq (gSet 3 (fTup (fCons (fN minDs (fCons (fV 1) (fCons (fV 2) fNil))) (fCons (fN maxDs (fCons (fV 1) (fCons (fV 2) fNil))) fNil))))
    (gSeq (gSetO 4 (fLc (fEn (fCons (fB ixD (fV 0) (fC (.int (1)))) fNil)) (gT (gs1 (gN 5) (gs1 (gN 6) gs0))) t_match_index_1 e_match_index_1 [5, 6]))
    (gFrz 4 (gSeq (gRet (fIf (fTr (fV 4)) (fB ixD (fV 4) (fC (.int (0)))) (fC .none)))
    gNil))))
noncomputable def f_match_index : List D → R D := runDef 3 7 g_match_index
noncomputable def e_triangles_of_1 : Ta → R D := (fSl (fV 6) none (some (fC (.int (2)))))
noncomputable def b_triangles_of_2 : Ta → Option Out := (gSeq (gIf (fAnd (fTr (fB inD (fTup (fCons (fV 3) (fCons (fV 5) fNil))) (fV 1))) (fTr (fB inD (fTup (fCons (fV 4) (fCons (fV 5) fNil))) (fV 1))))
    (gSeq (gApp 2 (fTup (fCons (fV 3) (fCons (fV 4) (fCons (fV 5) fNil)))))
    gNil)
    gNil)
    gNil)
noncomputable def b_triangles_of_1 : Ta → Option Out := (gSeq (gFor (fRg2 (fCons (fB addD (fV 4) (fC (.int (1)))) (fCons (fB ixD (fV 0) (fC (.int (0)))) fNil))) (gN 5)
    b_triangles_of_2)
    gNil)
noncomputable def g_triangles_of : Ta → Option Out := (gSeq (gSetO 1 (fLc (fSq (fB ixD (fV 0) (fC (.int (1))))) (gN 6) fYes e_triangles_of_1 [6]))
    (gFrz 1 (gSeq (gSetO 2 (fLst fNil))
    (gSeq (gFor (fSq (fV 1)) (gT (gs1 (gN 3) (gs1 (gN 4) gs0)))
    b_triangles_of_1)
    (gFrz 2 (gSeq (gRet (fU sortD (fV 2)))
    gNil))))))
noncomputable def f_triangles_of : List D → R D := runDef 1 7 g_triangles_of
noncomputable def g_triangles : Ta → Option Out := (gSeq (gEx (fCl f_check_schedule (fCons (fV 0) fNil)))
    (gSeq (gRet (fCl f_triangles_of (fCons (fV 0) fNil)))
    gNil))
noncomputable def f_triangles : List D → R D := runDef 1 1 g_triangles
noncomputable def g_without_match : Ta → Option Out := (gSeq (gRet (fTup (fCons (fB ixD (fV 0) (fC (.int (0)))) (fCons (fB addD (fSl (fB ixD (fV 0) (fC (.int (1)))) none (some (fV 1))) (fSl (fB ixD (fV 0) (fC (.int (1)))) (some (fB addD (fV 1) (fC (.int (1))))) none)) fNil))))
    gNil)
noncomputable def f_without_match : List D → R D := runDef 2 2 g_without_match
noncomputable def t_bridges_1 : Ta → R Bool := (fTr (fB gtD (fN lenDs (fCons (fCl f_groups_of (fCons (fCl f_without_match (fCons (fV 0) (fCons (fV 2) fNil))) fNil)) fNil)) (fV 1)))
noncomputable def e_bridges_1 : Ta → R D := (fV 2)
noncomputable def g_bridges : Ta → Option Out := (gSeq (gEx (fCl f_check_schedule (fCons (fV 0) fNil)))
    (gSeq (gSet 1 (fN lenDs (fCons (fCl f_groups_of (fCons (fV 0) fNil)) fNil)))
    (gSeq (gRet (fFr (fLc (fRg1 (fCons (fN lenDs (fCons (fB ixD (fV 0) (fC (.int (1)))) fNil)) fNil)) (gN 2) t_bridges_1 e_bridges_1 [2])))
    gNil)))
noncomputable def f_bridges : List D → R D := runDef 1 3 g_bridges
noncomputable def t_is_margins_1 : Ta → R Bool := (fNo (fTr (fCl f_is_rational (fCons (fV 2) fNil))))
noncomputable def e_is_margins_1 : Ta → R D := (fV 2)
noncomputable def g_is_margins : Ta → Option Out := (gSeq (gIf (fOr (fNo (fTr (fU (isiD "tuple") (fV 1)))) (fTr (fB neD (fN lenDs (fCons (fV 1) fNil)) (fN lenDs (fCons (fB ixD (fV 0) (fC (.int (1)))) fNil)))))
    (gSeq (gRet (fC (.bool false)))
    gNil)
    gNil)
    (gSeq (gRet (fNoV (fFr (fLc (fSq (fV 1)) (gN 2) t_is_margins_1 e_is_margins_1 [2]))))
    gNil))
noncomputable def f_is_margins : List D → R D := runDef 2 3 g_is_margins
noncomputable def g_check_margins : Ta → Option Out := (gSeq (gEx (fCl f_check_schedule (fCons (fV 0) fNil)))
    (gSeq (gIf (fNo (fTr (fCl f_is_margins (fCons (fV 0) (fCons (fV 1) fNil)))))
    (gSeq (gRaise "InvalidMargins")
    gNil)
    gNil)
    gNil))
noncomputable def f_check_margins : List D → R D := runDef 2 2 g_check_margins
noncomputable def b_product_of_1 : Ta → Option Out := (gSeq (gApp 3 (fCl f_multiply (fCons (fTup (fCons (fB ixD (fV 4) (fC (.int (2)))) (fCons (fC (.int (1))) fNil))) (fCons (fCl f_multiply (fCons (fV 5) (fCons (fV 6) fNil))) fNil))))
    gNil)
noncomputable def g_product_of : Ta → Option Out := (gSeq (gSetO 3 (fLst fNil))
    (gSeq (gFor (fZ3 (fCons (fB ixD (fV 0) (fC (.int (1)))) (fCons (fV 1) (fCons (fV 2) fNil)))) (gT (gs1 (gN 4) (gs1 (gN 5) (gs1 (gN 6) gs0))))
    b_product_of_1)
    (gFrz 3 (gSeq (gRet (fCl f_total (fCons (fV 3) fNil)))
    gNil))))
noncomputable def f_product_of : List D → R D := runDef 3 7 g_product_of
noncomputable def g_energy : Ta → Option Out := (gSeq (gEx (fCl f_check_margins (fCons (fV 0) (fCons (fV 1) fNil))))
    (gSeq (gRet (fCl f_product_of (fCons (fV 0) (fCons (fV 1) (fCons (fV 1) fNil)))))
    gNil))
noncomputable def f_energy : List D → R D := runDef 2 2 g_energy
noncomputable def b_surplus_of_1 : Ta → Option Out := (gSeq (gSet 7 (fCl f_multiply (fCons (fTup (fCons (fV 5) (fCons (fC (.int (1))) fNil))) (fCons (fV 6) fNil))))
    (gSeq (gPut 2 (fCl f_add (fCons (fOix 2 (fV 3)) (fCons (fV 7) fNil))) (fV 3))
    (gSeq (gPut 2 (fCl f_subtract (fCons (fOix 2 (fV 4)) (fCons (fV 7) fNil))) (fV 4))
    gNil)))
noncomputable def g_surplus_of : Ta → Option Out := (gSeq (gSetO 2 (fRep (fLst (fCons (fC k_ZERO) fNil)) (fB ixD (fV 0) (fC (.int (0))))))
    (gSeq (gFor (fZp (fCons (fB ixD (fV 0) (fC (.int (1)))) (fCons (fV 1) fNil))) (gT (gs1 (gT (gs1 (gN 3) (gs1 (gN 4) (gs1 (gN 5) gs0)))) (gs1 (gN 6) gs0)))
    b_surplus_of_1)
    (gFrz 2 (gSeq (gRet (fV 2))
    gNil))))
noncomputable def f_surplus_of : List D → R D := runDef 2 8 g_surplus_of
noncomputable def t_is_ring_of_1 : Ta → R Bool := (fNo (fTr (fCl f_in_range (fCons (fV 2) (fCons (fC (.int (0))) (fCons (fB subD (fB ixD (fV 0) (fC (.int (0)))) (fC (.int (1)))) fNil))))))
noncomputable def e_is_ring_of_1 : Ta → R D := (fV 2)
noncomputable def t_is_ring_of_2 : Ta → R Bool := (fTr (fB isN (fCl f_match_index (fCons (fV 0) (fCons (fV 2) (fCons (fV 3) fNil)))) (fC .none)))
noncomputable def e_is_ring_of_2 : Ta → R D := (fC (.int (1)))
noncomputable def g_is_ring_of : Ta → Option Out := (gSeq (gIf (fOr (fNo (fTr (fU (isiD "list") (fV 1)))) (fOr (fTr (fB ltD (fN lenDs (fCons (fV 1) fNil)) (fC (.int (3))))) (fTr (fFr (fLc (fSq (fV 1)) (gN 2) t_is_ring_of_1 e_is_ring_of_1 [2])))))
    (gSeq (gRet (fC (.bool false)))
    gNil)
    gNil)
    (gSeq (gIf (fTr (fB neD (fLenSet (fV 1)) (fN lenDs (fCons (fV 1) fNil))))
    (gSeq (gRet (fC (.bool false)))
    gNil)
    gNil)
    (gSeq (gRet (fNoV (fFr (fLc (fZp (fCons (fV 1) (fCons (fB addD (fSl (fV 1) (some (fC (.int (1)))) none) (fSl (fV 1) none (some (fC (.int (1)))))) fNil))) (gT (gs1 (gN 2) (gs1 (gN 3) gs0))) t_is_ring_of_2 e_is_ring_of_2 [2, 3]))))
    gNil)))
noncomputable def f_is_ring_of : List D → R D := runDef 2 4 g_is_ring_of
noncomputable def g_is_ring : Ta → Option Out := (gSeq (gEx (fCl f_check_schedule (fCons (fV 0) fNil)))
    (gSeq (gRet (fCl f_is_ring_of (fCons (fV 0) (fCons (fV 1) fNil))))
    gNil))
noncomputable def f_is_ring : List D → R D := runDef 2 2 g_is_ring
noncomputable def e_balance_rows_1 : Ta → R (List D) := (fCat (fRep (fLst (fCons (fC k_ZERO) fNil)) (fB ixD (fV 0) (fC (.int (0))))) (fLst (fCons (fB ixD (fV 1) (fV 9)) fNil)))
noncomputable def b_balance_rows_2 : Ta → Option Out := (gSeq (gPutM 2 (fCl f_add (fCons (fMix 2 (fV 6) (fV 6)) (fCons (fTup (fCons (fV 5) (fCons (fC (.int (1))) fNil))) fNil))) (fV 6) (fV 6))
    (gSeq (gPutM 2 (fCl f_subtract (fCons (fMix 2 (fV 6) (fV 7)) (fCons (fTup (fCons (fV 5) (fCons (fC (.int (1))) fNil))) fNil))) (fV 6) (fV 7))
    gNil))
noncomputable def b_balance_rows_1 : Ta → Option Out := (gSeq (gFor (fSq (fTup (fCons (fTup (fCons (fV 3) (fCons (fV 4) fNil))) (fCons (fTup (fCons (fV 4) (fCons (fV 3) fNil))) fNil)))) (gT (gs1 (gN 6) (gs1 (gN 7) gs0)))
    b_balance_rows_2)
    gNil)
noncomputable def e_balance_rows_2 : Ta → R D := (fIf (fTr (fB inD (fV 9) (fV 8))) (fC k_ONE) (fC k_ZERO))
noncomputable def b_balance_rows_3 : Ta → Option Out := (gSeq (gAppM 2 (fCat (fLc (fRg1 (fCons (fB ixD (fV 0) (fC (.int (0)))) fNil)) (gN 9) fYes e_balance_rows_2 [9]) (fLst (fCons (fC k_ZERO) fNil))))
    gNil)
noncomputable def g_balance_rows : Ta → Option Out := (gSeq (gSetM 2 (fLcM (fRg1 (fCons (fB ixD (fV 0) (fC (.int (0)))) fNil)) (gN 9) e_balance_rows_1 [9]))
    (gSeq (gFor (fSq (fB ixD (fV 0) (fC (.int (1))))) (gT (gs1 (gN 3) (gs1 (gN 4) (gs1 (gN 5) gs0))))
    b_balance_rows_1)
    (gSeq (gFor (fSq (fCl f_groups_of (fCons (fV 0) fNil))) (gN 8)
    b_balance_rows_3)
    (gFrzM 2 (gSeq (gRet (fV 2))
    gNil)))))
noncomputable def f_balance_rows : List D → R D := runDef 2 10 g_balance_rows
noncomputable def g_fitted : Ta → Option Out := (gSeq (gRet (fN tupDs (fCons (fCl f_solve (fCons (fCl f_balance_rows (fCons (fV 0) (fCons (fCl f_surplus_of (fCons (fV 0) (fCons (fV 1) fNil))) fNil))) (fCons (fB ixD (fV 0) (fC (.int (0)))) fNil))) fNil)))
    gNil)
noncomputable def f_fitted : List D → R D := runDef 2 2 g_fitted
noncomputable def g_strengths : Ta → Option Out := (gSeq (gEx (fCl f_check_margins (fCons (fV 0) (fCons (fV 1) fNil))))
    (gSeq (gRet (fCl f_fitted (fCons (fV 0) (fCons (fV 1) fNil))))
    gNil))
noncomputable def f_strengths : List D → R D := runDef 2 2 g_strengths
noncomputable def e_differences_of_1 : Ta → R D := (fCl f_subtract (fCons (fB ixD (fV 1) (fV 2)) (fCons (fB ixD (fV 1) (fV 3)) fNil)))
noncomputable def g_differences_of : Ta → Option Out := (gSeq (gRet (fN tupDs (fCons (fFr (fLc (fSq (fB ixD (fV 0) (fC (.int (1))))) (gT (gs1 (gN 2) (gs1 (gN 3) (gs1 (gN 4) gs0)))) fYes e_differences_of_1 [2, 3, 4])) fNil)))
    gNil)
noncomputable def f_differences_of : List D → R D := runDef 2 5 g_differences_of
noncomputable def t_differences_1 : Ta → R Bool := (fNo (fTr (fCl f_is_rational (fCons (fV 2) fNil))))
noncomputable def e_differences_1 : Ta → R D := (fV 2)
noncomputable def g_differences : Ta → Option Out := (gSeq (gEx (fCl f_check_schedule (fCons (fV 0) fNil)))
    (gSeq (gIf (fOr (fNo (fTr (fU (isiD "tuple") (fV 1)))) (fOr (fTr (fB neD (fN lenDs (fCons (fV 1) fNil)) (fB ixD (fV 0) (fC (.int (0)))))) (fTr (fFr (fLc (fSq (fV 1)) (gN 2) t_differences_1 e_differences_1 [2])))))
    (gSeq (gRaise "InvalidStrengths")
    gNil)
    gNil)
    (gSeq (gRet (fCl f_differences_of (fCons (fV 0) (fCons (fV 1) fNil))))
    gNil)))
noncomputable def f_differences : List D → R D := runDef 2 3 g_differences
noncomputable def t_check_connected_1 : Ta → R Bool := (fAnd (fTr (fB inD (fV 1) (fV 3))) (fTr (fB inD (fV 2) (fV 3))))
noncomputable def e_check_connected_1 : Ta → R D := (fV 3)
noncomputable def g_check_connected : Ta → Option Out := (gSeq (gEx (fCl f_check_player (fCons (fV 0) (fCons (fV 1) fNil))))
    (gSeq (gEx (fCl f_check_player (fCons (fV 0) (fCons (fV 2) fNil))))
    (gSeq (gIf (fNo (fTr (fFr (fLc (fSq (fCl f_groups_of (fCons (fV 0) fNil))) (gN 3) t_check_connected_1 e_check_connected_1 [3]))))
    (gSeq (gRaise "Disconnected")
    gNil)
    gNil)
    gNil)))
noncomputable def f_check_connected : List D → R D := runDef 3 4 g_check_connected
noncomputable def g_resistance_of : Ta → Option Out := (gSeq (gIf (fTr (fB eqD (fV 1) (fV 2)))
    (gSeq (gRet (fC k_ZERO))
    gNil)
    gNil)
    (gSeq (gSetO 3 (fRep (fLst (fCons (fC k_ZERO) fNil)) (fB ixD (fV 0) (fC (.int (0))))))
    (gSeq (gPut2 3 (fTup (fCons (fC k_ONE) (fCons (fTup (fCons (fU negD (fC (.int (1)))) (fCons (fC (.int (1))) fNil))) fNil))) (fV 1) (fV 2))
    (gFrz 3 (gSeq (gSet 4 (fCl f_solve (fCons (fCl f_balance_rows (fCons (fV 0) (fCons (fV 3) fNil))) (fCons (fB ixD (fV 0) (fC (.int (0)))) fNil))))
    (gSeq (gRet (fCl f_subtract (fCons (fB ixD (fV 4) (fV 1)) (fCons (fB ixD (fV 4) (fV 2)) fNil))))
    gNil))))))
noncomputable def f_resistance_of : List D → R D := runDef 3 5 g_resistance_of
noncomputable def g_resistance : Ta → Option Out := (gSeq (gEx (fCl f_check_schedule (fCons (fV 0) fNil)))
    (gSeq (gEx (fCl f_check_connected (fCons (fV 0) (fCons (fV 1) (fCons (fV 2) fNil)))))
    (gSeq (gRet (fCl f_resistance_of (fCons (fV 0) (fCons (fV 1) (fCons (fV 2) fNil)))))
    gNil)))
noncomputable def f_resistance : List D → R D := runDef 3 3 g_resistance
noncomputable def t_place_of_1 : Ta → R Bool := (fTr (fB ltD (fSl (fV 2) none (some (fC (.int (2))))) (fSl (fV 1) none (some (fC (.int (2)))))))
noncomputable def e_place_of_1 : Ta → R D := (fV 2)
noncomputable def g_place_of : Ta → Option Out := (gSeq (gRet (fN lenDs (fCons (fFr (fLc (fSq (fB ixD (fV 0) (fC (.int (1))))) (gN 2) t_place_of_1 e_place_of_1 [2])) fNil)))
    gNil)
noncomputable def f_place_of : List D → R D := runDef 2 3 g_place_of
noncomputable def g_extended : Ta → Option Out := (gSeq (gSet 2 (fCl f_place_of (fCons (fV 0) (fCons (fV 1) fNil))))
    (gSeq (gRet (fTup (fCons (fB ixD (fV 0) (fC (.int (0)))) (fCons (fB addD (fB addD (fSl (fB ixD (fV 0) (fC (.int (1)))) none (some (fV 2))) (fTup (fCons (fV 1) fNil))) (fSl (fB ixD (fV 0) (fC (.int (1)))) (some (fV 2)) none)) fNil))))
    gNil))
noncomputable def f_extended : List D → R D := runDef 2 3 g_extended
noncomputable def g_with_match : Ta → Option Out := (gSeq (gEx (fCl f_check_margins (fCons (fV 0) (fCons (fV 1) fNil))))
    (gSeq (gIf (fOr (fNo (fTr (fCl f_is_match (fCons (fB ixD (fV 0) (fC (.int (0)))) (fCons (fV 2) fNil))))) (fTr (fB notN (fCl f_match_index (fCons (fV 0) (fCons (fB ixD (fV 2) (fC (.int (0)))) (fCons (fB ixD (fV 2) (fC (.int (1)))) fNil)))) (fC .none))))
    (gSeq (gRaise "InvalidMatch")
    gNil)
    gNil)
    (gSeq (gIf (fNo (fTr (fCl f_is_rational (fCons (fV 3) fNil))))
    (gSeq (gRaise "InvalidMargins")
    gNil)
    gNil)
    (gSeq (gSet 4 (fCl f_place_of (fCons (fV 0) (fCons (fV 2) fNil))))
    (gSeq (gRet (fTup (fCons (fCl f_extended (fCons (fV 0) (fCons (fV 2) fNil))) (fCons (fB addD (fB addD (fSl (fV 1) none (some (fV 4))) (fTup (fCons (fV 3) fNil))) (fSl (fV 1) (some (fV 4)) none)) fNil))))
    gNil)))))
noncomputable def f_with_match : List D → R D := runDef 4 5 g_with_match
noncomputable def b_triangle_flow_1 : Ta → Option Out := (gSeq (gSet 8 (fCl f_match_index (fCons (fV 0) (fCons (fV 6) (fCons (fV 7) fNil)))))
    (gSeq (gPut 5 (fTup (fCons (fIf (fTr (fB ltD (fV 6) (fV 7))) (fC (.int (1))) (fU negD (fC (.int (1))))) (fCons (fB ixD (fB ixD (fB ixD (fV 0) (fC (.int (1)))) (fV 8)) (fC (.int (2)))) fNil))) (fV 8))
    gNil))
noncomputable def g_triangle_flow : Ta → Option Out := (gSeq (gAsg (fV 1) (gT (gs1 (gN 2) (gs1 (gN 3) (gs1 (gN 4) gs0)))))
    (gSeq (gSetO 5 (fRep (fLst (fCons (fC k_ZERO) fNil)) (fN lenDs (fCons (fB ixD (fV 0) (fC (.int (1)))) fNil))))
    (gSeq (gFor (fSq (fTup (fCons (fTup (fCons (fV 2) (fCons (fV 3) fNil))) (fCons (fTup (fCons (fV 3) (fCons (fV 4) fNil))) (fCons (fTup (fCons (fV 4) (fCons (fV 2) fNil))) fNil))))) (gT (gs1 (gN 6) (gs1 (gN 7) gs0)))
    b_triangle_flow_1)
    (gFrz 5 (gSeq (gRet (fN tupDs (fCons (fV 5) fNil)))
    gNil)))))
noncomputable def f_triangle_flow : List D → R D := runDef 2 9 g_triangle_flow
noncomputable def e_dimensions_1 : Ta → R D := (fCl f_triangle_flow (fCons (fV 0) (fCons (fV 4) fNil)))
noncomputable def e_dimensions_2 : Ta → R D := (fB addD (fFr (fLs (fV 5))) (fFr (fLst (fCons (fC k_ZERO) fNil))))
noncomputable def g_dimensions : Ta → Option Out := (gSeq (gEx (fCl f_check_schedule (fCons (fV 0) fNil)))
    (gSeq (gSet 1 (fB subD (fB ixD (fV 0) (fC (.int (0)))) (fN lenDs (fCons (fCl f_groups_of (fCons (fV 0) fNil)) fNil))))
    (gSeq (gSetO 2 (fLc (fSq (fCl f_triangles_of (fCons (fV 0) fNil))) (gN 4) fYes e_dimensions_1 [4]))
    (gFrz 2 (gSeq (gSet 3 (fN lenDs (fCons (fCl f_eliminate (fCons (fFr (fLc (fSq (fV 2)) (gN 5) fYes e_dimensions_2 [5])) (fCons (fN lenDs (fCons (fB ixD (fV 0) (fC (.int (1)))) fNil)) fNil))) fNil)))
    (gSeq (gRet (fTup (fCons (fV 1) (fCons (fV 3) (fCons (fB subD (fB subD (fN lenDs (fCons (fB ixD (fV 0) (fC (.int (1)))) fNil)) (fV 1)) (fV 3)) fNil)))))
    gNil))))))
noncomputable def f_dimensions : List D → R D := runDef 1 6 g_dimensions
noncomputable def g__law_cell : Ta → Option Out := (gSeq (gIf (fTr (fB ltD (fV 1) (fN lenDs (fCons (fV 0) fNil))))
    (gSeq (gRet (fB ixD (fV 0) (fV 1)))
    gNil)
    gNil)
    (gSeq (gRet (fC (.int (0))))
    gNil))
noncomputable def f__law_cell : List D → R D := runDef 2 2 g__law_cell
noncomputable def g__law_whole : Ta → Option Out := (gSeq (gRet (vAnd (fU (isiD "int") (fV 0)) (fNoV (fU (isiD "bool") (fV 0)))))
    gNil)
noncomputable def f__law_whole : List D → R D := runDef 1 1 g__law_whole
noncomputable def b__law_row_1 : Ta → Option Out := (gSeq (gIf (fTr (fB ltD (fCl f__law_cell (fCons (fV 0) (fCons (fV 1) fNil))) (fB powD (fC (.int (10))) (fC (.int (18))))))
    (gSeq (gSet 2 (fB modD (fB addD (fB addD (fB addD (fB mulD (fV 2) (fC (.int (48271)))) (fB mulD (fC (.int (131))) (fV 4))) (fC (.int (7)))) (fCl f__law_cell (fCons (fV 0) (fCons (fB modD (fB addD (fB addD (fV 1) (fC (.int (1)))) (fV 4)) (fC (.int (20)))) fNil)))) (fC (.int (2147483647)))))
    (gSeq (gApp 3 (fB modD (fB divD (fV 2) (fC (.int (11)))) (fC (.int (1000)))))
    gNil))
    (gSeq (gApp 3 (fB modD (fV 2) (fC (.int (1000)))))
    (gSeq (gSet 2 (fB divD (fV 2) (fC (.int (1000)))))
    gNil)))
    gNil)
noncomputable def g__law_row : Ta → Option Out := (gSeq (gSet 2 (fCl f__law_cell (fCons (fV 0) (fCons (fV 1) fNil))))
    (gSeq (gSetO 3 (fLst fNil))
    (gSeq (gFor (fRg1 (fCons (fC (.int (60))) fNil)) (gN 4)
    b__law_row_1)
    (gFrz 3 (gSeq (gRet (fV 3))
    gNil)))))
noncomputable def f__law_row : List D → R D := runDef 2 5 g__law_row
noncomputable def g__law_in : Ta → Option Out := (gSeq (gRet (vAnd (fCl f__law_whole (fCons (fV 0) fNil)) (fCh leD leD (fV 1) (fV 0) (fV 2))))
    gNil)
noncomputable def f__law_in : List D → R D := runDef 3 3 g__law_in
noncomputable def b__law_schedule_2 : Ta → Option Out := (gSeq (gIf (fTr (fB leD (fB modD (fB ixD (fV 3) (fB modD (fB addD (fB addD (fC (.int (5))) (fB mulD (fC (.int (7))) (fV 6))) (fV 7)) (fC (.int (60))))) (fC (.int (4)))) (fB modD (fB ixD (fV 3) (fC (.int (1)))) (fC (.int (5))))))
    (gSeq (gApp 5 (fTup (fCons (fV 6) (fCons (fV 7) (fCons (fB addD (fC (.int (1))) (fB modD (fB ixD (fV 3) (fB modD (fB addD (fB addD (fC (.int (30))) (fB mulD (fC (.int (5))) (fV 6))) (fV 7)) (fC (.int (60))))) (fB ixD (fFr (fLst (fCons (fC (.int (1))) (fCons (fC (.int (4))) (fCons (fC (.int (9))) fNil))))) (fB modD (fB ixD (fV 3) (fC (.int (2)))) (fC (.int (3))))))) fNil)))))
    gNil)
    gNil)
    gNil)
noncomputable def b__law_schedule_1 : Ta → Option Out := (gSeq (gFor (fRg2 (fCons (fB addD (fV 6) (fC (.int (1)))) (fCons (fV 4) fNil))) (gN 7)
    b__law_schedule_2)
    gNil)
noncomputable def g__law_schedule : Ta → Option Out := (gSeq (gSet 3 (fCl f__law_row (fCons (fV 0) (fCons (fV 1) fNil))))
    (gSeq (gSet 4 (fB addD (fC (.int (2))) (fB modD (fB ixD (fV 3) (fC (.int (0)))) (fB subD (fV 2) (fC (.int (1)))))))
    (gSeq (gSetO 5 (fLst fNil))
    (gSeq (gFor (fRg1 (fCons (fV 4) fNil)) (gN 6)
    b__law_schedule_1)
    (gFrz 5 (gSeq (gRet (fTup (fCons (fV 4) (fCons (fN tupDs (fCons (fV 5) fNil)) fNil))))
    gNil))))))
noncomputable def f__law_schedule : List D → R D := runDef 3 8 g__law_schedule
noncomputable def b__law_is_schedule_1 : Ta → Option Out := (gSeq (gSet 2 (fB ixD (fB ixD (fV 0) (fC (.int (1)))) (fV 1)))
    (gSeq (gIf (fOr (fNo (fTr (fU (isiD "tuple") (fV 2)))) (fOr (fTr (fB neD (fN lenDs (fCons (fV 2) fNil)) (fC (.int (3))))) (fNo (fTr (fCl f__law_in (fCons (fB ixD (fV 2) (fC (.int (0)))) (fCons (fC (.int (0))) (fCons (fB subD (fB ixD (fV 0) (fC (.int (0)))) (fC (.int (2)))) fNil))))))))
    (gSeq (gRet (fC (.bool false)))
    gNil)
    gNil)
    (gSeq (gIf (fOr (fNo (fTr (fCl f__law_in (fCons (fB ixD (fV 2) (fC (.int (1)))) (fCons (fB addD (fB ixD (fV 2) (fC (.int (0)))) (fC (.int (1)))) (fCons (fB subD (fB ixD (fV 0) (fC (.int (0)))) (fC (.int (1)))) fNil)))))) (fNo (fTr (fCl f__law_in (fCons (fB ixD (fV 2) (fC (.int (2)))) (fCons (fC (.int (1))) (fCons (fC (.int (9))) fNil)))))))
    (gSeq (gRet (fC (.bool false)))
    gNil)
    gNil)
    (gSeq (gIf (fAnd (fTr (fB gtD (fV 1) (fC (.int (0))))) (fTr (fB geD (fSl (fB ixD (fB ixD (fV 0) (fC (.int (1)))) (fB subD (fV 1) (fC (.int (1))))) none (some (fC (.int (2))))) (fSl (fV 2) none (some (fC (.int (2))))))))
    (gSeq (gRet (fC (.bool false)))
    gNil)
    gNil)
    gNil))))
noncomputable def g__law_is_schedule : Ta → Option Out := (gSeq (gIf (fOr (fNo (fTr (fU (isiD "tuple") (fV 0)))) (fOr (fTr (fB neD (fN lenDs (fCons (fV 0) fNil)) (fC (.int (2))))) (fNo (fTr (fCl f__law_in (fCons (fB ixD (fV 0) (fC (.int (0)))) (fCons (fC (.int (2))) (fCons (fC (.int (6))) fNil))))))))
    (gSeq (gRet (fC (.bool false)))
    gNil)
    gNil)
    (gSeq (gIf (fNo (fTr (fU (isiD "tuple") (fB ixD (fV 0) (fC (.int (1)))))))
    (gSeq (gRet (fC (.bool false)))
    gNil)
    gNil)
    (gSeq (gFor (fRg1 (fCons (fN lenDs (fCons (fB ixD (fV 0) (fC (.int (1)))) fNil)) fNil)) (gN 1)
    b__law_is_schedule_1)
    (gSeq (gRet (fC (.bool true)))
    gNil))))
noncomputable def f__law_is_schedule : List D → R D := runDef 1 3 g__law_is_schedule
noncomputable def b__law_groups_2 : Ta → Option Out := (gSeq (gSet 6 (fN minDs (fCons (fOix 1 (fV 3)) (fCons (fOix 1 (fV 4)) fNil))))
    (gSeq (gPut 1 (fV 6) (fV 3))
    (gSeq (gPut 1 (fV 6) (fV 4))
    gNil)))
noncomputable def b__law_groups_1 : Ta → Option Out := (gSeq (gFor (fSq (fB ixD (fV 0) (fC (.int (1))))) (gT (gs1 (gN 3) (gs1 (gN 4) (gs1 (gN 5) gs0))))
    b__law_groups_2)
    gNil)
noncomputable def t__law_groups_1 : Ta → R Bool := (fTr (fB eqD (fB ixD (fV 1) (fV 9)) (fV 8)))
noncomputable def e__law_groups_1 : Ta → R D := (fV 9)
noncomputable def b__law_groups_3 : Ta → Option Out := (gSeq (gApp 7 (fFr (fLc (fRg1 (fCons (fB ixD (fV 0) (fC (.int (0)))) fNil)) (gN 9) t__law_groups_1 e__law_groups_1 [9])))
    gNil)
noncomputable def g__law_groups : Ta → Option Out := (gSeq (gSetO 1 (fLr (fB ixD (fV 0) (fC (.int (0))))))
    (gSeq (gFor (fRg1 (fCons (fB ixD (fV 0) (fC (.int (0)))) fNil)) (gN 2)
    b__law_groups_1)
    (gSeq (gSetO 7 (fLst fNil))
    (gFrz 1 (gSeq (gFor (fSq (fSortSet (fV 1))) (gN 8)
    b__law_groups_3)
    (gFrz 7 (gSeq (gRet (fV 7))
    gNil)))))))
noncomputable def f__law_groups : List D → R D := runDef 1 10 g__law_groups
noncomputable def g__law_without : Ta → Option Out := (gSeq (gRet (fTup (fCons (fB ixD (fV 0) (fC (.int (0)))) (fCons (fB addD (fSl (fB ixD (fV 0) (fC (.int (1)))) none (some (fV 1))) (fSl (fB ixD (fV 0) (fC (.int (1)))) (some (fB addD (fV 1) (fC (.int (1))))) none)) fNil))))
    gNil)
noncomputable def f__law_without : List D → R D := runDef 2 2 g__law_without
noncomputable def g_inner_product : Ta → Option Out := (gSeq (gEx (fCl f_check_margins (fCons (fV 0) (fCons (fV 1) fNil))))
    (gSeq (gEx (fCl f_check_margins (fCons (fV 0) (fCons (fV 2) fNil))))
    (gSeq (gRet (fCl f_product_of (fCons (fV 0) (fCons (fV 1) (fCons (fV 2) fNil)))))
    gNil)))
noncomputable def f_inner_product : List D → R D := runDef 3 3 g_inner_product
noncomputable def g_surplus : Ta → Option Out := (gSeq (gEx (fCl f_check_margins (fCons (fV 0) (fCons (fV 1) fNil))))
    (gSeq (gRet (fCl f_surplus_of (fCons (fV 0) (fCons (fV 1) fNil))))
    gNil))
noncomputable def f_surplus : List D → R D := runDef 2 2 g_surplus
noncomputable def t_is_cyclic_1 : Ta → R Bool := (fTr (fB neD (fV 2) (fC k_ZERO)))
noncomputable def e_is_cyclic_1 : Ta → R D := (fV 2)
noncomputable def g_is_cyclic : Ta → Option Out := (gSeq (gEx (fCl f_check_margins (fCons (fV 0) (fCons (fV 1) fNil))))
    (gSeq (gRet (fNoV (fFr (fLc (fSq (fCl f_surplus_of (fCons (fV 0) (fCons (fV 1) fNil)))) (gN 2) t_is_cyclic_1 e_is_cyclic_1 [2]))))
    gNil))
noncomputable def f_is_cyclic : List D → R D := runDef 2 3 g_is_cyclic
noncomputable def g_margin_of : Ta → Option Out := (gSeq (gSet 4 (fB ixD (fV 1) (fCl f_match_index (fCons (fV 0) (fCons (fV 2) (fCons (fV 3) fNil))))))
    (gSeq (gRet (fIf (fTr (fB ltD (fV 2) (fV 3))) (fV 4) (fTup (fCons (fU negD (fB ixD (fV 4) (fC (.int (0))))) (fCons (fB ixD (fV 4) (fC (.int (1)))) fNil)))))
    gNil))
noncomputable def f_margin_of : List D → R D := runDef 4 5 g_margin_of
noncomputable def e_ring_of_1 : Ta → R D := (fCl f_margin_of (fCons (fV 0) (fCons (fV 1) (fCons (fV 3) (fCons (fV 4) fNil)))))
noncomputable def g_ring_of : Ta → Option Out := (gSeq (gRet (fCl f_total (fCons (fFr (fLc (fZp (fCons (fV 2) (fCons (fB addD (fSl (fV 2) (some (fC (.int (1)))) none) (fSl (fV 2) none (some (fC (.int (1)))))) fNil))) (gT (gs1 (gN 3) (gs1 (gN 4) gs0))) fYes e_ring_of_1 [3, 4])) fNil)))
    gNil)
noncomputable def f_ring_of : List D → R D := runDef 3 5 g_ring_of
noncomputable def g_ring_sum : Ta → Option Out := (gSeq (gEx (fCl f_check_margins (fCons (fV 0) (fCons (fV 1) fNil))))
    (gSeq (gIf (fNo (fTr (fCl f_is_ring_of (fCons (fV 0) (fCons (fV 2) fNil)))))
    (gSeq (gRaise "InvalidPlayer")
    gNil)
    gNil)
    (gSeq (gRet (fCl f_ring_of (fCons (fV 0) (fCons (fV 1) (fCons (fV 2) fNil)))))
    gNil)))
noncomputable def f_ring_sum : List D → R D := runDef 3 3 g_ring_sum
noncomputable def e_minus_1 : Ta → R D := (fCl f_subtract (fCons (fV 2) (fCons (fV 3) fNil)))
noncomputable def g_minus : Ta → Option Out := (gSeq (gRet (fN tupDs (fCons (fFr (fLc (fZp (fCons (fV 0) (fCons (fV 1) fNil))) (gT (gs1 (gN 2) (gs1 (gN 3) gs0))) fYes e_minus_1 [2, 3])) fNil)))
    gNil)
noncomputable def f_minus : List D → R D := runDef 2 4 g_minus
noncomputable def g_gradient_of : Ta → Option Out := (gSeq (gRet (fCl f_differences_of (fCons (fV 0) (fCons (fCl f_fitted (fCons (fV 0) (fCons (fV 1) fNil))) fNil))))
    gNil)
noncomputable def f_gradient_of : List D → R D := runDef 2 2 g_gradient_of
noncomputable def g_gradient_part : Ta → Option Out := (gSeq (gEx (fCl f_check_margins (fCons (fV 0) (fCons (fV 1) fNil))))
    (gSeq (gRet (fCl f_gradient_of (fCons (fV 0) (fCons (fV 1) fNil))))
    gNil))
noncomputable def f_gradient_part : List D → R D := runDef 2 2 g_gradient_part
noncomputable def g_cyclic_part : Ta → Option Out := (gSeq (gEx (fCl f_check_margins (fCons (fV 0) (fCons (fV 1) fNil))))
    (gSeq (gRet (fCl f_minus (fCons (fV 1) (fCons (fCl f_gradient_of (fCons (fV 0) (fCons (fV 1) fNil))) fNil))))
    gNil))
noncomputable def f_cyclic_part : List D → R D := runDef 2 2 g_cyclic_part
noncomputable def w__law_gcd_1 : Ta → R Bool := (fTr (fB neD (fV 1) (fC (.int (0)))))
noncomputable def b__law_gcd_1 : Ta → Option Out := (gSeq (gPar 0 1 (fV 1) (fB modD (fV 0) (fV 1)))
    gNil)
noncomputable def g__law_gcd : Ta → Option Out := (gSeq (gWh w__law_gcd_1
    b__law_gcd_1)
    (gSeq (gRet (fN absDs (fCons (fV 0) fNil)))
    gNil))
noncomputable def f__law_gcd : List D → R D := runDef 2 2 g__law_gcd
noncomputable def g__law_fraction : Ta → Option Out := (gSeq (gIf (fTr (fB ltD (fV 1) (fC (.int (0)))))
    (gSeq (gPar 0 1 (fU negD (fV 0)) (fU negD (fV 1)))
    gNil)
    gNil)
    (gSeq (gSet 2 (fCl f__law_gcd (fCons (fV 0) (fCons (fV 1) fNil))))
    (gSeq (gRet (fTup (fCons (fB divD (fV 0) (fV 2)) (fCons (fB divD (fV 1) (fV 2)) fNil))))
    gNil)))
noncomputable def f__law_fraction : List D → R D := runDef 2 3 g__law_fraction
noncomputable def g__law_plus : Ta → Option Out := (gSeq (gRet (fCl f__law_fraction (fCons (fB addD (fB mulD (fB ixD (fV 0) (fC (.int (0)))) (fB ixD (fV 1) (fC (.int (1))))) (fB mulD (fB ixD (fV 1) (fC (.int (0)))) (fB ixD (fV 0) (fC (.int (1)))))) (fCons (fB mulD (fB ixD (fV 0) (fC (.int (1)))) (fB ixD (fV 1) (fC (.int (1))))) fNil))))
    gNil)
noncomputable def f__law_plus : List D → R D := runDef 2 2 g__law_plus
noncomputable def g__law_times : Ta → Option Out := (gSeq (gRet (fCl f__law_fraction (fCons (fB mulD (fB ixD (fV 0) (fC (.int (0)))) (fB ixD (fV 1) (fC (.int (0))))) (fCons (fB mulD (fB ixD (fV 0) (fC (.int (1)))) (fB ixD (fV 1) (fC (.int (1))))) fNil))))
    gNil)
noncomputable def f__law_times : List D → R D := runDef 2 2 g__law_times
noncomputable def g__law_minus : Ta → Option Out := (gSeq (gRet (fCl f__law_plus (fCons (fV 0) (fCons (fTup (fCons (fU negD (fB ixD (fV 1) (fC (.int (0))))) (fCons (fB ixD (fV 1) (fC (.int (1)))) fNil))) fNil))))
    gNil)
noncomputable def f__law_minus : List D → R D := runDef 2 2 g__law_minus
noncomputable def b__law_total_1 : Ta → Option Out := (gSeq (gSet 1 (fCl f__law_plus (fCons (fV 1) (fCons (fV 2) fNil))))
    gNil)
noncomputable def g__law_total : Ta → Option Out := (gSeq (gSet 1 (fTup (fCons (fC (.int (0))) (fCons (fC (.int (1))) fNil))))
    (gSeq (gFor (fSq (fV 0)) (gN 2)
    b__law_total_1)
    (gSeq (gRet (fV 1))
    gNil)))
noncomputable def f__law_total : List D → R D := runDef 1 3 g__law_total
noncomputable def b__law_margins_1 : Ta → Option Out := (gSeq (gApp 5 (fCl f__law_fraction (fCons (fB subD (fB modD (fB ixD (fV 3) (fB modD (fV 6) (fC (.int (60))))) (fC (.int (21)))) (fC (.int (10)))) (fCons (fB ixD (fFr (fLst (fCons (fC (.int (1))) (fCons (fC (.int (1))) (fCons (fC (.int (2))) (fCons (fC (.int (3))) fNil)))))) (fB modD (fB ixD (fV 3) (fB modD (fB addD (fC (.int (20))) (fV 6)) (fC (.int (60))))) (fC (.int (4))))) fNil))))
    gNil)
noncomputable def e__law_margins_1 : Ta → R D := (fB subD (fB modD (fB ixD (fV 3) (fB addD (fC (.int (41))) (fV 8))) (fC (.int (15)))) (fC (.int (7))))
noncomputable def e__law_margins_2 : Ta → R D := (fB subD (fB modD (fB ixD (fV 3) (fB addD (fC (.int (41))) (fV 8))) (fC (.int (15)))) (fC (.int (7))))
noncomputable def e__law_margins_3 : Ta → R D := (fTup (fCons (fB subD (fB ixD (fV 7) (fV 9)) (fB ixD (fV 7) (fV 10))) (fCons (fC (.int (1))) fNil)))
noncomputable def g__law_margins : Ta → Option Out := (gSeq (gSet 3 (fCl f__law_row (fCons (fV 0) (fCons (fV 1) fNil))))
    (gSeq (gSet 4 (fN lenDs (fCons (fB ixD (fV 2) (fC (.int (1)))) fNil)))
    (gSeq (gSetO 5 (fLst fNil))
    (gSeq (gFor (fRg1 (fCons (fV 4) fNil)) (gN 6)
    b__law_margins_1)
    (gSeq (gIf (fTr (fB gtD (fB modD (fB ixD (fV 3) (fC (.int (40)))) (fC (.int (3)))) (fC (.int (0)))))
    (gSeq (gSet 7 (fFr (fLc (fRg1 (fCons (fB ixD (fV 2) (fC (.int (0)))) fNil)) (gN 8) fYes e__law_margins_2 [8])))
    (gSeq (gSetO 5 (fLc (fSq (fB ixD (fV 2) (fC (.int (1))))) (gT (gs1 (gN 9) (gs1 (gN 10) (gs1 (gN 11) gs0)))) fYes e__law_margins_3 [9, 10, 11]))
    (gSeq (gIf (fAnd (fTr (fB eqD (fB modD (fB ixD (fV 3) (fC (.int (50)))) (fC (.int (2)))) (fC (.int (0))))) (fTr (fB gtD (fV 4) (fC (.int (0))))))
    (gSeq (gPut 5 (fTup (fCons (fB subD (fB modD (fB ixD (fV 3) (fC (.int (52)))) (fC (.int (9)))) (fC (.int (4)))) (fCons (fC (.int (1))) fNil))) (fB modD (fB ixD (fV 3) (fC (.int (51)))) (fV 4)))
    gNil)
    gNil)
    gNil)))
    gNil)
    (gFrz 5 (gSeq (gRet (fN tupDs (fCons (fV 5) fNil)))
    gNil)))))))
noncomputable def f__law_margins : List D → R D := runDef 3 12 g__law_margins
noncomputable def b__law_is_margins_1 : Ta → Option Out := (gSeq (gIf (fOr (fNo (fTr (fU (isiD "tuple") (fV 2)))) (fOr (fTr (fB neD (fN lenDs (fCons (fV 2) fNil)) (fC (.int (2))))) (fOr (fNo (fTr (fCl f__law_whole (fCons (fB ixD (fV 2) (fC (.int (0)))) fNil)))) (fNo (fTr (fCl f__law_whole (fCons (fB ixD (fV 2) (fC (.int (1)))) fNil)))))))
    (gSeq (gRet (fC (.bool false)))
    gNil)
    gNil)
    (gSeq (gIf (fOr (fTr (fB ltD (fB ixD (fV 2) (fC (.int (1)))) (fC (.int (1))))) (fTr (fB neD (fCl f__law_gcd (fCons (fB ixD (fV 2) (fC (.int (0)))) (fCons (fB ixD (fV 2) (fC (.int (1)))) fNil))) (fC (.int (1))))))
    (gSeq (gRet (fC (.bool false)))
    gNil)
    gNil)
    gNil))
noncomputable def g__law_is_margins : Ta → Option Out := (gSeq (gIf (fOr (fNo (fTr (fU (isiD "tuple") (fV 1)))) (fTr (fB neD (fN lenDs (fCons (fV 1) fNil)) (fN lenDs (fCons (fB ixD (fV 0) (fC (.int (1)))) fNil)))))
    (gSeq (gRet (fC (.bool false)))
    gNil)
    gNil)
    (gSeq (gFor (fSq (fV 1)) (gN 2)
    b__law_is_margins_1)
    (gSeq (gRet (fC (.bool true)))
    gNil)))
noncomputable def f__law_is_margins : List D → R D := runDef 2 3 g__law_is_margins
noncomputable def b__law_inner_1 : Ta → Option Out := (gSeq (gApp 3 (fCl f__law_times (fCons (fTup (fCons (fB ixD (fV 4) (fC (.int (2)))) (fCons (fC (.int (1))) fNil))) (fCons (fCl f__law_times (fCons (fV 5) (fCons (fV 6) fNil))) fNil))))
    gNil)
noncomputable def g__law_inner : Ta → Option Out := (gSeq (gSetO 3 (fLst fNil))
    (gSeq (gFor (fZ3 (fCons (fB ixD (fV 0) (fC (.int (1)))) (fCons (fV 1) (fCons (fV 2) fNil)))) (gT (gs1 (gN 4) (gs1 (gN 5) (gs1 (gN 6) gs0))))
    b__law_inner_1)
    (gFrz 3 (gSeq (gRet (fCl f__law_total (fCons (fV 3) fNil)))
    gNil))))
noncomputable def f__law_inner : List D → R D := runDef 3 7 g__law_inner
noncomputable def b__law_surplus_1 : Ta → Option Out := (gSeq (gSet 5 (fCl f__law_times (fCons (fTup (fCons (fB ixD (fV 3) (fC (.int (2)))) (fCons (fC (.int (1))) fNil))) (fCons (fV 4) fNil))))
    (gSeq (gPut 2 (fCl f__law_plus (fCons (fOix 2 (fB ixD (fV 3) (fC (.int (0))))) (fCons (fV 5) fNil))) (fB ixD (fV 3) (fC (.int (0)))))
    (gSeq (gPut 2 (fCl f__law_minus (fCons (fOix 2 (fB ixD (fV 3) (fC (.int (1))))) (fCons (fV 5) fNil))) (fB ixD (fV 3) (fC (.int (1)))))
    gNil)))
noncomputable def g__law_surplus : Ta → Option Out := (gSeq (gSetO 2 (fRep (fLst (fCons (fTup (fCons (fC (.int (0))) (fCons (fC (.int (1))) fNil))) fNil)) (fB ixD (fV 0) (fC (.int (0))))))
    (gSeq (gFor (fZp (fCons (fB ixD (fV 0) (fC (.int (1)))) (fCons (fV 1) fNil))) (gT (gs1 (gN 3) (gs1 (gN 4) gs0)))
    b__law_surplus_1)
    (gFrz 2 (gSeq (gRet (fV 2))
    gNil))))
noncomputable def f__law_surplus : List D → R D := runDef 2 6 g__law_surplus
noncomputable def g__law_margins_error : Ta → Option Out := (gSeq (gTry (gSeq (gIf (fTr (fB eqD (fV 0) (fC (.int (0)))))
    (gSeq (gEx (fCl f_energy (fCons (fV 1) (fCons (fV 3) fNil))))
    gNil)
    (gSeq (gIf (fTr (fB eqD (fV 0) (fC (.int (1)))))
    (gSeq (gEx (fCl f_inner_product (fCons (fV 1) (fCons (fV 2) (fCons (fV 3) fNil)))))
    gNil)
    (gSeq (gIf (fTr (fB eqD (fV 0) (fC (.int (2)))))
    (gSeq (gEx (fCl f_gradient_part (fCons (fV 1) (fCons (fV 3) fNil))))
    gNil)
    (gSeq (gEx (fCl f_ring_sum (fCons (fV 1) (fCons (fV 3) (fCons (fC .none) fNil)))))
    gNil))
    gNil))
    gNil))
    gNil) (tabOf [("InvalidMargins", "margins")]))
    (gSeq (gRet (fC (.str "none")))
    gNil))
noncomputable def f__law_margins_error : List D → R D := runDef 4 5 g__law_margins_error
noncomputable def b__law_margin_1 : Ta → Option Out := (gSeq (gIf (fAnd (fTr (fB eqD (fB ixD (fV 4) (fC (.int (0)))) (fV 2))) (fTr (fB eqD (fB ixD (fV 4) (fC (.int (1)))) (fV 3))))
    (gSeq (gRet (fV 5))
    gNil)
    gNil)
    (gSeq (gIf (fAnd (fTr (fB eqD (fB ixD (fV 4) (fC (.int (0)))) (fV 3))) (fTr (fB eqD (fB ixD (fV 4) (fC (.int (1)))) (fV 2))))
    (gSeq (gRet (fTup (fCons (fU negD (fB ixD (fV 5) (fC (.int (0))))) (fCons (fB ixD (fV 5) (fC (.int (1)))) fNil))))
    gNil)
    gNil)
    gNil))
noncomputable def g__law_margin : Ta → Option Out := (gSeq (gFor (fZp (fCons (fB ixD (fV 0) (fC (.int (1)))) (fCons (fV 1) fNil))) (gT (gs1 (gN 4) (gs1 (gN 5) gs0)))
    b__law_margin_1)
    (gSeq (gRet (fC .none))
    gNil))
noncomputable def f__law_margin : List D → R D := runDef 4 6 g__law_margin
noncomputable def t__law_is_ring_1 : Ta → R Bool := (fNo (fTr (fCl f__law_in (fCons (fV 2) (fCons (fC (.int (0))) (fCons (fB subD (fB ixD (fV 0) (fC (.int (0)))) (fC (.int (1)))) fNil))))))
noncomputable def e__law_is_ring_1 : Ta → R D := (fV 2)
noncomputable def e__law_is_ring_2 : Ta → R D := (fSl (fV 6) none (some (fC (.int (2)))))
noncomputable def b__law_is_ring_1 : Ta → Option Out := (gSeq (gPar 2 5 (fB ixD (fV 1) (fB subD (fV 4) (fC (.int (1))))) (fB ixD (fV 1) (fV 4)))
    (gSeq (gIf (fTr (fB ninD (fTup (fCons (fN minDs (fCons (fV 2) (fCons (fV 5) fNil))) (fCons (fN maxDs (fCons (fV 2) (fCons (fV 5) fNil))) fNil))) (fV 3)))
    (gSeq (gRet (fC (.bool false)))
    gNil)
    gNil)
    gNil))
noncomputable def g__law_is_ring : Ta → Option Out := (gSeq (gIf (fOr (fNo (fTr (fU (isiD "list") (fV 1)))) (fTr (fB ltD (fN lenDs (fCons (fV 1) fNil)) (fC (.int (3))))))
    (gSeq (gRet (fC (.bool false)))
    gNil)
    gNil)
    (gSeq (gIf (fOr (fTr (fB neD (fFr (fLc (fSq (fV 1)) (gN 2) t__law_is_ring_1 e__law_is_ring_1 [2])) (fFr (fLst fNil)))) (fTr (fB neD (fLenSet (fV 1)) (fN lenDs (fCons (fV 1) fNil)))))
    (gSeq (gRet (fC (.bool false)))
    gNil)
    gNil)
    (gSeq (gSetO 3 (fLc (fSq (fB ixD (fV 0) (fC (.int (1))))) (gN 6) fYes e__law_is_ring_2 [6]))
    (gFrz 3 (gSeq (gFor (fRg1 (fCons (fN lenDs (fCons (fV 1) fNil)) fNil)) (gN 4)
    b__law_is_ring_1)
    (gSeq (gRet (fC (.bool true)))
    gNil))))))
noncomputable def f__law_is_ring : List D → R D := runDef 2 7 g__law_is_ring
noncomputable def b__law_ring_sum_1 : Ta → Option Out := (gSeq (gSet 3 (fCl f__law_plus (fCons (fV 3) (fCons (fCl f__law_margin (fCons (fV 0) (fCons (fV 1) (fCons (fB ixD (fV 2) (fB subD (fV 4) (fC (.int (1))))) (fCons (fB ixD (fV 2) (fV 4)) fNil))))) fNil))))
    gNil)
noncomputable def g__law_ring_sum : Ta → Option Out := (gSeq (gSet 3 (fTup (fCons (fC (.int (0))) (fCons (fC (.int (1))) fNil))))
    (gSeq (gFor (fRg1 (fCons (fN lenDs (fCons (fV 2) fNil)) fNil)) (gN 4)
    b__law_ring_sum_1)
    (gSeq (gRet (fV 3))
    gNil)))
noncomputable def f__law_ring_sum : List D → R D := runDef 3 5 g__law_ring_sum
noncomputable def b__law_permutation_1 : Ta → Option Out := (gSeq (gPopT 4 4 3 (fB modD (fB ixD (fV 0) (fB modD (fB addD (fV 1) (fV 5)) (fC (.int (60))))) (fOln 3)))
    gNil)
noncomputable def g__law_permutation : Ta → Option Out := (gSeq (gSetO 3 (fLr (fV 2)))
    (gSeq (gSet 4 (fTup fNil))
    (gSeq (gFor (fRg1 (fCons (fV 2) fNil)) (gN 5)
    b__law_permutation_1)
    (gSeq (gRet (fV 4))
    gNil))))
noncomputable def f__law_permutation : List D → R D := runDef 3 6 g__law_permutation
noncomputable def g__law_ring_error : Ta → Option Out := (gSeq (gTry (gSeq (gEx (fCl f_ring_sum (fCons (fV 0) (fCons (fV 1) (fCons (fV 2) fNil)))))
    gNil) (tabOf [("InvalidPlayer", "player")]))
    (gSeq (gRet (fC (.str "none")))
    gNil))
noncomputable def f__law_ring_error : List D → R D := runDef 3 4 g__law_ring_error
noncomputable def b_reach_2 : Ta → Option Out := (gSeq (gIf (fAnd (fKin 3 false (fV 6)) (fAnd (fTr (fB neD (fV 6) (fV 5))) (fTr (fB notN (fCl f_match_index (fCons (fV 0) (fCons (fV 5) (fCons (fV 6) fNil)))) (fC .none)))))
    (gSeq (gAsg (fKix 3 (fV 5)) (gT (gs1 (gN 7) (gs1 (gN 8) gs0))))
    (gSeq (gPutK 3 (fTup (fCons (fB addD (fV 7) (fFr (fLst (fCons (fV 6) fNil)))) (fCons (fCl f_add (fCons (fV 8) (fCons (fCl f_margin_of (fCons (fV 0) (fCons (fV 1) (fCons (fV 5) (fCons (fV 6) fNil))))) fNil))) fNil))) (fV 6))
    (gSeq (gApp 4 (fV 6))
    gNil)))
    gNil)
    gNil)
noncomputable def w_reach_1 : Ta → R Bool := (fOtr 4)
noncomputable def b_reach_1 : Ta → Option Out := (gSeq (gPop 5 4 (fC (.int (0))))
    (gSeq (gFor (fRg1 (fCons (fB ixD (fV 0) (fC (.int (0)))) fNil)) (gN 6)
    b_reach_2)
    gNil))
noncomputable def g_reach : Ta → Option Out := (gSeq (gSetK 3 (fV 2) (fTup (fCons (fFr (fLst (fCons (fV 2) fNil))) (fCons (fC k_ZERO) fNil))))
    (gSeq (gSetO 4 (fLst (fCons (fV 2) fNil)))
    (gSeq (gWh w_reach_1
    b_reach_1)
    (gFrzK 3 (gSeq (gRet (fV 3))
    gNil)))))
noncomputable def f_reach : List D → R D := runDef 3 9 g_reach
noncomputable def w_joined_1 : Ta → R Bool := (fAnd (fTr (fB ltD (fV 2) (fN minDs (fCons (fN lenDs (fCons (fV 0) fNil)) (fCons (fN lenDs (fCons (fV 1) fNil)) fNil))))) (fTr (fB eqD (fB ixD (fV 0) (fV 2)) (fB ixD (fV 1) (fV 2)))))
noncomputable def b_joined_1 : Ta → Option Out := (gSeq (gAg 2 (fC (.int (1))))
    gNil)
noncomputable def g_joined : Ta → Option Out := (gSeq (gSet 2 (fC (.int (0))))
    (gSeq (gWh w_joined_1
    b_joined_1)
    (gSeq (gRet (fB addD (fSl (fV 0) (some (fB subD (fV 2) (fC (.int (1))))) none) (fFr (fRv (fSl (fV 1) (some (fV 2)) none)))))
    gNil)))
noncomputable def f_joined : List D → R D := runDef 2 3 g_joined
noncomputable def b_contradiction_2 : Ta → Option Out := (gSeq (gIf (fAnd (fTr (fB (kinD true) (fV 4) (fV 3))) (fTr (fB neD (fCl f_add (fCons (fB ixD (fB kixD (fV 3) (fV 4)) (fC (.int (1)))) (fCons (fV 7) fNil))) (fB ixD (fB kixD (fV 3) (fV 5)) (fC (.int (1)))))))
    (gSeq (gRet (fCl f_joined (fCons (fB ixD (fB kixD (fV 3) (fV 4)) (fC (.int (0)))) (fCons (fB ixD (fB kixD (fV 3) (fV 5)) (fC (.int (0)))) fNil))))
    gNil)
    gNil)
    gNil)
noncomputable def b_contradiction_1 : Ta → Option Out := (gSeq (gSet 3 (fCl f_reach (fCons (fV 0) (fCons (fV 1) (fCons (fV 2) fNil)))))
    (gSeq (gFor (fZp (fCons (fB ixD (fV 0) (fC (.int (1)))) (fCons (fV 1) fNil))) (gT (gs1 (gT (gs1 (gN 4) (gs1 (gN 5) (gs1 (gN 6) gs0)))) (gs1 (gN 7) gs0)))
    b_contradiction_2)
    gNil))
noncomputable def g_contradiction : Ta → Option Out := (gSeq (gFor (fRg1 (fCons (fB ixD (fV 0) (fC (.int (0)))) fNil)) (gN 2)
    b_contradiction_1)
    (gSeq (gRet (fC .none))
    gNil))
noncomputable def f_contradiction : List D → R D := runDef 2 8 g_contradiction
noncomputable def g_is_consistent : Ta → Option Out := (gSeq (gEx (fCl f_check_margins (fCons (fV 0) (fCons (fV 1) fNil))))
    (gSeq (gRet (fB isN (fCl f_contradiction (fCons (fV 0) (fCons (fV 1) fNil))) (fC .none)))
    gNil))
noncomputable def f_is_consistent : List D → R D := runDef 2 2 g_is_consistent
noncomputable def g_contradicting_ring : Ta → Option Out := (gSeq (gEx (fCl f_check_margins (fCons (fV 0) (fCons (fV 1) fNil))))
    (gSeq (gSet 2 (fCl f_contradiction (fCons (fV 0) (fCons (fV 1) fNil))))
    (gSeq (gIf (fTr (fB isN (fV 2) (fC .none)))
    (gSeq (gRaise "Consistent")
    gNil)
    gNil)
    (gSeq (gRet (fV 2))
    gNil))))
noncomputable def f_contradicting_ring : List D → R D := runDef 2 3 g_contradicting_ring
noncomputable def b__law_levels_1 : Ta → Option Out := (gSeq (gPut 2 (fTup (fCons (fC (.int (0))) (fCons (fC (.int (1))) fNil))) (fB ixD (fV 3) (fC (.int (0)))))
    gNil)
noncomputable def b__law_levels_3 : Ta → Option Out := (gSeq (gPar 7 8 (fB ixD (fV 5) (fC (.int (0)))) (fB ixD (fV 5) (fC (.int (1)))))
    (gSeq (gIf (fAnd (fTr (fB notN (fOix 2 (fV 7)) (fC .none))) (fTr (fB isN (fOix 2 (fV 8)) (fC .none))))
    (gSeq (gPut 2 (fCl f__law_minus (fCons (fOix 2 (fV 7)) (fCons (fV 6) fNil))) (fV 8))
    gNil)
    (gSeq (gIf (fAnd (fTr (fB notN (fOix 2 (fV 8)) (fC .none))) (fTr (fB isN (fOix 2 (fV 7)) (fC .none))))
    (gSeq (gPut 2 (fCl f__law_plus (fCons (fOix 2 (fV 8)) (fCons (fV 6) fNil))) (fV 7))
    gNil)
    gNil)
    gNil))
    gNil))
noncomputable def b__law_levels_2 : Ta → Option Out := (gSeq (gFor (fZp (fCons (fB ixD (fV 0) (fC (.int (1)))) (fCons (fV 1) fNil))) (gT (gs1 (gN 5) (gs1 (gN 6) gs0)))
    b__law_levels_3)
    gNil)
noncomputable def g__law_levels : Ta → Option Out := (gSeq (gSetO 2 (fRep (fLst (fCons (fC .none) fNil)) (fB ixD (fV 0) (fC (.int (0))))))
    (gSeq (gFor (fSq (fCl f__law_groups (fCons (fV 0) fNil))) (gN 3)
    b__law_levels_1)
    (gSeq (gFor (fRg1 (fCons (fB ixD (fV 0) (fC (.int (0)))) fNil)) (gN 4)
    b__law_levels_2)
    (gFrz 2 (gSeq (gRet (fV 2))
    gNil)))))
noncomputable def f__law_levels : List D → R D := runDef 2 9 g__law_levels
noncomputable def g__law_contradiction : Ta → Option Out := (gSeq (gTry (gSeq (gRet (fCl f_contradicting_ring (fCons (fV 0) (fCons (fV 1) fNil))))
    gNil) (tabOf [("Consistent", "consistent")]))
    gNil)
noncomputable def f__law_contradiction : List D → R D := runDef 2 3 g__law_contradiction
noncomputable def e__law_apart_1 : Ta → R D := (fCl f__law_minus (fCons (fV 2) (fCons (fV 3) fNil)))
noncomputable def g__law_apart : Ta → Option Out := (gSeq (gRet (fN tupDs (fCons (fFr (fLc (fZp (fCons (fV 0) (fCons (fV 1) fNil))) (gT (gs1 (gN 2) (gs1 (gN 3) gs0))) fYes e__law_apart_1 [2, 3])) fNil)))
    gNil)
noncomputable def f__law_apart : List D → R D := runDef 2 4 g__law_apart
noncomputable def g__law_strengths_error : Ta → Option Out := (gSeq (gTry (gSeq (gEx (fCl f_differences (fCons (fV 0) (fCons (fV 1) fNil))))
    gNil) (tabOf [("InvalidStrengths", "strengths")]))
    (gSeq (gRet (fC (.str "none")))
    gNil))
noncomputable def f__law_strengths_error : List D → R D := runDef 2 3 g__law_strengths_error
noncomputable def e_gram_rows_1 : Ta → R D := (fCl f_product_of (fCons (fV 0) (fCons (fV 3) (fCons (fV 5) fNil))))
noncomputable def e_gram_rows_2 : Ta → R D := (fB addD (fFr (fLc (fSq (fV 1)) (gN 5) fYes e_gram_rows_1 [5])) (fFr (fLst (fCons (fV 4) fNil))))
noncomputable def g_gram_rows : Ta → Option Out := (gSeq (gRet (fFr (fLc (fZp (fCons (fV 1) (fCons (fV 2) fNil))) (gT (gs1 (gN 3) (gs1 (gN 4) gs0))) fYes e_gram_rows_2 [3, 4])))
    gNil)
noncomputable def f_gram_rows : List D → R D := runDef 3 6 g_gram_rows
noncomputable def e_triangle_of_1 : Ta → R D := (fCl f_triangle_flow (fCons (fV 0) (fCons (fV 9) fNil)))
noncomputable def e_triangle_of_2 : Ta → R D := (fCl f_ring_of (fCons (fV 0) (fCons (fV 1) (fCons (fFr (fLs (fV 9))) fNil))))
noncomputable def e_triangle_of_3 : Ta → R D := (fCl f_add (fCons (fV 10) (fCons (fCl f_multiply (fCons (fV 7) (fCons (fV 11) fNil))) fNil)))
noncomputable def b_triangle_of_1 : Ta → Option Out := (gSeq (gSetO 6 (fLc (fZp (fCons (fV 6) (fCons (fV 8) fNil))) (gT (gs1 (gN 10) (gs1 (gN 11) gs0))) fYes e_triangle_of_3 [10, 11]))
    (gFrz 6 gNil))
noncomputable def g_triangle_of : Ta → Option Out := (gSeq (gSet 2 (fCl f_triangles_of (fCons (fV 0) fNil)))
    (gSeq (gSetO 3 (fLc (fSq (fV 2)) (gN 9) fYes e_triangle_of_1 [9]))
    (gFrz 3 (gSeq (gSetO 4 (fLc (fSq (fV 2)) (gN 9) fYes e_triangle_of_2 [9]))
    (gFrz 4 (gSeq (gSet 5 (fCl f_solve (fCons (fCl f_gram_rows (fCons (fV 0) (fCons (fV 3) (fCons (fV 4) fNil)))) (fCons (fN lenDs (fCons (fV 3) fNil)) fNil))))
    (gSeq (gSet 6 (fB mulD (fFr (fLst (fCons (fC k_ZERO) fNil))) (fN lenDs (fCons (fB ixD (fV 0) (fC (.int (1)))) fNil))))
    (gSeq (gFor (fZp (fCons (fV 5) (fCons (fV 3) fNil))) (gT (gs1 (gN 7) (gs1 (gN 8) gs0)))
    b_triangle_of_1)
    (gSeq (gRet (fN tupDs (fCons (fV 6) fNil)))
    gNil)))))))))
noncomputable def f_triangle_of : List D → R D := runDef 2 12 g_triangle_of
noncomputable def g_triangle_part : Ta → Option Out := (gSeq (gEx (fCl f_check_margins (fCons (fV 0) (fCons (fV 1) fNil))))
    (gSeq (gRet (fCl f_triangle_of (fCons (fV 0) (fCons (fV 1) fNil))))
    gNil))
noncomputable def f_triangle_part : List D → R D := runDef 2 2 g_triangle_part
noncomputable def g_harmonic_part : Ta → Option Out := (gSeq (gEx (fCl f_check_margins (fCons (fV 0) (fCons (fV 1) fNil))))
    (gSeq (gRet (fCl f_minus (fCons (fCl f_minus (fCons (fV 1) (fCons (fCl f_gradient_of (fCons (fV 0) (fCons (fV 1) fNil))) fNil))) (fCons (fCl f_triangle_of (fCons (fV 0) (fCons (fV 1) fNil))) fNil))))
    gNil))
noncomputable def f_harmonic_part : List D → R D := runDef 2 2 g_harmonic_part
noncomputable def e_curls_1 : Ta → R D := (fCl f_ring_of (fCons (fV 0) (fCons (fV 1) (fCons (fFr (fLs (fV 2))) fNil))))
noncomputable def g_curls : Ta → Option Out := (gSeq (gEx (fCl f_check_margins (fCons (fV 0) (fCons (fV 1) fNil))))
    (gSeq (gRet (fFr (fLc (fSq (fCl f_triangles_of (fCons (fV 0) fNil))) (gN 2) fYes e_curls_1 [2])))
    gNil))
noncomputable def f_curls : List D → R D := runDef 2 3 g_curls
noncomputable def e__law_triangles_1 : Ta → R D := (fSl (fV 6) none (some (fC (.int (2)))))
noncomputable def b__law_triangles_3 : Ta → Option Out := (gSeq (gIf (fAnd (fTr (fB inD (fTup (fCons (fV 3) (fCons (fV 4) fNil))) (fV 1))) (fAnd (fTr (fB inD (fTup (fCons (fV 3) (fCons (fV 5) fNil))) (fV 1))) (fTr (fB inD (fTup (fCons (fV 4) (fCons (fV 5) fNil))) (fV 1)))))
    (gSeq (gApp 2 (fTup (fCons (fV 3) (fCons (fV 4) (fCons (fV 5) fNil)))))
    gNil)
    gNil)
    gNil)
noncomputable def b__law_triangles_2 : Ta → Option Out := (gSeq (gFor (fRg2 (fCons (fB addD (fV 4) (fC (.int (1)))) (fCons (fB ixD (fV 0) (fC (.int (0)))) fNil))) (gN 5)
    b__law_triangles_3)
    gNil)
noncomputable def b__law_triangles_1 : Ta → Option Out := (gSeq (gFor (fRg2 (fCons (fB addD (fV 3) (fC (.int (1)))) (fCons (fB ixD (fV 0) (fC (.int (0)))) fNil))) (gN 4)
    b__law_triangles_2)
    gNil)
noncomputable def g__law_triangles : Ta → Option Out := (gSeq (gSetO 1 (fLc (fSq (fB ixD (fV 0) (fC (.int (1))))) (gN 6) fYes e__law_triangles_1 [6]))
    (gFrz 1 (gSeq (gSetO 2 (fLst fNil))
    (gSeq (gFor (fRg1 (fCons (fB ixD (fV 0) (fC (.int (0)))) fNil)) (gN 3)
    b__law_triangles_1)
    (gFrz 2 (gSeq (gRet (fV 2))
    gNil))))))
noncomputable def f__law_triangles : List D → R D := runDef 1 7 g__law_triangles
noncomputable def b__law_curls_1 : Ta → Option Out := (gSeq (gApp 2 (fCl f__law_ring_sum (fCons (fV 0) (fCons (fV 1) (fCons (fFr (fLst (fCons (fV 3) (fCons (fV 4) (fCons (fV 5) fNil))))) fNil)))))
    gNil)
noncomputable def g__law_curls : Ta → Option Out := (gSeq (gSetO 2 (fLst fNil))
    (gSeq (gFor (fSq (fCl f__law_triangles (fCons (fV 0) fNil))) (gT (gs1 (gN 3) (gs1 (gN 4) (gs1 (gN 5) gs0))))
    b__law_curls_1)
    (gFrz 2 (gSeq (gRet (fV 2))
    gNil))))
noncomputable def f__law_curls : List D → R D := runDef 2 6 g__law_curls
noncomputable def g_is_less : Ta → Option Out := (gSeq (gRet (fB ltD (fB mulD (fB ixD (fV 0) (fC (.int (0)))) (fB ixD (fV 1) (fC (.int (1))))) (fB mulD (fB ixD (fV 1) (fC (.int (0)))) (fB ixD (fV 0) (fC (.int (1)))))))
    gNil)
noncomputable def f_is_less : List D → R D := runDef 2 2 g_is_less
noncomputable def g_predict : Ta → Option Out := (gSeq (gEx (fCl f_check_margins (fCons (fV 0) (fCons (fV 1) fNil))))
    (gSeq (gEx (fCl f_check_connected (fCons (fV 0) (fCons (fV 2) (fCons (fV 3) fNil)))))
    (gSeq (gSet 4 (fCl f_fitted (fCons (fV 0) (fCons (fV 1) fNil))))
    (gSeq (gRet (fCl f_subtract (fCons (fB ixD (fV 4) (fV 2)) (fCons (fB ixD (fV 4) (fV 3)) fNil))))
    gNil))))
noncomputable def f_predict : List D → R D := runDef 4 5 g_predict
noncomputable def t_ranking_1 : Ta → R Bool := (fNo (fTr (fCl f_is_less (fCons (fB ixD (fV 2) (fV 6)) (fCons (fB ixD (fV 2) (fV 4)) fNil)))))
noncomputable def e_ranking_1 : Ta → R D := (fV 6)
noncomputable def b_ranking_1 : Ta → Option Out := (gSeq (gSet 5 (fN lenDs (fCons (fFr (fLc (fOw 3) (gN 6) t_ranking_1 e_ranking_1 [6])) fNil)))
    (gSeq (gIns 3 (fCons (fV 5) (fCons (fV 4) fNil)))
    gNil))
noncomputable def g_ranking : Ta → Option Out := (gSeq (gEx (fCl f_check_margins (fCons (fV 0) (fCons (fV 1) fNil))))
    (gSeq (gIf (fTr (fB gtD (fN lenDs (fCons (fCl f_groups_of (fCons (fV 0) fNil)) fNil)) (fC (.int (1)))))
    (gSeq (gRaise "Disconnected")
    gNil)
    gNil)
    (gSeq (gSet 2 (fCl f_fitted (fCons (fV 0) (fCons (fV 1) fNil))))
    (gSeq (gSetO 3 (fLst fNil))
    (gSeq (gFor (fRg1 (fCons (fB ixD (fV 0) (fC (.int (0)))) fNil)) (gN 4)
    b_ranking_1)
    (gFrz 3 (gSeq (gRet (fV 3))
    gNil)))))))
noncomputable def f_ranking : List D → R D := runDef 2 7 g_ranking
noncomputable def g__law_predict : Ta → Option Out := (gSeq (gTry (gSeq (gRet (fCl f_predict (fCons (fV 0) (fCons (fV 1) (fCons (fV 2) (fCons (fV 3) fNil))))))
    gNil) (tabOf [("Disconnected", "apart"), ("InvalidPlayer", "player")]))
    gNil)
noncomputable def f__law_predict : List D → R D := runDef 4 5 g__law_predict
noncomputable def g__law_ranking : Ta → Option Out := (gSeq (gTry (gSeq (gRet (fCl f_ranking (fCons (fV 0) (fCons (fV 1) fNil))))
    gNil) (tabOf [("Disconnected", "apart")]))
    gNil)
noncomputable def f__law_ranking : List D → R D := runDef 2 2 g__law_ranking
noncomputable def g_leverage_of : Ta → Option Out := (gSeq (gAsg (fB ixD (fB ixD (fV 0) (fC (.int (1)))) (fV 1)) (gT (gs1 (gN 2) (gs1 (gN 3) (gs1 (gN 4) gs0)))))
    (gSeq (gRet (fCl f_multiply (fCons (fTup (fCons (fV 4) (fCons (fC (.int (1))) fNil))) (fCons (fCl f_resistance_of (fCons (fV 0) (fCons (fV 2) (fCons (fV 3) fNil)))) fNil))))
    gNil))
noncomputable def f_leverage_of : List D → R D := runDef 2 5 g_leverage_of
noncomputable def e_leverages_1 : Ta → R D := (fCl f_leverage_of (fCons (fV 0) (fCons (fV 1) fNil)))
noncomputable def g_leverages : Ta → Option Out := (gSeq (gEx (fCl f_check_schedule (fCons (fV 0) fNil)))
    (gSeq (gRet (fFr (fLc (fRg1 (fCons (fN lenDs (fCons (fB ixD (fV 0) (fC (.int (1)))) fNil)) fNil)) (gN 1) fYes e_leverages_1 [1])))
    gNil))
noncomputable def f_leverages : List D → R D := runDef 1 2 g_leverages
noncomputable def g__law_resistance : Ta → Option Out := (gSeq (gTry (gSeq (gRet (fCl f_resistance (fCons (fV 0) (fCons (fV 1) (fCons (fV 2) fNil)))))
    gNil) (tabOf [("Disconnected", "apart"), ("InvalidPlayer", "player")]))
    gNil)
noncomputable def f__law_resistance : List D → R D := runDef 3 4 g__law_resistance
noncomputable def b__law_is_metric_3 : Ta → Option Out := (gSeq (gIf (fAnd (fTr (fB neD (fB ixD (fB ixD (fV 0) (fV 2)) (fV 4)) (fC (.str "apart")))) (fTr (fB neD (fB ixD (fB ixD (fV 0) (fV 4)) (fV 3)) (fC (.str "apart")))))
    (gSeq (gSet 5 (fCl f__law_minus (fCons (fCl f__law_plus (fCons (fB ixD (fB ixD (fV 0) (fV 2)) (fV 4)) (fCons (fB ixD (fB ixD (fV 0) (fV 4)) (fV 3)) fNil))) (fCons (fB ixD (fB ixD (fV 0) (fV 2)) (fV 3)) fNil))))
    (gSeq (gIf (fTr (fB ltD (fB ixD (fV 5) (fC (.int (0)))) (fC (.int (0)))))
    (gSeq (gRet (fC (.bool false)))
    gNil)
    gNil)
    gNil))
    gNil)
    gNil)
noncomputable def b__law_is_metric_2 : Ta → Option Out := (gSeq (gIf (fTr (fB neD (fB ixD (fB ixD (fV 0) (fV 2)) (fV 3)) (fB ixD (fB ixD (fV 0) (fV 3)) (fV 2))))
    (gSeq (gRet (fC (.bool false)))
    gNil)
    gNil)
    (gSeq (gFor (fRg1 (fCons (fV 1) fNil)) (gN 4)
    b__law_is_metric_3)
    gNil))
noncomputable def b__law_is_metric_1 : Ta → Option Out := (gSeq (gFor (fRg1 (fCons (fV 1) fNil)) (gN 3)
    b__law_is_metric_2)
    gNil)
noncomputable def g__law_is_metric : Ta → Option Out := (gSeq (gSet 1 (fN lenDs (fCons (fV 0) fNil)))
    (gSeq (gFor (fRg1 (fCons (fV 1) fNil)) (gN 2)
    b__law_is_metric_1)
    (gSeq (gRet (fC (.bool true)))
    gNil)))
noncomputable def f__law_is_metric : List D → R D := runDef 1 6 g__law_is_metric
noncomputable def g_check_index : Ta → Option Out := (gSeq (gEx (fCl f_check_schedule (fCons (fV 0) fNil)))
    (gSeq (gIf (fNo (fTr (fCl f_in_range (fCons (fV 1) (fCons (fC (.int (0))) (fCons (fB subD (fN lenDs (fCons (fB ixD (fV 0) (fC (.int (1)))) fNil)) (fC (.int (1)))) fNil))))))
    (gSeq (gRaise "InvalidMatch")
    gNil)
    gNil)
    gNil))
noncomputable def f_check_index : List D → R D := runDef 2 2 g_check_index
noncomputable def t_left_out_of_1 : Ta → R Bool := (fAnd (fTr (fB inD (fV 3) (fV 8))) (fTr (fB inD (fV 4) (fV 8))))
noncomputable def e_left_out_of_1 : Ta → R D := (fV 8)
noncomputable def g_left_out_of : Ta → Option Out := (gSeq (gAsg (fB ixD (fB ixD (fV 0) (fC (.int (1)))) (fV 2)) (gT (gs1 (gN 3) (gs1 (gN 4) (gs1 (gN 5) gs0)))))
    (gSeq (gSet 6 (fCl f_without_match (fCons (fV 0) (fCons (fV 2) fNil))))
    (gSeq (gIf (fNo (fTr (fFr (fLc (fSq (fCl f_groups_of (fCons (fV 6) fNil))) (gN 8) t_left_out_of_1 e_left_out_of_1 [8]))))
    (gSeq (gRet (fC .none))
    gNil)
    gNil)
    (gSeq (gSet 7 (fCl f_fitted (fCons (fV 6) (fCons (fB addD (fSl (fV 1) none (some (fV 2))) (fSl (fV 1) (some (fB addD (fV 2) (fC (.int (1))))) none)) fNil))))
    (gSeq (gRet (fCl f_subtract (fCons (fB ixD (fV 7) (fV 3)) (fCons (fB ixD (fV 7) (fV 4)) fNil))))
    gNil)))))
noncomputable def f_left_out_of : List D → R D := runDef 3 9 g_left_out_of
noncomputable def g_left_out : Ta → Option Out := (gSeq (gEx (fCl f_check_margins (fCons (fV 0) (fCons (fV 1) fNil))))
    (gSeq (gEx (fCl f_check_index (fCons (fV 0) (fCons (fV 2) fNil))))
    (gSeq (gRet (fCl f_left_out_of (fCons (fV 0) (fCons (fV 1) (fCons (fV 2) fNil)))))
    gNil)))
noncomputable def f_left_out : List D → R D := runDef 3 3 g_left_out
noncomputable def g__law_left_out : Ta → Option Out := (gSeq (gTry (gSeq (gRet (fCl f_left_out (fCons (fV 0) (fCons (fV 1) (fCons (fV 2) fNil)))))
    gNil) (tabOf [("InvalidMatch", "match")]))
    gNil)
noncomputable def f__law_left_out : List D → R D := runDef 3 4 g__law_left_out
noncomputable def e_unit_margins_1 : Ta → R D := (fIf (fTr (fB eqD (fV 2) (fV 1))) (fC k_ONE) (fC k_ZERO))
noncomputable def g_unit_margins : Ta → Option Out := (gSeq (gRet (fN tupDs (fCons (fFr (fLc (fRg1 (fCons (fN lenDs (fCons (fB ixD (fV 0) (fC (.int (1)))) fNil)) fNil)) (gN 2) fYes e_unit_margins_1 [2])) fNil)))
    gNil)
noncomputable def f_unit_margins : List D → R D := runDef 2 3 g_unit_margins
noncomputable def g_influence : Ta → Option Out := (gSeq (gEx (fCl f_check_index (fCons (fV 0) (fCons (fV 1) fNil))))
    (gSeq (gEx (fCl f_check_connected (fCons (fV 0) (fCons (fV 2) (fCons (fV 3) fNil)))))
    (gSeq (gSet 4 (fCl f_fitted (fCons (fV 0) (fCons (fCl f_unit_margins (fCons (fV 0) (fCons (fV 1) fNil))) fNil))))
    (gSeq (gRet (fCl f_subtract (fCons (fB ixD (fV 4) (fV 2)) (fCons (fB ixD (fV 4) (fV 3)) fNil))))
    gNil))))
noncomputable def f_influence : List D → R D := runDef 4 5 g_influence
noncomputable def g__law_influence : Ta → Option Out := (gSeq (gTry (gSeq (gRet (fCl f_influence (fCons (fV 0) (fCons (fV 1) (fCons (fV 2) (fCons (fV 3) fNil))))))
    gNil) (tabOf [("InvalidMatch", "match"), ("InvalidPlayer", "player"), ("Disconnected", "apart")]))
    gNil)
noncomputable def f__law_influence : List D → R D := runDef 4 5 g__law_influence
noncomputable def g__law_with : Ta → Option Out := (gSeq (gTry (gSeq (gRet (fCl f_with_match (fCons (fV 0) (fCons (fV 1) (fCons (fV 2) (fCons (fV 3) fNil))))))
    gNil) (tabOf [("InvalidMatch", "match"), ("InvalidMargins", "margins")]))
    gNil)
noncomputable def f__law_with : List D → R D := runDef 4 5 g__law_with
noncomputable def b_total_of_2 : Ta → Option Out := (gSeq (gSet 1 (fCl f_add (fCons (fV 1) (fCons (fCl f_resistance_of (fCons (fV 0) (fCons (fV 3) (fCons (fV 2) fNil)))) fNil))))
    gNil)
noncomputable def b_total_of_1 : Ta → Option Out := (gSeq (gFor (fRg1 (fCons (fV 2) fNil)) (gN 3)
    b_total_of_2)
    gNil)
noncomputable def g_total_of : Ta → Option Out := (gSeq (gSet 1 (fC k_ZERO))
    (gSeq (gFor (fRg1 (fCons (fB ixD (fV 0) (fC (.int (0)))) fNil)) (gN 2)
    b_total_of_1)
    (gSeq (gRet (fV 1))
    gNil)))
noncomputable def f_total_of : List D → R D := runDef 1 4 g_total_of
noncomputable def g_total_resistance : Ta → Option Out := (gSeq (gEx (fCl f_check_schedule (fCons (fV 0) fNil)))
    (gSeq (gIf (fTr (fB gtD (fN lenDs (fCons (fCl f_groups_of (fCons (fV 0) fNil)) fNil)) (fC (.int (1)))))
    (gSeq (gRaise "Disconnected")
    gNil)
    gNil)
    (gSeq (gRet (fCl f_total_of (fCons (fV 0) fNil)))
    gNil)))
noncomputable def f_total_resistance : List D → R D := runDef 1 1 g_total_resistance
noncomputable def b_best_new_match_2 : Ta → Option Out := (gSeq (gIf (fTr (fB isN (fCl f_match_index (fCons (fV 0) (fCons (fV 2) (fCons (fV 3) fNil)))) (fC .none)))
    (gSeq (gSet 4 (fCl f_total_of (fCons (fCl f_extended (fCons (fV 0) (fCons (fTup (fCons (fV 2) (fCons (fV 3) (fCons (fC (.int (1))) fNil)))) fNil))) fNil)))
    (gSeq (gIf (fOr (fTr (fB isN (fV 1) (fC .none))) (fTr (fCl f_is_less (fCons (fV 4) (fCons (fB ixD (fV 1) (fC (.int (0)))) fNil)))))
    (gSeq (gSet 1 (fTup (fCons (fV 4) (fCons (fTup (fCons (fV 2) (fCons (fV 3) fNil))) fNil))))
    gNil)
    gNil)
    gNil))
    gNil)
    gNil)
noncomputable def b_best_new_match_1 : Ta → Option Out := (gSeq (gFor (fRg2 (fCons (fB addD (fV 2) (fC (.int (1)))) (fCons (fB ixD (fV 0) (fC (.int (0)))) fNil))) (gN 3)
    b_best_new_match_2)
    gNil)
noncomputable def g_best_new_match : Ta → Option Out := (gSeq (gEx (fCl f_check_schedule (fCons (fV 0) fNil)))
    (gSeq (gIf (fTr (fB gtD (fN lenDs (fCons (fCl f_groups_of (fCons (fV 0) fNil)) fNil)) (fC (.int (1)))))
    (gSeq (gRaise "Disconnected")
    gNil)
    gNil)
    (gSeq (gSet 1 (fC .none))
    (gSeq (gFor (fRg1 (fCons (fB ixD (fV 0) (fC (.int (0)))) fNil)) (gN 2)
    b_best_new_match_1)
    (gSeq (gRet (fIf (fTr (fB isN (fV 1) (fC .none))) (fC .none) (fB ixD (fV 1) (fC (.int (1))))))
    gNil)))))
noncomputable def f_best_new_match : List D → R D := runDef 1 5 g_best_new_match
noncomputable def b__law_pair_total_2 : Ta → Option Out := (gSeq (gSet 1 (fCl f__law_plus (fCons (fV 1) (fCons (fCl f_resistance (fCons (fV 0) (fCons (fV 2) (fCons (fV 3) fNil)))) fNil))))
    gNil)
noncomputable def b__law_pair_total_1 : Ta → Option Out := (gSeq (gFor (fRg2 (fCons (fB addD (fV 2) (fC (.int (1)))) (fCons (fB ixD (fV 0) (fC (.int (0)))) fNil))) (gN 3)
    b__law_pair_total_2)
    gNil)
noncomputable def g__law_pair_total : Ta → Option Out := (gSeq (gSet 1 (fTup (fCons (fC (.int (0))) (fCons (fC (.int (1))) fNil))))
    (gSeq (gFor (fRg1 (fCons (fB ixD (fV 0) (fC (.int (0)))) fNil)) (gN 2)
    b__law_pair_total_1)
    (gSeq (gRet (fV 1))
    gNil)))
noncomputable def f__law_pair_total : List D → R D := runDef 1 4 g__law_pair_total
noncomputable def g__law_best : Ta → Option Out := (gSeq (gTry (gSeq (gRet (fCl f_best_new_match (fCons (fV 0) fNil)))
    gNil) (tabOf [("Disconnected", "apart")]))
    gNil)
noncomputable def f__law_best : List D → R D := runDef 1 1 g__law_best
noncomputable def g__law_total_resistance : Ta → Option Out := (gSeq (gTry (gSeq (gRet (fCl f_total_resistance (fCons (fV 0) fNil)))
    gNil) (tabOf [("Disconnected", "apart")]))
    gNil)
noncomputable def f__law_total_resistance : List D → R D := runDef 1 2 g__law_total_resistance
noncomputable def t_relabel_1 : Ta → R Bool := (fNo (fTr (fCl f_in_range (fCons (fV 9) (fCons (fC (.int (0))) (fCons (fB subD (fB ixD (fV 0) (fC (.int (0)))) (fC (.int (1)))) fNil))))))
noncomputable def e_relabel_1 : Ta → R D := (fV 9)
noncomputable def b_relabel_1 : Ta → Option Out := (gSeq (gPar 7 8 (fB ixD (fV 1) (fV 4)) (fB ixD (fV 1) (fV 5)))
    (gSeq (gApp 2 (fTup (fCons (fN minDs (fCons (fV 7) (fCons (fV 8) fNil))) (fCons (fN maxDs (fCons (fV 7) (fCons (fV 8) fNil))) (fCons (fV 6) (fCons (fV 3) (fCons (fIf (fTr (fB ltD (fV 7) (fV 8))) (fC (.int (1))) (fU negD (fC (.int (1))))) fNil)))))))
    gNil))
noncomputable def e_relabel_2 : Ta → R D := (fSl (fV 9) (some (fC (.int (3)))) none)
noncomputable def e_relabel_3 : Ta → R D := (fSl (fV 9) none (some (fC (.int (3)))))
noncomputable def g_relabel : Ta → Option Out := (gSeq (gEx (fCl f_check_schedule (fCons (fV 0) fNil)))
    (gSeq (gIf (fOr (fNo (fTr (fU (isiD "tuple") (fV 1)))) (fTr (fFr (fLc (fSq (fV 1)) (gN 9) t_relabel_1 e_relabel_1 [9]))))
    (gSeq (gRaise "InvalidPermutation")
    gNil)
    gNil)
    (gSeq (gIf (fTr (fB neD (fU sortD (fV 1)) (fFr (fLr (fB ixD (fV 0) (fC (.int (0))))))))
    (gSeq (gRaise "InvalidPermutation")
    gNil)
    gNil)
    (gSeq (gSetO 2 (fLst fNil))
    (gSeq (gFor (fEn (fCons (fB ixD (fV 0) (fC (.int (1)))) fNil)) (gT (gs1 (gN 3) (gs1 (gT (gs1 (gN 4) (gs1 (gN 5) (gs1 (gN 6) gs0)))) gs0)))
    b_relabel_1)
    (gFrz 2 (gSeq (gSet 2 (fU sortD (fV 2)))
    (gSeq (gRet (fTup (fCons (fTup (fCons (fB ixD (fV 0) (fC (.int (0)))) (fCons (fN tupDs (fCons (fFr (fLc (fSq (fV 2)) (gN 9) fYes e_relabel_3 [9])) fNil)) fNil))) (fCons (fFr (fLc (fSq (fV 2)) (gN 9) fYes e_relabel_2 [9])) fNil))))
    gNil))))))))
noncomputable def f_relabel : List D → R D := runDef 2 10 g_relabel
noncomputable def g__law_relabel_error : Ta → Option Out := (gSeq (gTry (gSeq (gEx (fCl f_relabel (fCons (fV 0) (fCons (fV 1) fNil))))
    gNil) (tabOf [("InvalidPermutation", "permutation")]))
    (gSeq (gRet (fC (.str "none")))
    gNil))
noncomputable def f__law_relabel_error : List D → R D := runDef 2 3 g__law_relabel_error
noncomputable def t_parse_integer_1 : Ta → R Bool := (fTr (fB ninD (fV 2) (fC k_DIGITS)))
noncomputable def e_parse_integer_1 : Ta → R D := (fV 2)
noncomputable def g_parse_integer : Ta → Option Out := (gSeq (gSet 1 (fIf (fTr (fB eqD (fSl (fV 0) none (some (fC (.int (1))))) (fC (.str "-")))) (fSl (fV 0) (some (fC (.int (1)))) none) (fV 0)))
    (gSeq (gIf (fOr (fNo (fTr (fCh leD leD (fC (.int (1))) (fN lenDs (fCons (fV 1) fNil)) (fC (.int (30)))))) (fOr (fTr (fFr (fLc (fSq (fV 1)) (gN 2) t_parse_integer_1 e_parse_integer_1 [2]))) (fTr (fB neD (fN strDs (fCons (fN intDs (fCons (fV 0) fNil)) fNil)) (fV 0)))))
    (gSeq (gRet (fC .none))
    gNil)
    gNil)
    (gSeq (gRet (fN intDs (fCons (fV 0) fNil)))
    gNil)))
noncomputable def f_parse_integer : List D → R D := runDef 1 3 g_parse_integer
noncomputable def t_are_rationals_1 : Ta → R Bool := (fNo (fTr (fCl f_is_rational (fCons (fV 2) fNil))))
noncomputable def e_are_rationals_1 : Ta → R D := (fV 2)
noncomputable def g_are_rationals : Ta → Option Out := (gSeq (gIf (fOr (fNo (fTr (fU (isiD "list") (fV 1)))) (fTr (fB neD (fN lenDs (fCons (fV 1) fNil)) (fV 0))))
    (gSeq (gRet (fC (.bool false)))
    gNil)
    gNil)
    (gSeq (gRet (fNoV (fFr (fLc (fSq (fV 1)) (gN 2) t_are_rationals_1 e_are_rationals_1 [2]))))
    gNil))
noncomputable def f_are_rationals : List D → R D := runDef 2 3 g_are_rationals
noncomputable def g_is_determined : Ta → Option Out := (gSeq (gRet (fB eqD (fB ixD (fCl f_dimensions (fCons (fV 0) fNil)) (fC (.int (2)))) (fC (.int (0)))))
    gNil)
noncomputable def f_is_determined : List D → R D := runDef 1 1 g_is_determined
noncomputable def e_rebuild_1 : Ta → R D := (fCl f_triangle_flow (fCons (fV 0) (fCons (fV 9) fNil)))
noncomputable def e_rebuild_2 : Ta → R D := (fCl f_add (fCons (fV 10) (fCons (fCl f_multiply (fCons (fV 7) (fCons (fV 11) fNil))) fNil)))
noncomputable def b_rebuild_1 : Ta → Option Out := (gSeq (gSet 5 (fN tupDs (fCons (fFr (fLc (fZp (fCons (fV 5) (fCons (fV 8) fNil))) (gT (gs1 (gN 10) (gs1 (gN 11) gs0))) fYes e_rebuild_2 [10, 11])) fNil)))
    gNil)
noncomputable def e_rebuild_3 : Ta → R D := (fCl f_ring_of (fCons (fV 0) (fCons (fV 5) (fCons (fFr (fLs (fV 9))) fNil))))
noncomputable def g_rebuild : Ta → Option Out := (gSeq (gEx (fCl f_check_schedule (fCons (fV 0) fNil)))
    (gSeq (gSet 3 (fCl f_triangles_of (fCons (fV 0) fNil)))
    (gSeq (gIf (fOr (fNo (fTr (fCl f_are_rationals (fCons (fB ixD (fV 0) (fC (.int (0)))) (fCons (fV 1) fNil))))) (fNo (fTr (fCl f_are_rationals (fCons (fN lenDs (fCons (fV 3) fNil)) (fCons (fV 2) fNil))))))
    (gSeq (gRaise "InvalidTargets")
    gNil)
    gNil)
    (gSeq (gSet 4 (fCl f_solve (fCons (fCl f_balance_rows (fCons (fV 0) (fCons (fV 1) fNil))) (fCons (fB ixD (fV 0) (fC (.int (0)))) fNil))))
    (gSeq (gSet 5 (fCl f_differences_of (fCons (fV 0) (fCons (fV 4) fNil))))
    (gSeq (gSetO 6 (fLc (fSq (fV 3)) (gN 9) fYes e_rebuild_1 [9]))
    (gFrz 6 (gSeq (gFor (fZp (fCons (fCl f_solve (fCons (fCl f_gram_rows (fCons (fV 0) (fCons (fV 6) (fCons (fV 2) fNil)))) (fCons (fN lenDs (fCons (fV 6) fNil)) fNil))) (fCons (fV 6) fNil))) (gT (gs1 (gN 7) (gs1 (gN 8) gs0)))
    b_rebuild_1)
    (gSeq (gIf (fTr (fB neD (fCl f_surplus_of (fCons (fV 0) (fCons (fV 5) fNil))) (fV 1)))
    (gSeq (gRaise "Unattainable")
    gNil)
    gNil)
    (gSeq (gIf (fTr (fB neD (fFr (fLc (fSq (fV 3)) (gN 9) fYes e_rebuild_3 [9])) (fV 2)))
    (gSeq (gRaise "Unattainable")
    gNil)
    gNil)
    (gSeq (gRet (fV 5))
    gNil)))))))))))
noncomputable def f_rebuild : List D → R D := runDef 3 12 g_rebuild
noncomputable def g__law_rebuild : Ta → Option Out := (gSeq (gTry (gSeq (gRet (fCl f_rebuild (fCons (fV 0) (fCons (fV 1) (fCons (fV 2) fNil)))))
    gNil) (tabOf [("Unattainable", "unattainable"), ("InvalidTargets", "targets")]))
    gNil)
noncomputable def f__law_rebuild : List D → R D := runDef 3 4 g__law_rebuild
noncomputable def b_suspects_1 : Ta → Option Out := (gSeq (gSet 4 (fB addD (fSl (fV 1) none (some (fV 3))) (fSl (fV 1) (some (fB addD (fV 3) (fC (.int (1))))) none)))
    (gSeq (gIf (fTr (fB isN (fCl f_contradiction (fCons (fCl f_without_match (fCons (fV 0) (fCons (fV 3) fNil))) (fCons (fV 4) fNil))) (fC .none)))
    (gSeq (gApp 2 (fTup (fCons (fV 3) (fCons (fCl f_left_out_of (fCons (fV 0) (fCons (fV 1) (fCons (fV 3) fNil)))) fNil))))
    gNil)
    gNil)
    gNil))
noncomputable def g_suspects : Ta → Option Out := (gSeq (gEx (fCl f_check_margins (fCons (fV 0) (fCons (fV 1) fNil))))
    (gSeq (gIf (fTr (fB isN (fCl f_contradiction (fCons (fV 0) (fCons (fV 1) fNil))) (fC .none)))
    (gSeq (gRaise "Consistent")
    gNil)
    gNil)
    (gSeq (gSetO 2 (fLst fNil))
    (gSeq (gFor (fRg1 (fCons (fN lenDs (fCons (fV 1) fNil)) fNil)) (gN 3)
    b_suspects_1)
    (gFrz 2 (gSeq (gRet (fV 2))
    gNil))))))
noncomputable def f_suspects : List D → R D := runDef 2 5 g_suspects
noncomputable def g__law_suspects : Ta → Option Out := (gSeq (gTry (gSeq (gRet (fCl f_suspects (fCons (fV 0) (fCons (fV 1) fNil))))
    gNil) (tabOf [("Consistent", "consistent")]))
    gNil)
noncomputable def f__law_suspects : List D → R D := runDef 2 3 g__law_suspects
noncomputable def w__wall_1 : Ta → R Bool := (fTr (fC (.bool true)))
noncomputable def b__wall_1 : Ta → Option Out := (gSeq gNil
    gNil)
noncomputable def g__wall : Ta → Option Out := (gSeq (gWh w__wall_1
    b__wall_1)
    gNil)
noncomputable def f__wall : List D → R D := runDef 1 1 g__wall
end LW
set_option Elab.async false
set_option linter.all false
set_option maxRecDepth 100000
set_option maxHeartbeats 4000000
/-! M0: plain lemmas on the data functions -/
namespace DL
open PySem L2

/-! ### built-in classes -/
theorem kb_int_int : kitB "int" "int" = some true := by decide +kernel
theorem kb_int_bool : kitB "int" "bool" = some false := by decide +kernel
theorem kb_int_tuple : kitB "int" "tuple" = some false := by decide +kernel
theorem kb_int_list : kitB "int" "list" = some false := by decide +kernel
theorem kb_int_str : kitB "int" "str" = some false := by decide +kernel
theorem kb_bool_int : kitB "bool" "int" = some true := by decide +kernel
theorem kb_bool_bool : kitB "bool" "bool" = some true := by decide +kernel
theorem kb_bool_tuple : kitB "bool" "tuple" = some false := by decide +kernel
theorem kb_bool_list : kitB "bool" "list" = some false := by decide +kernel
theorem kb_non_int : kitB "NoneType" "int" = some false := by decide +kernel
theorem kb_non_bool : kitB "NoneType" "bool" = some false := by decide +kernel
theorem kb_non_tuple : kitB "NoneType" "tuple" = some false := by decide +kernel
theorem kb_non_list : kitB "NoneType" "list" = some false := by decide +kernel
theorem kb_non_str : kitB "NoneType" "str" = some false := by decide +kernel
theorem kb_str_int : kitB "str" "int" = some false := by decide +kernel
theorem kb_str_bool : kitB "str" "bool" = some false := by decide +kernel
theorem kb_str_tuple : kitB "str" "tuple" = some false := by decide +kernel
theorem kb_str_list : kitB "str" "list" = some false := by decide +kernel
theorem kb_str_str : kitB "str" "str" = some true := by decide +kernel
theorem kb_tuple_int : kitB "tuple" "int" = some false := by decide +kernel
theorem kb_tuple_bool : kitB "tuple" "bool" = some false := by decide +kernel
theorem kb_tuple_tuple : kitB "tuple" "tuple" = some true := by decide +kernel
theorem kb_tuple_list : kitB "tuple" "list" = some false := by decide +kernel
theorem kb_list_int : kitB "list" "int" = some false := by decide +kernel
theorem kb_list_bool : kitB "list" "bool" = some false := by decide +kernel
theorem kb_list_tuple : kitB "list" "tuple" = some false := by decide +kernel
theorem kb_list_list : kitB "list" "list" = some true := by decide +kernel
/-- the class that isinstance asks -/
inductive Ki where | non | bl | int | str | lst | tup
  deriving DecidableEq
def isT (T : String) (d : D) : Bool := match d with
  | .none => T == "NoneType"
  | .bool _ => T == "bool" || T == "int"
  | .int _ => T == "int"
  | .str _ => T == "str"
  | .list _ => T == "list"
  | .tuple _ => T == "tuple"
  | .dict _ => false
theorem isi_int {d : D} (h : ∀ kv, d ≠ .dict kv) : isiD "int" d = some (.bool (isT "int" d)) := by
  cases d with
  | dict kv => exact absurd rfl (h kv)
  | _ => simp [isiD, tyD, isT, kb_int_int, kb_bool_int, kb_non_int, kb_str_int, kb_tuple_int, kb_list_int]
theorem isi_bool {d : D} (h : ∀ kv, d ≠ .dict kv) : isiD "bool" d = some (.bool (isT "bool" d)) := by
  cases d with
  | dict kv => exact absurd rfl (h kv)
  | _ => simp [isiD, tyD, isT, kb_int_bool, kb_bool_bool, kb_non_bool, kb_str_bool, kb_tuple_bool, kb_list_bool]
theorem isi_tuple {d : D} (h : ∀ kv, d ≠ .dict kv) : isiD "tuple" d = some (.bool (isT "tuple" d)) := by
  cases d with
  | dict kv => exact absurd rfl (h kv)
  | _ => simp [isiD, tyD, isT, kb_int_tuple, kb_bool_tuple, kb_non_tuple, kb_str_tuple, kb_tuple_tuple, kb_list_tuple]
theorem isi_list {d : D} (h : ∀ kv, d ≠ .dict kv) : isiD "list" d = some (.bool (isT "list" d)) := by
  cases d with
  | dict kv => exact absurd rfl (h kv)
  | _ => simp [isiD, tyD, isT, kb_int_list, kb_bool_list, kb_non_list, kb_str_list, kb_tuple_list, kb_list_list]

/-! ### equality -/
section
variable {α : Type} [DecidableEq α] {f : α → D}
theorem eqvAll_map (h : ∀ a b, PyData.eqv (f a) (f b) = decide (a = b)) : ∀ xs ys : List α, PyData.eqvAll (xs.map f) (ys.map f) = decide (xs = ys)
  | [], [] => by simp [PyData.eqvAll]
  | [], y :: ys => by simp [PyData.eqvAll]
  | x :: xs, [] => by simp [PyData.eqvAll]
  | x :: xs, y :: ys => by
    rw [List.map_cons, List.map_cons, PyData.eqvAll, h, eqvAll_map h xs ys]
    by_cases h1 : x = y <;> by_cases h2 : xs = ys <;> simp [h1, h2]
end
theorem eqv_int (i j : Int) : PyData.eqv (.int i) (.int j) = decide (i = j) := by
  rw [PyData.eqv]
  by_cases h : i = j <;> simp [h]
theorem eqvAll_int (xs ys : List Int) : PyData.eqvAll (xs.map .int) (ys.map .int) = decide (xs = ys) := eqvAll_map eqv_int xs ys
theorem eqv_listI (xs ys : List Int) : PyData.eqv (.list (xs.map .int)) (.list (ys.map .int)) = decide (xs = ys) := by rw [PyData.eqv, eqvAll_int]
theorem eqv_tupI (xs ys : List Int) : PyData.eqv (.tuple (xs.map .int)) (.tuple (ys.map .int)) = decide (xs = ys) := by rw [PyData.eqv, eqvAll_int]
/-- data that can be compared, of depth at most k -/
def Pl (k : Nat) (d : D) : Prop := d.canLay0 = true ∧ d.depth ≤ k
theorem Pl.sh {k : Nat} {d : D} (h : Pl k d) (hk : k ≤ 64 := by decide) : SeqAt.shaped d = true := by
  unfold SeqAt.shaped
  rw [h.1, decide_eq_true (Nat.le_trans h.2 hk)]
  rfl
theorem Pl.le {k j : Nat} {d : D} (h : Pl k d) (hk : k ≤ j) : Pl j d := ⟨h.1, Nat.le_trans h.2 hk⟩
theorem plInt (i : Int) : Pl 0 (.int i) := ⟨rfl, Nat.le_refl _⟩
theorem plNon : Pl 0 .none := ⟨rfl, Nat.le_refl _⟩
theorem plBl (b : Bool) : Pl 0 (.bool b) := ⟨rfl, Nat.le_refl _⟩
def PlA (k : Nat) (ds : List D) : Prop := PyData.canLayAll0 ds = true ∧ PyData.depthAll ds ≤ k
theorem plNil {k : Nat} : PlA k [] := ⟨rfl, Nat.zero_le _⟩
theorem plCons {k : Nat} {d : D} {ds : List D} (h : Pl k d) (t : PlA k ds) : PlA k (d :: ds) := by
  refine ⟨?_, ?_⟩
  · rw [PyData.canLayAll0, h.1, t.1]; rfl
  · rw [PyData.depthAll]
    exact Nat.max_le.mpr ⟨h.2, t.2⟩
theorem plTup {k : Nat} {ds : List D} (h : PlA k ds) : Pl (k + 1) (.tuple ds) := ⟨by rw [PyData.canLay0]; exact h.1, by rw [PyData.depth]; exact Nat.succ_le_succ h.2⟩
theorem plLst {k : Nat} {ds : List D} (h : PlA k ds) : Pl (k + 1) (.list ds) := ⟨by rw [PyData.canLay0]; exact h.1, by rw [PyData.depth]; exact Nat.succ_le_succ h.2⟩
theorem plMap {α : Type} {k : Nat} {f : α → D} (h : ∀ a, Pl k (f a)) : ∀ xs : List α, PlA k (xs.map f)
  | [] => plNil
  | x :: xs => plCons (h x) (plMap h xs)
theorem plMem {k : Nat} : ∀ {ds : List D}, (∀ d ∈ ds, Pl k d) → PlA k ds
  | [], _ => plNil
  | d :: ds, h => plCons (h d List.mem_cons_self) (plMem fun x hx => h x (List.mem_cons_of_mem _ hx))
theorem eqD_of {k j : Nat} {d e : D} (h : Pl k d) (h' : Pl j e) (hk : k ≤ 64 := by decide) (hj : j ≤ 64 := by decide) : eqD d e = some (.bool (PyData.eqv d e)) := by
  unfold eqD
  rw [h.sh hk, h'.sh hj]
  rfl
theorem neD_of {k j : Nat} {d e : D} (h : Pl k d) (h' : Pl j e) (hk : k ≤ 64 := by decide) (hj : j ≤ 64 := by decide) : neD d e = some (.bool (!PyData.eqv d e)) := by
  unfold neD
  rw [h.sh hk, h'.sh hj]
  rfl
theorem eqD_int (i j : Int) : eqD (.int i) (.int j) = some (.bool (decide (i = j))) := by rw [eqD_of (plInt i) (plInt j), eqv_int]
theorem neD_int (i j : Int) : neD (.int i) (.int j) = some (.bool (!decide (i = j))) := by rw [neD_of (plInt i) (plInt j), eqv_int]

/-! ### loops -/
theorem forD_inv {g : D → Ta → Option Ta} {b : Ta → Option Out} (I : Nat → Ta → Prop) : ∀ (xs : List D) (k : Nat) (τ : Ta), I k τ →
    (∀ i x τ, xs[i]? = some x → I (k + i) τ → ∃ τ1 τ2, g x τ = some τ1 ∧ (b τ1 = some (.nx τ2) ∨ b τ1 = some (.ct τ2)) ∧ I (k + i + 1) τ2) → ∃ τ', forD g b xs τ = some (.nx τ') ∧ I (k + xs.length) τ'
  | [], k, τ, h, _ => ⟨τ, rfl, h⟩
  | x :: xs, k, τ, h, hs => by
    obtain ⟨τ1, τ2, e1, e2, h2⟩ := hs 0 x τ rfl h
    obtain ⟨τ', e3, h3⟩ := forD_inv I xs (k + 1) τ2 h2 fun i y τ hy hi => by
      obtain ⟨τ1, τ2, e1, e2, h2⟩ := hs (i + 1) y τ (by simpa using hy) (by rw [show k + (i + 1) = k + 1 + i by omega]; exact hi)
      exact ⟨τ1, τ2, e1, e2, by rw [show k + 1 + i + 1 = k + (i + 1) + 1 by omega]; exact h2⟩
    refine ⟨τ', ?_, by rw [List.length_cons, show k + (xs.length + 1) = k + 1 + xs.length by omega]; exact h3⟩
    rcases e2 with e2 | e2
    · simp only [forD, e1, e2, Option.bind_some]; exact e3
    · simp only [forD, e1, e2, Option.bind_some]; exact e3
theorem forD_nx {g : D → Ta → Option Ta} {b : Ta → Option Out} {xs : List D} {τ : Ta} (I : Nat → Ta → Prop) (h0 : I 0 τ)
    (hs : ∀ i x τ, xs[i]? = some x → I i τ → ∃ τ1 τ2, g x τ = some τ1 ∧ (b τ1 = some (.nx τ2) ∨ b τ1 = some (.ct τ2)) ∧ I (i + 1) τ2) : ∃ τ', forD g b xs τ = some (.nx τ') ∧ I xs.length τ' := by
  have z := forD_inv I xs 0 τ h0 fun i x τ hx hi => by
    rw [Nat.zero_add] at hi
    obtain ⟨τ1, τ2, a, b, c⟩ := hs i x τ hx hi
    exact ⟨τ1, τ2, a, b, by rw [Nat.zero_add]; exact c⟩
  rw [Nat.zero_add] at z
  exact z
/-- comprehensions -/
theorem lcD_eq {g : D → Ta → Option Ta} {t : Ta → R Bool} {e : Ta → R D} {τ : Ta} {α : Type} {f : α → D} {p : α → Bool} {r : α → D} : ∀ xs : List α,
    (∀ x ∈ xs, ∃ τ1, g (f x) τ = some τ1 ∧ t τ1 = ok (p x) ∧ (p x = true → e τ1 = ok (r x))) → lcD g t e τ (xs.map f) = some ((xs.filter p).map r)
  | [], _ => rfl
  | x :: xs, h => by
    obtain ⟨τ1, e1, e2, e3⟩ := h x List.mem_cons_self
    have ih := lcD_eq (f := f) (p := p) (r := r) xs fun y hy => h y (List.mem_cons_of_mem _ hy)
    rw [List.map_cons, lcD, e1, Option.bind_some, e2]
    cases hp : p x with
    | true => simp only [e3 hp, ih, Option.map_some, List.filter_cons, hp, if_true, List.map_cons]
    | false => simp only [ih, List.filter_cons, hp]; simp
theorem lcD_none {g : D → Ta → Option Ta} {t : Ta → R Bool} {e : Ta → R D} {τ : Ta} {α : Type} {f : α → D} : ∀ xs : List α, (∀ x ∈ xs, ∃ τ1, g (f x) τ = some τ1 ∧ t τ1 = ok false) → lcD g t e τ (xs.map f) = some []
  | [], _ => rfl
  | x :: xs, h => by
    obtain ⟨τ1, e1, e2⟩ := h x List.mem_cons_self
    have ih := lcD_none (g := g) (t := t) (e := e) (τ := τ) (f := f) xs fun y hy => h y (List.mem_cons_of_mem _ hy)
    rw [List.map_cons, lcD, e1, Option.bind_some, e2]
    exact ih
theorem lcD_all {g : D → Ta → Option Ta} {e : Ta → R D} {τ : Ta} {α : Type} {f : α → D} {r : α → D} (xs : List α)
    (h : ∀ x ∈ xs, ∃ τ1, g (f x) τ = some τ1 ∧ e τ1 = ok (r x)) : lcD g fYes e τ (xs.map f) = some (xs.map r) := by
  have z := lcD_eq (g := g) (t := fYes) (e := e) (τ := τ) (f := f) (p := fun _ => true) (r := r) xs fun x hx => by
    obtain ⟨τ1, e1, e2⟩ := h x hx
    exact ⟨τ1, e1, rfl, fun _ => e2⟩
  rw [z, List.filter_eq_self.mpr fun _ _ => rfl]
theorem whD_step {t : Ta → R Bool} {b : Ta → Option Out} {τ τ2 : Ta} {o : Out} (h1 : t τ = ok true) (h2 : b τ = some (.nx τ2)) (h3 : gWh t b τ2 = some o) : gWh t b τ = some o := by
  obtain ⟨n, hn⟩ := gWh_some h3
  refine gWh_eq (n := n + 1) ?_
  unfold whD
  rw [h1, bndS_ok, if_pos rfl, h2]
  exact hn
theorem whD_end {t : Ta → R Bool} {b : Ta → Option Out} {τ : Ta} (h1 : t τ = ok false) : gWh t b τ = some (.nx τ) := by
  refine gWh_eq (n := 1) ?_
  unfold whD
  rw [h1, bndS_ok, if_neg Bool.false_ne_true]
/-- items -/
theorem atI_nat {α : Type} {xs : List α} {i : Nat} {x : α} (h : xs[i]? = some x) : atI xs (i : Int) = some x := by
  have hi : i < xs.length := (List.getElem?_eq_some_iff.mp h).1
  unfold atI ixN
  rw [if_pos (by omega), if_pos (by omega)]
  simpa using h
theorem atI_c0 {α : Type} (x : α) (xs : List α) : L2.atI (x :: xs) 0 = some x := atI_nat (i := 0) rfl
theorem atI_c1 {α : Type} (x y : α) (xs : List α) : L2.atI (x :: y :: xs) 1 = some y := atI_nat (i := 1) rfl
theorem atI_c2 {α : Type} (x y z : α) (xs : List α) : L2.atI (x :: y :: z :: xs) 2 = some z := atI_nat (i := 2) rfl
theorem atI_map {α β : Type} (f : α → β) (xs : List α) (i : Int) : L2.atI (xs.map f) i = (L2.atI xs i).map f := by
  unfold L2.atI
  rw [List.length_map]
  cases L2.ixN xs.length i with
  | none => rfl
  | some j => simp
theorem modD_ok (i j : Int) : modD (.int i) (.int j) = if j = 0 then none else some (.int (i.fmod j)) := rfl
theorem atI_neg1 {α : Type} {xs : List α} {x : α} (h : xs.getLast? = some x) : atI xs (-1) = some x := by
  cases xs with
  | nil => cases h
  | cons y ys =>
    unfold atI ixN
    rw [if_neg (by omega), if_pos (by rw [List.length_cons]; omega)]
    rw [List.getLast?_eq_getElem?] at h
    simp only [Option.bind_some]
    rw [show (-1 + ((y :: ys).length : Int)).toNat = (y :: ys).length - 1 by simp; omega]
    exact h
end DL
set_option Elab.async false
set_option linter.all false
set_option maxRecDepth 100000
set_option maxHeartbeats 4000000
/-! M1: rationals -/
namespace LW
open PySem DL
def encQ (q : Rat) : D := .tuple [.int q.num, .int (q.den : Nat)]
theorem encQ_pl (q : Rat) : Pl 1 (encQ q) := plTup (plCons (plInt _) (plCons (plInt _) plNil))
theorem encQ_eqv (p q : Rat) : PyData.eqv (encQ p) (encQ q) = decide (p = q) := by
  unfold encQ
  rw [show ([PyData.int p.num, PyData.int (p.den : Nat)] : List D) = [p.num, (p.den : Int)].map PyData.int from rfl, show ([PyData.int q.num, PyData.int (q.den : Nat)] : List D) = [q.num, (q.den : Int)].map PyData.int from rfl, eqv_tupI]
  by_cases h : p = q
  · subst h; simp
  · rw [decide_eq_false h, decide_eq_false]
    intro e
    simp only [List.cons.injEq, Int.natCast_inj, and_true] at e
    exact h (Rat.ext e.1 e.2)
theorem gcd_step (a b : Int) : Int.gcd b (a.fmod b) = Int.gcd a b := by
  rw [Int.fmod_def, Int.gcd_comm b]
  rw [Int.sub_eq_add_neg, ← Int.mul_neg, Int.gcd_add_mul_left_left]
theorem fmod_less (a b : Int) (h : b ≠ 0) : (a.fmod b).natAbs < b.natAbs := by
  rcases Int.lt_or_gt_of_ne h with hb | hb
  · rw [Int.fmod_eq_emod]
    have h1 := Int.emod_nonneg a h
    have h2 := Int.emod_lt a h
    split
    · omega
    · rename_i hn
      have h3 : a % b ≠ 0 := fun z => hn (.inr (Int.dvd_of_emod_eq_zero z))
      omega
  · have h1 := Int.fmod_nonneg_of_pos a hb
    have h2 := Int.fmod_lt_of_pos a hb
    omega
theorem gcd_loop : ∀ (n : Nat) (a b : Int), b.natAbs ≤ n → ∃ c : Int, c.natAbs = Int.gcd a b ∧
    gWh w_gcd_1 b_gcd_1 [.d (.int a), .d (.int b)] = some (.nx [.d (.int c), .d (.int 0)]) := by
  intro n
  induction n with
  | zero =>
    intro a b h
    have hb : b = 0 := by omega
    subst hb
    exact ⟨a, by simp, whD_end (by simp [w_gcd_1, runDef, initT, gSeq, gNil, gRet, gRetN, gSet, gSetO, gEx, gIf, gPar, gAsg, gFrz, frzT, gRaise, fCl, fCons, fNil, fB, fU, fN, fV, fC, fTr, fNo, fAnd, fOr, vAnd, vOr, fNoV, fIf, fTup, fLst, fFr, fCh, lft, truD, bnd, bndS, gN, gT, gs0, gs1, isiD, tyD, lenDs, absDs, minDs, maxDs, tupDs, addD, subD, negD, ltD, leD, gtD, geD, isN, notN, ixO, fOix, fOln, gApp, putO, gPut, seqD, fSq, fLs, optD, fSl, slD, ixD, atI_c0, atI_c1, atI_c2, atI_map, modD_ok, lenDs, fRg1, fRg2, neD_int])⟩
  | succ n ih =>
    intro a b h
    by_cases hb : b = 0
    · subst hb
      exact ⟨a, by simp, whD_end (by simp [w_gcd_1, runDef, initT, gSeq, gNil, gRet, gRetN, gSet, gSetO, gEx, gIf, gPar, gAsg, gFrz, frzT, gRaise, fCl, fCons, fNil, fB, fU, fN, fV, fC, fTr, fNo, fAnd, fOr, vAnd, vOr, fNoV, fIf, fTup, fLst, fFr, fCh, lft, truD, bnd, bndS, gN, gT, gs0, gs1, isiD, tyD, lenDs, absDs, minDs, maxDs, tupDs, addD, subD, negD, ltD, leD, gtD, geD, isN, notN, ixO, fOix, fOln, gApp, putO, gPut, seqD, fSq, fLs, optD, fSl, slD, ixD, atI_c0, atI_c1, atI_c2, atI_map, modD_ok, lenDs, fRg1, fRg2, neD_int])⟩
    · have hl := fmod_less a b hb
      obtain ⟨c, e1, e2⟩ := ih b (a.fmod b) (by omega)
      refine ⟨c, by rw [e1, gcd_step], whD_step (τ2 := [.d (.int b), .d (.int (a.fmod b))]) (by simp [w_gcd_1, runDef, initT, gSeq, gNil, gRet, gRetN, gSet, gSetO, gEx, gIf, gPar, gAsg, gFrz, frzT, gRaise, fCl, fCons, fNil, fB, fU, fN, fV, fC, fTr, fNo, fAnd, fOr, vAnd, vOr, fNoV, fIf, fTup, fLst, fFr, fCh, lft, truD, bnd, bndS, gN, gT, gs0, gs1, isiD, tyD, lenDs, absDs, minDs, maxDs, tupDs, addD, subD, negD, ltD, leD, gtD, geD, isN, notN, ixO, fOix, fOln, gApp, putO, gPut, seqD, fSq, fLs, optD, fSl, slD, ixD, atI_c0, atI_c1, atI_c2, atI_map, modD_ok, lenDs, fRg1, fRg2, neD_int, hb]) (by simp [b_gcd_1, runDef, initT, gSeq, gNil, gRet, gRetN, gSet, gSetO, gEx, gIf, gPar, gAsg, gFrz, frzT, gRaise, fCl, fCons, fNil, fB, fU, fN, fV, fC, fTr, fNo, fAnd, fOr, vAnd, vOr, fNoV, fIf, fTup, fLst, fFr, fCh, lft, truD, bnd, bndS, gN, gT, gs0, gs1, isiD, tyD, lenDs, absDs, minDs, maxDs, tupDs, addD, subD, negD, ltD, leD, gtD, geD, isN, notN, ixO, fOix, fOln, gApp, putO, gPut, seqD, fSq, fLs, optD, fSl, slD, ixD, atI_c0, atI_c1, atI_c2, atI_map, modD_ok, lenDs, fRg1, fRg2, modD, hb]) e2⟩
theorem gcd_ok (a b : Int) : f_gcd [.int a, .int b] = ok (.int (Int.gcd a b : Nat)) := by
  obtain ⟨c, e1, e2⟩ := gcd_loop b.natAbs a b (Nat.le_refl _)
  unfold f_gcd g_gcd
  simp [runDef, initT, gSeq, gNil, gRet, gRetN, gSet, gSetO, gEx, gIf, gPar, gAsg, gFrz, frzT, gRaise, fCl, fCons, fNil, fB, fU, fN, fV, fC, fTr, fNo, fAnd, fOr, vAnd, vOr, fNoV, fIf, fTup, fLst, fFr, fCh, lft, truD, bnd, bndS, gN, gT, gs0, gs1, isiD, tyD, lenDs, absDs, minDs, maxDs, tupDs, addD, subD, negD, ltD, leD, gtD, geD, isN, notN, ixO, fOix, fOln, gApp, putO, gPut, seqD, fSq, fLs, optD, fSl, slD, ixD, atI_c0, atI_c1, atI_c2, atI_map, modD_ok, lenDs, fRg1, fRg2, e2]
  rw [← e1]
  split <;> omega
theorem divInt_red (n d : Int) (hd : d ≠ 0) (s : Int) (hs : s = if d < 0 then -((Int.gcd n d : Nat) : Int) else ((Int.gcd n d : Nat) : Int)) : n.fdiv s = (Rat.divInt n d).num ∧ d.fdiv s = ((Rat.divInt n d).den : Int) := by
  have hg0 : 0 < Int.gcd n d := Int.gcd_pos_of_ne_zero_right n hd
  have h1 : ((Int.gcd n d : Nat) : Int) ∣ n := Int.gcd_dvd_left ..
  have h2 : ((Int.gcd n d : Nat) : Int) ∣ d := Int.gcd_dvd_right ..
  rw [Rat.num_divInt, Rat.den_divInt, if_neg hd, Int.gcd_comm d n]
  generalize Int.gcd n d = g at *
  obtain ⟨x, rfl⟩ := h1
  obtain ⟨y, rfl⟩ := h2
  have hg : (g : Int) ≠ 0 := by omega
  have hgp : (0 : Int) < g := by omega
  subst hs
  split
  · rename_i hneg
    have hy : y < 0 := by
      rcases Int.lt_or_le y 0 with h | h
      · exact h
      · have := Int.mul_nonneg (Int.le_of_lt hgp) h; omega
    have es : ((g : Int) * y).sign = -1 := Int.sign_eq_neg_one_of_neg hneg
    rw [es]
    refine ⟨?_, ?_⟩
    · rw [show (g : Int) * x = -(g : Int) * -x by rw [Int.neg_mul_neg], Int.mul_fdiv_cancel_left _ (by omega)]
      rw [show (-1 : Int) * (-(g : Int) * -x) = (g : Int) * -x by rw [Int.neg_mul_neg, Int.neg_one_mul, Int.mul_neg], Int.mul_ediv_cancel_left _ hg]
    · rw [show (g : Int) * y = -(g : Int) * -y by rw [Int.neg_mul_neg], Int.mul_fdiv_cancel_left _ (by omega)]
      rw [Int.neg_mul_neg, Int.natAbs_mul, Int.natAbs_natCast, Nat.mul_div_cancel_left _ hg0]
      omega
  · rename_i hneg
    have hy : 0 < y := by
      rcases Int.lt_or_le 0 y with h | h
      · exact h
      · have := Int.mul_nonpos_of_nonneg_of_nonpos (Int.le_of_lt hgp) h
        have : (g : Int) * y = 0 := by omega
        exact absurd this hd
    have es : ((g : Int) * y).sign = 1 := Int.sign_eq_one_of_pos (Int.mul_pos hgp hy)
    rw [es]
    refine ⟨?_, ?_⟩
    · rw [Int.mul_fdiv_cancel_left _ hg, Int.one_mul, Int.mul_ediv_cancel_left _ hg]
    · rw [Int.mul_fdiv_cancel_left _ hg, Int.natAbs_mul, Int.natAbs_natCast, Nat.mul_div_cancel_left _ hg0]
      omega
theorem divD_ok {i j : Int} (h : j ≠ 0) (hl : j.natAbs.log2 < 9000) : divD (.int i) (.int j) = some (.int (i.fdiv j)) := by
  show (if j ≠ 0 ∧ j.natAbs.log2 < 9000 then _ else _) = _
  rw [if_pos ⟨h, hl⟩]
theorem reduced_ok (n d : Int) (hd : d ≠ 0) (hl : (Int.gcd n d).log2 < 9000) : f_reduced [.int n, .int d] = ok (encQ (Rat.divInt n d)) := by
  have hg0 : 0 < Int.gcd n d := Int.gcd_pos_of_ne_zero_right n hd
  obtain ⟨h1, h2⟩ := divInt_red n d hd _ rfl
  unfold f_reduced g_reduced
  by_cases hneg : d < 0
  · rw [if_pos hneg] at h1 h2
    have hne : -((Int.gcd n d : Nat) : Int) ≠ 0 := by omega
    have hl' : (-((Int.gcd n d : Nat) : Int)).natAbs.log2 < 9000 := by rw [Int.natAbs_neg, Int.natAbs_natCast]; exact hl
    simp [runDef, initT, gSeq, gNil, gRet, gRetN, gSet, gSetO, gEx, gIf, gPar, gAsg, gFrz, frzT, gRaise, fCl, fCons, fNil, fB, fU, fN, fV, fC, fTr, fNo, fAnd, fOr, vAnd, vOr, fNoV, fIf, fTup, fLst, fFr, fCh, lft, truD, bnd, bndS, gN, gT, gs0, gs1, isiD, tyD, lenDs, absDs, minDs, maxDs, tupDs, addD, subD, negD, ltD, leD, gtD, geD, isN, notN, ixO, fOix, fOln, gApp, putO, gPut, seqD, fSq, fLs, optD, fSl, slD, ixD, atI_c0, atI_c1, atI_c2, atI_map, modD_ok, lenDs, fRg1, fRg2, gcd_ok, hneg, divD_ok hne hl', h1, h2, encQ]
  · rw [if_neg hneg] at h1 h2
    have hne : ((Int.gcd n d : Nat) : Int) ≠ 0 := by omega
    have hl' : ((Int.gcd n d : Nat) : Int).natAbs.log2 < 9000 := by rw [Int.natAbs_natCast]; exact hl
    simp [runDef, initT, gSeq, gNil, gRet, gRetN, gSet, gSetO, gEx, gIf, gPar, gAsg, gFrz, frzT, gRaise, fCl, fCons, fNil, fB, fU, fN, fV, fC, fTr, fNo, fAnd, fOr, vAnd, vOr, fNoV, fIf, fTup, fLst, fFr, fCh, lft, truD, bnd, bndS, gN, gT, gs0, gs1, isiD, tyD, lenDs, absDs, minDs, maxDs, tupDs, addD, subD, negD, ltD, leD, gtD, geD, isN, notN, ixO, fOix, fOln, gApp, putO, gPut, seqD, fSq, fLs, optD, fSl, slD, ixD, atI_c0, atI_c1, atI_c2, atI_map, modD_ok, lenDs, fRg1, fRg2, gcd_ok, hneg, divD_ok hne hl', h1, h2, encQ]

/-! ### sizes -/
def Sm (k : Nat) (q : Rat) : Prop := q.num.natAbs < 2 ^ k ∧ q.den < 2 ^ k
theorem log2_lt {n k : Nat} (h : n < 2 ^ k) (hk : 0 < k) : n.log2 < k := by
  by_cases h0 : n = 0
  · subst h0; simpa using hk
  · exact (Nat.log2_lt h0).mpr h
theorem mulOk_of {i j : Int} (hi : i.natAbs < 2 ^ 4000) (hj : j.natAbs < 2 ^ 4000) : mulOk i j = true := by
  have h1 := log2_lt hi (by decide)
  have h2 := log2_lt hj (by decide)
  unfold mulOk
  rw [decide_eq_true (p := i.natAbs.log2 + j.natAbs.log2 < 1000000) (by omega), Bool.or_true]
theorem gcd_small {n d : Int} (hd : d ≠ 0) (h : d.natAbs < 2 ^ 8000) : (Int.gcd n d).log2 < 9000 := by
  have h1 : Int.gcd n d ≤ d.natAbs := Nat.le_of_dvd (by omega) (Nat.gcd_dvd_right n.natAbs d.natAbs)
  have h2 : Int.gcd n d < 2 ^ 9000 := Nat.lt_of_le_of_lt h1 (Nat.lt_trans h (Nat.pow_lt_pow_of_lt (by decide) (by decide)))
  exact log2_lt h2 (by decide)
theorem mul_lt8 {i j : Int} (hi : i.natAbs < 2 ^ 4000) (hj : j.natAbs < 2 ^ 4000) : (i * j).natAbs < 2 ^ 8000 := by
  rw [Int.natAbs_mul, show (2 : Nat) ^ 8000 = 2 ^ 4000 * 2 ^ 4000 from (Nat.pow_add 2 4000 4000)]
  exact Nat.mul_lt_mul'' hi hj
theorem mulD_ok {i j : Int} (h : mulOk i j = true) : mulD (.int i) (.int j) = some (.int (i * j)) := by
  show (if mulOk i j = true then _ else _) = _
  rw [if_pos h]
theorem natAbs_cast (n : Nat) : ((n : Nat) : Int).natAbs = n := Int.natAbs_natCast n
section
variable {a b : Rat}
theorem Sm.den (h : Sm 4000 a) : ((a.den : Nat) : Int).natAbs < 2 ^ 4000 := by rw [natAbs_cast]; exact h.2
theorem dd_ne (a b : Rat) : ((a.den : Nat) : Int) * ((b.den : Nat) : Int) ≠ 0 := by
  have h1 := a.den_nz
  have h2 := b.den_nz
  exact Int.mul_ne_zero (by omega) (by omega)
theorem add_div (a b : Rat) : Rat.divInt (a.num * ((b.den : Nat) : Int) + b.num * ((a.den : Nat) : Int)) (((a.den : Nat) : Int) * ((b.den : Nat) : Int)) = a + b := by
  rw [Rat.add_def', ← Int.natCast_mul, Rat.divInt_ofNat]
theorem sub_div (a b : Rat) : Rat.divInt (a.num * ((b.den : Nat) : Int) - b.num * ((a.den : Nat) : Int)) (((a.den : Nat) : Int) * ((b.den : Nat) : Int)) = a - b := by
  rw [Rat.sub_def', ← Int.natCast_mul, Rat.divInt_ofNat]
theorem mul_div (a b : Rat) : Rat.divInt (a.num * b.num) (((a.den : Nat) : Int) * ((b.den : Nat) : Int)) = a * b := by
  rw [Rat.mul_def', ← Int.natCast_mul, Rat.divInt_ofNat]
theorem div_div (a b : Rat) : Rat.divInt (a.num * ((b.den : Nat) : Int)) (((a.den : Nat) : Int) * b.num) = a / b := by
  rw [Rat.div_def, Rat.inv_def, ← Rat.divInt_mul_divInt, Rat.num_divInt_den]

theorem add_ok (ha : Sm 4000 a) (hb : Sm 4000 b) : f_add [encQ a, encQ b] = ok (encQ (a + b)) := by
  have r := reduced_ok (a.num * ((b.den : Nat) : Int) + b.num * ((a.den : Nat) : Int)) _ (dd_ne a b) (gcd_small (dd_ne a b) (mul_lt8 ha.den hb.den))
  rw [add_div] at r
  unfold f_add g_add encQ
  simp [runDef, initT, gSeq, gNil, gRet, gRetN, gSet, gSetO, gEx, gIf, gPar, gAsg, gFrz, frzT, gRaise, fCl, fCons, fNil, fB, fU, fN, fV, fC, fTr, fNo, fAnd, fOr, vAnd, vOr, fNoV, fIf, fTup, fLst, fFr, fCh, lft, truD, bnd, bndS, gN, gT, gs0, gs1, isiD, tyD, lenDs, absDs, minDs, maxDs, tupDs, addD, subD, negD, ltD, leD, gtD, geD, isN, notN, ixO, fOix, fOln, gApp, putO, gPut, seqD, fSq, fLs, optD, fSl, slD, ixD, atI_c0, atI_c1, atI_c2, atI_map, modD_ok, lenDs, fRg1, fRg2, mulD_ok (mulOk_of ha.1 hb.den), mulD_ok (mulOk_of hb.1 ha.den), mulD_ok (mulOk_of ha.den hb.den), r]
  rfl

theorem subtract_ok (ha : Sm 4000 a) (hb : Sm 4000 b) : f_subtract [encQ a, encQ b] = ok (encQ (a - b)) := by
  have r := reduced_ok (a.num * ((b.den : Nat) : Int) - b.num * ((a.den : Nat) : Int)) _ (dd_ne a b) (gcd_small (dd_ne a b) (mul_lt8 ha.den hb.den))
  rw [sub_div] at r
  unfold f_subtract g_subtract encQ
  simp [runDef, initT, gSeq, gNil, gRet, gRetN, gSet, gSetO, gEx, gIf, gPar, gAsg, gFrz, frzT, gRaise, fCl, fCons, fNil, fB, fU, fN, fV, fC, fTr, fNo, fAnd, fOr, vAnd, vOr, fNoV, fIf, fTup, fLst, fFr, fCh, lft, truD, bnd, bndS, gN, gT, gs0, gs1, isiD, tyD, lenDs, absDs, minDs, maxDs, tupDs, addD, subD, negD, ltD, leD, gtD, geD, isN, notN, ixO, fOix, fOln, gApp, putO, gPut, seqD, fSq, fLs, optD, fSl, slD, ixD, atI_c0, atI_c1, atI_c2, atI_map, modD_ok, lenDs, fRg1, fRg2, mulD_ok (mulOk_of ha.1 hb.den), mulD_ok (mulOk_of hb.1 ha.den), mulD_ok (mulOk_of ha.den hb.den), r]
  rfl

theorem multiply_ok (ha : Sm 4000 a) (hb : Sm 4000 b) : f_multiply [encQ a, encQ b] = ok (encQ (a * b)) := by
  have r := reduced_ok (a.num * b.num) _ (dd_ne a b) (gcd_small (dd_ne a b) (mul_lt8 ha.den hb.den))
  rw [mul_div] at r
  unfold f_multiply g_multiply encQ
  simp [runDef, initT, gSeq, gNil, gRet, gRetN, gSet, gSetO, gEx, gIf, gPar, gAsg, gFrz, frzT, gRaise, fCl, fCons, fNil, fB, fU, fN, fV, fC, fTr, fNo, fAnd, fOr, vAnd, vOr, fNoV, fIf, fTup, fLst, fFr, fCh, lft, truD, bnd, bndS, gN, gT, gs0, gs1, isiD, tyD, lenDs, absDs, minDs, maxDs, tupDs, addD, subD, negD, ltD, leD, gtD, geD, isN, notN, ixO, fOix, fOln, gApp, putO, gPut, seqD, fSq, fLs, optD, fSl, slD, ixD, atI_c0, atI_c1, atI_c2, atI_map, modD_ok, lenDs, fRg1, fRg2, mulD_ok (mulOk_of ha.1 hb.1), mulD_ok (mulOk_of ha.den hb.den), r]
  rfl
theorem divide_ok (ha : Sm 4000 a) (hb : Sm 4000 b) (h0 : b ≠ 0) : f_divide [encQ a, encQ b] = ok (encQ (a / b)) := by
  have hn : ((a.den : Nat) : Int) * b.num ≠ 0 := by
    have h1 := a.den_nz
    exact Int.mul_ne_zero (by omega) (fun z => h0 (Rat.num_eq_zero.mp z))
  have r := reduced_ok (a.num * ((b.den : Nat) : Int)) _ hn (gcd_small hn (mul_lt8 ha.den hb.1))
  rw [div_div] at r
  unfold f_divide g_divide encQ
  simp [runDef, initT, gSeq, gNil, gRet, gRetN, gSet, gSetO, gEx, gIf, gPar, gAsg, gFrz, frzT, gRaise, fCl, fCons, fNil, fB, fU, fN, fV, fC, fTr, fNo, fAnd, fOr, vAnd, vOr, fNoV, fIf, fTup, fLst, fFr, fCh, lft, truD, bnd, bndS, gN, gT, gs0, gs1, isiD, tyD, lenDs, absDs, minDs, maxDs, tupDs, addD, subD, negD, ltD, leD, gtD, geD, isN, notN, ixO, fOix, fOln, gApp, putO, gPut, seqD, fSq, fLs, optD, fSl, slD, ixD, atI_c0, atI_c1, atI_c2, atI_map, modD_ok, lenDs, fRg1, fRg2, mulD_ok (mulOk_of ha.1 hb.den), mulD_ok (mulOk_of ha.den hb.1), r]
  rfl
end
/-! ### the law's own -/
theorem lgcd_ok (a b : Int) : f__law_gcd [.int a, .int b] = ok (.int (Int.gcd a b : Nat)) := gcd_ok a b
theorem fraction_ok (n d : Int) (hd : d ≠ 0) (hl : (Int.gcd n d).log2 < 9000) : f__law_fraction [.int n, .int d] = ok (encQ (Rat.divInt n d)) := by
  unfold f__law_fraction g__law_fraction
  by_cases hneg : d < 0
  · have hl' : (Int.gcd (-n) (-d)).log2 < 9000 := by rw [Int.gcd_neg, Int.neg_gcd]; exact hl
    have hg0 : 0 < Int.gcd (-n) (-d) := Int.gcd_pos_of_ne_zero_right _ (by omega)
    obtain ⟨h1, h2⟩ := divInt_red (-n) (-d) (by omega) _ rfl
    rw [if_neg (by omega)] at h1 h2
    rw [Rat.neg_divInt_neg] at h1 h2
    have hne : ((Int.gcd (-n) (-d) : Nat) : Int) ≠ 0 := by omega
    have hl2 : ((Int.gcd (-n) (-d) : Nat) : Int).natAbs.log2 < 9000 := by rw [Int.natAbs_natCast]; exact hl'
    simp [runDef, initT, gSeq, gNil, gRet, gRetN, gSet, gSetO, gEx, gIf, gPar, gAsg, gFrz, frzT, gRaise, fCl, fCons, fNil, fB, fU, fN, fV, fC, fTr, fNo, fAnd, fOr, vAnd, vOr, fNoV, fIf, fTup, fLst, fFr, fCh, lft, truD, bnd, bndS, gN, gT, gs0, gs1, isiD, tyD, lenDs, absDs, minDs, maxDs, tupDs, addD, subD, negD, ltD, leD, gtD, geD, isN, notN, ixO, fOix, fOln, gApp, putO, gPut, seqD, fSq, fLs, optD, fSl, slD, ixD, atI_c0, atI_c1, atI_c2, atI_map, modD_ok, lenDs, fRg1, fRg2, lgcd_ok, hneg, divD_ok hne hl2, h1, h2, encQ, -Int.gcd_neg, -Int.neg_gcd]
  · have hg0 : 0 < Int.gcd n d := Int.gcd_pos_of_ne_zero_right n hd
    obtain ⟨h1, h2⟩ := divInt_red n d hd _ rfl
    rw [if_neg hneg] at h1 h2
    have hne : ((Int.gcd n d : Nat) : Int) ≠ 0 := by omega
    have hl' : ((Int.gcd n d : Nat) : Int).natAbs.log2 < 9000 := by rw [Int.natAbs_natCast]; exact hl
    simp [runDef, initT, gSeq, gNil, gRet, gRetN, gSet, gSetO, gEx, gIf, gPar, gAsg, gFrz, frzT, gRaise, fCl, fCons, fNil, fB, fU, fN, fV, fC, fTr, fNo, fAnd, fOr, vAnd, vOr, fNoV, fIf, fTup, fLst, fFr, fCh, lft, truD, bnd, bndS, gN, gT, gs0, gs1, isiD, tyD, lenDs, absDs, minDs, maxDs, tupDs, addD, subD, negD, ltD, leD, gtD, geD, isN, notN, ixO, fOix, fOln, gApp, putO, gPut, seqD, fSq, fLs, optD, fSl, slD, ixD, atI_c0, atI_c1, atI_c2, atI_map, modD_ok, lenDs, fRg1, fRg2, lgcd_ok, hneg, divD_ok hne hl', h1, h2, encQ]
section
variable {a b : Rat}

theorem law_plus_ok (ha : Sm 4000 a) (hb : Sm 4000 b) : f__law_plus [encQ a, encQ b] = ok (encQ (a + b)) := by
  have r := fraction_ok (a.num * ((b.den : Nat) : Int) + b.num * ((a.den : Nat) : Int)) _ (dd_ne a b) (gcd_small (dd_ne a b) (mul_lt8 ha.den hb.den))
  rw [add_div] at r
  unfold f__law_plus g__law_plus encQ
  simp [runDef, initT, gSeq, gNil, gRet, gRetN, gSet, gSetO, gEx, gIf, gPar, gAsg, gFrz, frzT, gRaise, fCl, fCons, fNil, fB, fU, fN, fV, fC, fTr, fNo, fAnd, fOr, vAnd, vOr, fNoV, fIf, fTup, fLst, fFr, fCh, lft, truD, bnd, bndS, gN, gT, gs0, gs1, isiD, tyD, lenDs, absDs, minDs, maxDs, tupDs, addD, subD, negD, ltD, leD, gtD, geD, isN, notN, ixO, fOix, fOln, gApp, putO, gPut, seqD, fSq, fLs, optD, fSl, slD, ixD, atI_c0, atI_c1, atI_c2, atI_map, modD_ok, lenDs, fRg1, fRg2, mulD_ok (mulOk_of ha.1 hb.den), mulD_ok (mulOk_of hb.1 ha.den), mulD_ok (mulOk_of ha.den hb.den), r]
  rfl

theorem Sm.neg {k : Nat} (h : Sm k a) : Sm k (-a) := ⟨by rw [Rat.neg_num, Int.natAbs_neg]; exact h.1, h.2⟩
theorem encQ_neg (q : Rat) : encQ (-q) = .tuple [.int (-q.num), .int (q.den : Nat)] := rfl
theorem law_minus_ok (ha : Sm 4000 a) (hb : Sm 4000 b) : f__law_minus [encQ a, encQ b] = ok (encQ (a - b)) := by
  have r := law_plus_ok ha hb.neg
  rw [← Rat.sub_eq_add_neg, encQ_neg] at r
  unfold encQ at r
  unfold f__law_minus g__law_minus encQ
  simp [runDef, initT, gSeq, gNil, gRet, gRetN, gSet, gSetO, gEx, gIf, gPar, gAsg, gFrz, frzT, gRaise, fCl, fCons, fNil, fB, fU, fN, fV, fC, fTr, fNo, fAnd, fOr, vAnd, vOr, fNoV, fIf, fTup, fLst, fFr, fCh, lft, truD, bnd, bndS, gN, gT, gs0, gs1, isiD, tyD, lenDs, absDs, minDs, maxDs, tupDs, addD, subD, negD, ltD, leD, gtD, geD, isN, notN, ixO, fOix, fOln, gApp, putO, gPut, seqD, fSq, fLs, optD, fSl, slD, ixD, atI_c0, atI_c1, atI_c2, atI_map, modD_ok, lenDs, fRg1, fRg2, r]

theorem law_times_ok (ha : Sm 4000 a) (hb : Sm 4000 b) : f__law_times [encQ a, encQ b] = ok (encQ (a * b)) := by
  have r := fraction_ok (a.num * b.num) _ (dd_ne a b) (gcd_small (dd_ne a b) (mul_lt8 ha.den hb.den))
  rw [mul_div] at r
  unfold f__law_times g__law_times encQ
  simp [runDef, initT, gSeq, gNil, gRet, gRetN, gSet, gSetO, gEx, gIf, gPar, gAsg, gFrz, frzT, gRaise, fCl, fCons, fNil, fB, fU, fN, fV, fC, fTr, fNo, fAnd, fOr, vAnd, vOr, fNoV, fIf, fTup, fLst, fFr, fCh, lft, truD, bnd, bndS, gN, gT, gs0, gs1, isiD, tyD, lenDs, absDs, minDs, maxDs, tupDs, addD, subD, negD, ltD, leD, gtD, geD, isN, notN, ixO, fOix, fOln, gApp, putO, gPut, seqD, fSq, fLs, optD, fSl, slD, ixD, atI_c0, atI_c1, atI_c2, atI_map, modD_ok, lenDs, fRg1, fRg2, mulD_ok (mulOk_of ha.1 hb.1), mulD_ok (mulOk_of ha.den hb.den), r]
  rfl
end
/-! ### a common denominator -/
/-- z / d with |z| at most m -/
def Bq (d m : Nat) (q : Rat) : Prop := ∃ z : Int, q = Rat.divInt z (d : Nat) ∧ z.natAbs ≤ m
theorem Bq.sm {d m k : Nat} {q : Rat} (h : Bq d m q) (h0 : d ≠ 0) (hd : d < 2 ^ k) (hm : m < 2 ^ k) : Sm k q := by
  obtain ⟨z, rfl, hz⟩ := h
  have hk : 0 < 2 ^ k := Nat.pos_of_ne_zero (by intro e; omega)
  refine ⟨?_, ?_⟩
  · rw [Rat.divInt_ofNat, Rat.num_mkRat, if_neg h0]
    exact Nat.lt_of_le_of_lt (Nat.le_trans (Int.natAbs_ediv_le_natAbs _ _) hz) hm
  · rw [Rat.divInt_ofNat, Rat.den_mkRat, if_neg h0]
    exact Nat.lt_of_le_of_lt (Nat.div_le_self _ _) hd
theorem Bq.le {d m m' : Nat} {q : Rat} (h : Bq d m q) (hm : m ≤ m') : Bq d m' q := let ⟨z, e, hz⟩ := h; ⟨z, e, Nat.le_trans hz hm⟩
theorem Bq.zero {d m : Nat} : Bq d m 0 := ⟨0, by simp, by simp⟩
theorem Bq.add {d m m' : Nat} {p q : Rat} (h : Bq d m p) (h' : Bq d m' q) (h0 : d ≠ 0) : Bq d (m + m') (p + q) := by
  obtain ⟨z, rfl, hz⟩ := h
  obtain ⟨w, rfl, hw⟩ := h'
  refine ⟨z + w, ?_, Nat.le_trans (Int.natAbs_add_le z w) (by omega)⟩
  have hd : ((d : Nat) : Int) ≠ 0 := by omega
  rw [Rat.divInt_add_divInt _ _ hd hd, ← Int.add_mul, Rat.divInt_mul_right hd]
theorem Bq.neg {d m : Nat} {p : Rat} (h : Bq d m p) : Bq d m (-p) := by
  obtain ⟨z, rfl, hz⟩ := h
  exact ⟨-z, by rw [Rat.neg_divInt], by rw [Int.natAbs_neg]; exact hz⟩
theorem Bq.sub {d m m' : Nat} {p q : Rat} (h : Bq d m p) (h' : Bq d m' q) (h0 : d ≠ 0) : Bq d (m + m') (p - q) := by
  rw [Rat.sub_eq_add_neg]; exact h.add h'.neg h0
theorem Bq.mul {d d' m m' : Nat} {p q : Rat} (h : Bq d m p) (h' : Bq d' m' q) : Bq (d * d') (m * m') (p * q) := by
  obtain ⟨z, rfl, hz⟩ := h
  obtain ⟨w, rfl, hw⟩ := h'
  refine ⟨z * w, by rw [Rat.divInt_mul_divInt, Int.natCast_mul], ?_⟩
  rw [Int.natAbs_mul]
  exact Nat.mul_le_mul hz hw
theorem Bq.int {d m : Nat} {i : Int} (h0 : d ≠ 0) (h : i.natAbs * d ≤ m) : Bq d m (i : Rat) := by
  refine ⟨i * d, ?_, by rw [Int.natAbs_mul, Int.natAbs_natCast]; exact h⟩
  have hd : ((d : Nat) : Int) ≠ 0 := by omega
  have := Rat.divInt_mul_right (n := i) (d := 1) hd
  rw [Int.one_mul] at this
  rw [this]
  exact (Rat.num_divInt_den (i : Rat)).symm
/-! ### integers, rationals -/
theorem is_integer_int (i : Int) : f_is_integer [.int i] = ok (.bool true) := by
  unfold f_is_integer g_is_integer
  simp [runDef, initT, gSeq, gNil, gRet, gRetN, gSet, gSetO, gEx, gIf, gPar, gAsg, gFrz, frzT, gRaise, fCl, fCons, fNil, fB, fU, fN, fV, fC, fTr, fNo, fAnd, fOr, vAnd, vOr, fNoV, fIf, fTup, fLst, fFr, fCh, lft, truD, bnd, bndS, gN, gT, gs0, gs1, isiD, tyD, lenDs, absDs, minDs, maxDs, tupDs, addD, subD, negD, ltD, leD, gtD, geD, isN, notN, ixO, fOix, fOln, gApp, putO, gPut, seqD, fSq, fLs, optD, fSl, slD, ixD, atI_c0, atI_c1, atI_c2, atI_map, modD_ok, lenDs, fRg1, fRg2, kb_int_int, kb_int_bool]
theorem is_integer_non : f_is_integer [.none] = ok (.bool false) := by
  unfold f_is_integer g_is_integer
  simp [runDef, initT, gSeq, gNil, gRet, gRetN, gSet, gSetO, gEx, gIf, gPar, gAsg, gFrz, frzT, gRaise, fCl, fCons, fNil, fB, fU, fN, fV, fC, fTr, fNo, fAnd, fOr, vAnd, vOr, fNoV, fIf, fTup, fLst, fFr, fCh, lft, truD, bnd, bndS, gN, gT, gs0, gs1, isiD, tyD, lenDs, absDs, minDs, maxDs, tupDs, addD, subD, negD, ltD, leD, gtD, geD, isN, notN, ixO, fOix, fOln, gApp, putO, gPut, seqD, fSq, fLs, optD, fSl, slD, ixD, atI_c0, atI_c1, atI_c2, atI_map, modD_ok, lenDs, fRg1, fRg2, kb_non_int, kb_non_bool]
theorem in_range_int (i l h : Int) : f_in_range [.int i, .int l, .int h] = ok (.bool (decide (l ≤ i ∧ i ≤ h))) := by
  unfold f_in_range g_in_range
  by_cases h1 : l ≤ i <;> simp [runDef, initT, gSeq, gNil, gRet, gRetN, gSet, gSetO, gEx, gIf, gPar, gAsg, gFrz, frzT, gRaise, fCl, fCons, fNil, fB, fU, fN, fV, fC, fTr, fNo, fAnd, fOr, vAnd, vOr, fNoV, fIf, fTup, fLst, fFr, fCh, lft, truD, bnd, bndS, gN, gT, gs0, gs1, isiD, tyD, lenDs, absDs, minDs, maxDs, tupDs, addD, subD, negD, ltD, leD, gtD, geD, isN, notN, ixO, fOix, fOln, gApp, putO, gPut, seqD, fSq, fLs, optD, fSl, slD, ixD, atI_c0, atI_c1, atI_c2, atI_map, modD_ok, lenDs, fRg1, fRg2, is_integer_int, h1]
theorem in_range_non (l h : Int) : f_in_range [.none, .int l, .int h] = ok (.bool false) := by
  unfold f_in_range g_in_range
  simp [runDef, initT, gSeq, gNil, gRet, gRetN, gSet, gSetO, gEx, gIf, gPar, gAsg, gFrz, frzT, gRaise, fCl, fCons, fNil, fB, fU, fN, fV, fC, fTr, fNo, fAnd, fOr, vAnd, vOr, fNoV, fIf, fTup, fLst, fFr, fCh, lft, truD, bnd, bndS, gN, gT, gs0, gs1, isiD, tyD, lenDs, absDs, minDs, maxDs, tupDs, addD, subD, negD, ltD, leD, gtD, geD, isN, notN, ixO, fOix, fOln, gApp, putO, gPut, seqD, fSq, fLs, optD, fSl, slD, ixD, atI_c0, atI_c1, atI_c2, atI_map, modD_ok, lenDs, fRg1, fRg2, is_integer_non]
theorem is_rational_ok (q : Rat) : f_is_rational [encQ q] = ok (.bool true) := by
  have h1 := q.den_pos
  have h2 : Int.gcd q.num ((q.den : Nat) : Int) = 1 := q.reduced
  unfold f_is_rational g_is_rational encQ
  simp [runDef, initT, gSeq, gNil, gRet, gRetN, gSet, gSetO, gEx, gIf, gPar, gAsg, gFrz, frzT, gRaise, fCl, fCons, fNil, fB, fU, fN, fV, fC, fTr, fNo, fAnd, fOr, vAnd, vOr, fNoV, fIf, fTup, fLst, fFr, fCh, lft, truD, bnd, bndS, gN, gT, gs0, gs1, isiD, tyD, lenDs, absDs, minDs, maxDs, tupDs, addD, subD, negD, ltD, leD, gtD, geD, isN, notN, ixO, fOix, fOln, gApp, putO, gPut, seqD, fSq, fLs, optD, fSl, slD, ixD, atI_c0, atI_c1, atI_c2, atI_map, modD_ok, lenDs, fRg1, fRg2, is_integer_int, kb_tuple_tuple, gcd_ok, eqD_int, neD_int, h1, h2]
end LW
set_option Elab.async false
set_option linter.all false
set_option maxRecDepth 100000
set_option maxHeartbeats 4000000
/-! M2: the script's cells and rows -/
namespace LW
open PySem DL
def cell (ns : List Int) (k : Nat) : Int := (ns[k]?).getD 0
theorem rngD_at {lo : Int} {n i : Nat} {x : D} (h : (rngD lo n)[i]? = some x) : i < n ∧ x = .int (lo + (i : Int)) := by
  unfold rngD at h
  rw [List.getElem?_map] at h
  obtain ⟨j, e1, e2⟩ := Option.map_eq_some_iff.mp h
  obtain ⟨h1, h2⟩ := List.getElem?_eq_some_iff.mp e1
  rw [List.getElem_range] at h2
  subst h2
  rw [List.length_range] at h1
  exact ⟨h1, e2.symm⟩
theorem rngD_len (lo : Int) (n : Nat) : (rngD lo n).length = n := by simp [rngD]
theorem rg1_ok {n : Int} (h : 0 ≤ n) (h2 : n < 2 ^ 62) : rg1 [.int n] = some (rngD 0 n.toNat) := by
  show (if n.natAbs < 2 ^ 62 then _ else _) = _
  rw [if_pos (by omega)]
theorem rg2_ok {m n : Int} (h : 0 ≤ m) (h2 : m < 2 ^ 62) (h3 : 0 ≤ n) (h4 : n < 2 ^ 62) : rg2 [.int m, .int n] = some (rngD m (n - m).toNat) := by
  show (if m.natAbs < 2 ^ 62 ∧ n.natAbs < 2 ^ 62 then _ else _) = _
  rw [if_pos ⟨by omega, by omega⟩]
theorem cell_ok (ns : List Int) (k : Nat) : f__law_cell [scr ns, .int k] = ok (.int (cell ns k)) := by
  unfold f__law_cell g__law_cell scr
  by_cases h : k < ns.length
  · have e : L2.atI ns (k : Int) = some (ns[k]) := atI_nat (List.getElem?_eq_getElem h)
    simp [runDef, initT, gSeq, gNil, gRet, gRetN, gSet, gSetO, gEx, gIf, gPar, gAsg, gFrz, frzT, gRaise, fCl, fCons, fNil, fB, fU, fN, fV, fC, fTr, fNo, fAnd, fOr, vAnd, vOr, fNoV, fIf, fTup, fLst, fFr, fCh, lft, truD, bnd, bndS, gN, gT, gs0, gs1, isiD, tyD, lenDs, absDs, minDs, maxDs, tupDs, addD, subD, negD, ltD, leD, gtD, geD, isN, notN, ixO, fOix, fOln, gApp, putO, gPut, seqD, fSq, fLs, optD, fSl, slD, ixD, atI_c0, atI_c1, atI_c2, atI_map, modD_ok, lenDs, fRg1, fRg2, h, cell, e]
  · simp [runDef, initT, gSeq, gNil, gRet, gRetN, gSet, gSetO, gEx, gIf, gPar, gAsg, gFrz, frzT, gRaise, fCl, fCons, fNil, fB, fU, fN, fV, fC, fTr, fNo, fAnd, fOr, vAnd, vOr, fNoV, fIf, fTup, fLst, fFr, fCh, lft, truD, bnd, bndS, gN, gT, gs0, gs1, isiD, tyD, lenDs, absDs, minDs, maxDs, tupDs, addD, subD, negD, ltD, leD, gtD, geD, isN, notN, ixO, fOix, fOln, gApp, putO, gPut, seqD, fSq, fLs, optD, fSl, slD, ixD, atI_c0, atI_c1, atI_c2, atI_map, modD_ok, lenDs, fRg1, fRg2, h, cell]
/-- sixty draws -/
structure Row (ds : List Int) : Prop where
  len : ds.length = 60
  rg : ∀ d ∈ ds, 0 ≤ d ∧ d < 1000
theorem fmod_rg (a : Int) {b : Int} (h : 0 < b) : 0 ≤ a.fmod b ∧ a.fmod b < b := ⟨Int.fmod_nonneg_of_pos a h, Int.fmod_lt_of_pos a h⟩
theorem mulOk_r {i j : Int} (h : j.natAbs < 2 ^ 64) : mulOk i j = true := by
  unfold mulOk
  rw [decide_eq_true h, Bool.or_true, Bool.true_or]
theorem mulOk_l {i j : Int} (h : i.natAbs < 2 ^ 64) : mulOk i j = true := by
  unfold mulOk
  rw [decide_eq_true h, Bool.true_or, Bool.true_or]
theorem row_ok (ns : List Int) (at_ : Nat) : ∃ ds : List Int, f__law_row [scr ns, .int at_] = ok (.list (ds.map .int)) ∧ Row ds := by
  let I : Nat → Ta → Prop := fun i τ => ∃ (c : Int) (acc : List Int) (v : SV), τ = [.d (scr ns), .d (.int at_), .d (.int c), .o (acc.map .int), v] ∧ acc.length = i ∧ ∀ x ∈ acc, 0 ≤ x ∧ x < 1000
  have hp : powD (.int 10) (.int 18) = some (.int (10 ^ 18)) := rfl
  have hd11 : ∀ i : Int, divD (.int i) (.int 11) = some (.int (i.fdiv 11)) := fun i => divD_ok (by decide) (by decide)
  have hd1000 : ∀ i : Int, divD (.int i) (.int 1000) = some (.int (i.fdiv 1000)) := fun i => divD_ok (by decide) (by decide)
  have hm1 : ∀ i : Int, mulD (.int i) (.int 48271) = some (.int (i * 48271)) := fun i => mulD_ok (mulOk_r (by decide))
  have hm2 : ∀ i : Int, mulD (.int 131) (.int i) = some (.int (131 * i)) := fun i => mulD_ok (mulOk_l (by decide))
  have step := forD_nx (g := gN 4) (b := b__law_row_1) (xs := rngD 0 60) (τ := [.d (scr ns), .d (.int at_), .d (.int (cell ns at_)), .o [], .u]) I ⟨cell ns at_, [], .u, rfl, rfl, by simp⟩ ?_
  · obtain ⟨τ', e1, c, acc, v, rfl, hl, hr⟩ := step
    refine ⟨acc, ?_, by rw [hl, rngD_len], hr⟩
    have h60 : rg1 [.int 60] = some (rngD 0 60) := rfl
    unfold f__law_row g__law_row
    simp [runDef, initT, gSeq, gNil, gRet, gRetN, gSet, gSetO, gEx, gIf, gPar, gAsg, gFrz, frzT, gRaise, fCl, fCons, fNil, fB, fU, fN, fV, fC, fTr, fNo, fAnd, fOr, vAnd, vOr, fNoV, fIf, fTup, fLst, fFr, fCh, lft, truD, bnd, bndS, gN, gT, gs0, gs1, isiD, tyD, lenDs, absDs, minDs, maxDs, tupDs, addD, subD, negD, ltD, leD, gtD, geD, isN, notN, ixO, fOix, fOln, gApp, putO, gPut, seqD, fSq, fLs, optD, fSl, slD, ixD, atI_c0, atI_c1, atI_c2, atI_map, modD_ok, lenDs, fRg1, fRg2, cell_ok, gFor, h60] at e1 ⊢
    simp [e1]
  · rintro i x τ hx ⟨c, acc, v, rfl, hl, hr⟩
    obtain ⟨hi, rfl⟩ := rngD_at hx
    have hl' : acc.length < 100000 := by omega
    have h20 := fmod_rg (((at_ : Int) + 1) + (0 + (i : Int))) (b := 20) (by decide)
    have hc := cell_ok ns (((at_ : Int) + 1) + (0 + (i : Int)) |>.fmod 20).toNat
    rw [Int.toNat_of_nonneg h20.1] at hc
    unfold b__law_row_1
    refine ⟨[.d (scr ns), .d (.int at_), .d (.int c), .o (acc.map .int), .d (.int (0 + (i : Int)))], ?_⟩
    by_cases hlt : cell ns at_ < 1000000000000000000
    · let c2 : Int := (c * 48271 + 131 * (0 + (i : Int)) + 7 + cell ns (((at_ : Int) + 1) + (0 + (i : Int)) |>.fmod 20).toNat).fmod 2147483647
      refine ⟨[.d (scr ns), .d (.int at_), .d (.int c2), .o ((acc ++ [(c2.fdiv 11).fmod 1000]).map .int), .d (.int (0 + (i : Int)))], rfl, .inl ?_, c2, acc ++ [(c2.fdiv 11).fmod 1000], _, rfl, by simp [hl], fun x hx => ?_⟩
      · simp only [Int.zero_add] at hc ⊢
        simp [runDef, initT, gSeq, gNil, gRet, gRetN, gSet, gSetO, gEx, gIf, gPar, gAsg, gFrz, frzT, gRaise, fCl, fCons, fNil, fB, fU, fN, fV, fC, fTr, fNo, fAnd, fOr, vAnd, vOr, fNoV, fIf, fTup, fLst, fFr, fCh, lft, truD, bnd, bndS, gN, gT, gs0, gs1, isiD, tyD, lenDs, absDs, minDs, maxDs, tupDs, addD, subD, negD, ltD, leD, gtD, geD, isN, notN, ixO, fOix, fOln, gApp, putO, gPut, seqD, fSq, fLs, optD, fSl, slD, ixD, atI_c0, atI_c1, atI_c2, atI_map, modD_ok, lenDs, fRg1, fRg2, cell_ok, hp, hd11, hm1, hm2, hc, hlt, hl', c2]
      · rcases List.mem_append.mp hx with h | h
        · exact hr x h
        · rw [List.mem_singleton.mp h]; exact fmod_rg _ (by decide)
    · refine ⟨[.d (scr ns), .d (.int at_), .d (.int (c.fdiv 1000)), .o ((acc ++ [c.fmod 1000]).map .int), .d (.int (0 + (i : Int)))], rfl, .inl ?_, c.fdiv 1000, acc ++ [c.fmod 1000], _, rfl, by simp [hl], fun x hx => ?_⟩
      · simp [runDef, initT, gSeq, gNil, gRet, gRetN, gSet, gSetO, gEx, gIf, gPar, gAsg, gFrz, frzT, gRaise, fCl, fCons, fNil, fB, fU, fN, fV, fC, fTr, fNo, fAnd, fOr, vAnd, vOr, fNoV, fIf, fTup, fLst, fFr, fCh, lft, truD, bnd, bndS, gN, gT, gs0, gs1, isiD, tyD, lenDs, absDs, minDs, maxDs, tupDs, addD, subD, negD, ltD, leD, gtD, geD, isN, notN, ixO, fOix, fOln, gApp, putO, gPut, seqD, fSq, fLs, optD, fSl, slD, ixD, atI_c0, atI_c1, atI_c2, atI_map, modD_ok, lenDs, fRg1, fRg2, cell_ok, hp, hd1000, hlt, hl']
      · rcases List.mem_append.mp hx with h | h
        · exact hr x h
        · rw [List.mem_singleton.mp h]; exact fmod_rg _ (by decide)
noncomputable def rowOf (ns : List Int) (k : Nat) : List Int := Classical.choose (row_ok ns k)
theorem rowOf_eq (ns : List Int) (k : Nat) : f__law_row [scr ns, .int k] = ok (.list ((rowOf ns k).map .int)) := (Classical.choose_spec (row_ok ns k)).1
theorem rowOf_row (ns : List Int) (k : Nat) : Row (rowOf ns k) := (Classical.choose_spec (row_ok ns k)).2
/-- the k-th draw -/
def dr (ds : List Int) (k : Nat) : Int := ds.getD k 0
theorem Row.dr {ds : List Int} (h : Row ds) (k : Nat) : 0 ≤ dr ds k ∧ dr ds k < 1000 := by
  unfold LW.dr
  by_cases hk : k < ds.length
  · rw [List.getD_eq_getElem?_getD, List.getElem?_eq_getElem hk]
    exact h.rg _ (List.getElem_mem hk)
  · rw [List.getD_eq_getElem?_getD, List.getElem?_eq_none (by omega)]
    decide
theorem Row.at {ds : List Int} (h : Row ds) {i : Int} (h0 : 0 ≤ i) (h1 : i < 60) : L2.atI ds i = some (LW.dr ds i.toNat) := by
  have hk : i.toNat < ds.length := by rw [h.len]; omega
  have z := atI_nat (List.getElem?_eq_getElem hk)
  rw [Int.toNat_of_nonneg h0] at z
  rw [z]
  unfold LW.dr
  rw [List.getD_eq_getElem?_getD, List.getElem?_eq_getElem hk]
  rfl
theorem Row.at60 {ds : List Int} (h : Row ds) (i : Int) : L2.atI ds (i.fmod 60) = some (LW.dr ds (i.fmod 60).toNat) := h.at (fmod_rg i (by decide)).1 (fmod_rg i (by decide)).2
/-! ### schedules -/
structure Mt where
  l : Nat
  r : Nat
  w : Nat
  deriving DecidableEq
structure Sc where
  n : Nat
  ms : List Mt
  deriving DecidableEq
def encM (m : Mt) : D := .tuple [.int (m.l : Nat), .int (m.r : Nat), .int (m.w : Nat)]
def encS (s : Sc) : D := .tuple [.int (s.n : Nat), .tuple (s.ms.map encM)]
/-- the lower pair first -/
def Mt.lt (a b : Mt) : Prop := a.l < b.l ∨ (a.l = b.l ∧ a.r < b.r)
instance (a b : Mt) : Decidable (a.lt b) := inferInstanceAs (Decidable (_ ∨ _))
def Mt.ok (n : Nat) (m : Mt) : Prop := m.l < m.r ∧ m.r < n ∧ 1 ≤ m.w ∧ m.w ≤ 9
structure Sc.Ok (s : Sc) : Prop where
  n2 : 2 ≤ s.n
  n6 : s.n ≤ 6
  rg : ∀ m ∈ s.ms, m.ok s.n
  so : s.ms.Pairwise Mt.lt
theorem sorted_len : ∀ {xs : List Nat} {lo hi : Nat}, xs.Pairwise (· < ·) → (∀ x ∈ xs, lo ≤ x ∧ x < hi) → xs.length ≤ hi - lo
  | [], _, _, _, _ => Nat.zero_le _
  | x :: xs, lo, hi, hp, hr => by
    obtain ⟨h1, h2⟩ := List.pairwise_cons.mp hp
    have hx := hr x List.mem_cons_self
    have := sorted_len (lo := x + 1) (hi := hi) h2 fun y hy => ⟨h1 y hy, (hr y (List.mem_cons_of_mem _ hy)).2⟩
    rw [List.length_cons]
    omega
theorem ms_len {n : Nat} {ms : List Mt} (hn : n ≤ 6) (rg : ∀ m ∈ ms, m.l < m.r ∧ m.r < n) (so : ms.Pairwise Mt.lt) : ms.length ≤ 36 := by
  have h := sorted_len (xs := ms.map fun m => m.l * 6 + m.r) (lo := 0) (hi := 36) ?_ ?_
  · simpa using h
  · rw [List.pairwise_map]
    refine (List.Pairwise.and_mem.mp so).imp fun {a b} h => ?_
    obtain ⟨ha, hb, h⟩ := h
    have h1 := rg a ha
    have h2 := rg b hb
    rcases h with h | ⟨h, h'⟩ <;> omega
  · intro x hx
    obtain ⟨m, hm, rfl⟩ := List.mem_map.mp hx
    have := rg m hm
    omega
theorem Sc.Ok.len {s : Sc} (h : s.Ok) : s.ms.length ≤ 36 := ms_len h.n6 (fun m hm => ⟨(h.rg m hm).1, (h.rg m hm).2.1⟩) h.so
end LW
set_option Elab.async false
set_option linter.all false
set_option maxRecDepth 100000
set_option maxHeartbeats 4000000
/-! M3: schedules drawn, and looked at -/
namespace LW
open PySem DL
theorem fmod_lit {a b : Int} (h : 0 < b) : ∃ k : Nat, a.fmod b = (k : Int) ∧ (k : Int) < b := by
  obtain ⟨h1, h2⟩ := fmod_rg a h
  exact ⟨(a.fmod b).toNat, by omega, by omega⟩
theorem sched_inner (ns : List Int) (at_ most : Int) (ds : List Int) (hR : Row ds) (n : Nat) (hn : n ≤ 6) (a : Nat) (ha : a < n) (ms : List Mt) (v7 : SV) (h1 : ∀ m ∈ ms, m.ok n ∧ m.l < a) (h2 : ms.Pairwise Mt.lt) :
    ∃ (ms2 : List Mt) (v : SV), forD (gN 7) b__law_schedule_2 (rngD ((a : Int) + 1) (n - (a + 1))) [.d (scr ns), .d (.int at_), .d (.int most), .d (.list (ds.map .int)), .d (.int n), .o (ms.map encM), .d (.int a), v7] =
      some (.nx [.d (scr ns), .d (.int at_), .d (.int most), .d (.list (ds.map .int)), .d (.int n), .o (ms2.map encM), .d (.int a), v]) ∧ (∀ m ∈ ms2, m.ok n ∧ m.l < a + 1) ∧ ms2.Pairwise Mt.lt := by
  let I : Nat → Ta → Prop := fun j τ => ∃ (ms2 : List Mt) (v : SV), τ = [.d (scr ns), .d (.int at_), .d (.int most), .d (.list (ds.map .int)), .d (.int n), .o (ms2.map encM), .d (.int a), v] ∧
    (∀ m ∈ ms2, m.ok n ∧ (m.l < a ∨ (m.l = a ∧ m.r < a + 1 + j))) ∧ ms2.Pairwise Mt.lt
  have step := forD_nx (g := gN 7) (b := b__law_schedule_2) (xs := rngD ((a : Int) + 1) (n - (a + 1))) (τ := [.d (scr ns), .d (.int at_), .d (.int most), .d (.list (ds.map .int)), .d (.int n), .o (ms.map encM), .d (.int a), v7]) I
    ⟨ms, v7, rfl, fun m hm => ⟨(h1 m hm).1, .inl (h1 m hm).2⟩, h2⟩ ?_
  · obtain ⟨τ', e1, ms2, v, rfl, g1, g2⟩ := step
    rw [rngD_len] at g1
    exact ⟨ms2, v, e1, fun m hm => ⟨(g1 m hm).1, by rcases (g1 m hm).2 with h | h <;> omega⟩, g2⟩
  · rintro j x τ hx ⟨ms2, v, rfl, g1, g2⟩
    obtain ⟨hj, rfl⟩ := rngD_at hx
    have hlen : ms2.length < 100000 := by
      have := ms_len hn (fun m hm => ⟨(g1 m hm).1.1, (g1 m hm).1.2.1⟩) g2
      omega
    have hm7 : mulD (.int 7) (.int a) = some (.int (7 * a)) := mulD_ok (mulOk_l (by decide))
    have hm5 : mulD (.int 5) (.int a) = some (.int (5 * a)) := mulD_ok (mulOk_l (by decide))
    obtain ⟨k3, e3, hk3⟩ := fmod_lit (a := dr ds 2) (b := 3) (by decide)
    have hcon : ∃ c : Int, 0 < c ∧ c ≤ 9 ∧ L2.atI [PyData.int 1, .int 4, .int 9] ((k3 : Nat) : Int) = some (.int c) := by
      have : k3 = 0 ∨ k3 = 1 ∨ k3 = 2 := by omega
      rcases this with rfl | rfl | rfl
      · exact ⟨1, by decide, by decide, rfl⟩
      · exact ⟨4, by decide, by decide, rfl⟩
      · exact ⟨9, by decide, by decide, rfl⟩
    obtain ⟨c, hc0, hc9, hc⟩ := hcon
    have d1 := hR.at (i := 1) (by decide) (by decide)
    have d2 := hR.at (i := 2) (by decide) (by decide)
    unfold b__law_schedule_2
    refine ⟨[.d (scr ns), .d (.int at_), .d (.int most), .d (.list (ds.map .int)), .d (.int n), .o (ms2.map encM), .d (.int a), .d (.int ((a : Int) + 1 + j))], ?_⟩
    by_cases hq : (dr ds ((5 + 7 * (a : Int) + ((a : Int) + 1 + j)).fmod 60).toNat).fmod 4 ≤ (dr ds 1).fmod 5
    · obtain ⟨w, ew, hw⟩ := fmod_lit (a := dr ds ((30 + 5 * (a : Int) + ((a : Int) + 1 + j)).fmod 60).toNat) (b := c) hc0
      refine ⟨[.d (scr ns), .d (.int at_), .d (.int most), .d (.list (ds.map .int)), .d (.int n), .o ((ms2 ++ [(⟨a, a + 1 + j, 1 + w⟩ : Mt)]).map encM), .d (.int a), .d (.int ((a : Int) + 1 + j))], rfl, .inl ?_, _, _, rfl, fun m hm => ?_, ?_⟩
      · have hc' : c ≠ 0 := by omega
        simp [runDef, initT, gSeq, gNil, gRet, gRetN, gSet, gSetO, gEx, gIf, gPar, gAsg, gFrz, frzT, gRaise, fCl, fCons, fNil, fB, fU, fN, fV, fC, fTr, fNo, fAnd, fOr, vAnd, vOr, fNoV, fIf, fTup, fLst, fFr, fCh, lft, truD, bnd, bndS, gN, gT, gs0, gs1, isiD, tyD, lenDs, absDs, minDs, maxDs, tupDs, addD, subD, negD, ltD, leD, gtD, geD, isN, notN, ixO, fOix, fOln, gApp, putO, gPut, seqD, fSq, fLs, optD, fSl, slD, ixD, atI_c0, atI_c1, atI_c2, atI_map, modD_ok, lenDs, fRg1, fRg2, hm7, hm5, hR.at60, d1, d2, hq, e3, hc, hc', ew, hlen, encM]
      · rcases List.mem_append.mp hm with h | h
        · refine ⟨(g1 m h).1, ?_⟩
          rcases (g1 m h).2 with h | h <;> omega
        · rw [List.mem_singleton.mp h]
          exact ⟨⟨by show a < a + 1 + j; omega, by show a + 1 + j < n; omega, by show 1 ≤ 1 + w; omega, by show 1 + w ≤ 9; omega⟩, .inr ⟨rfl, by show a + 1 + j < a + 1 + (j + 1); omega⟩⟩
      · refine List.pairwise_append.mpr ⟨g2, List.pairwise_singleton _ _, fun x hx y hy => ?_⟩
        rw [List.mem_singleton.mp hy]
        rcases (g1 x hx).2 with h | h
        · exact .inl h
        · exact .inr ⟨h.1, h.2⟩
    · refine ⟨[.d (scr ns), .d (.int at_), .d (.int most), .d (.list (ds.map .int)), .d (.int n), .o (ms2.map encM), .d (.int a), .d (.int ((a : Int) + 1 + j))], rfl, .inl ?_, _, _, rfl, fun m hm => ?_, g2⟩
      · simp [runDef, initT, gSeq, gNil, gRet, gRetN, gSet, gSetO, gEx, gIf, gPar, gAsg, gFrz, frzT, gRaise, fCl, fCons, fNil, fB, fU, fN, fV, fC, fTr, fNo, fAnd, fOr, vAnd, vOr, fNoV, fIf, fTup, fLst, fFr, fCh, lft, truD, bnd, bndS, gN, gT, gs0, gs1, isiD, tyD, lenDs, absDs, minDs, maxDs, tupDs, addD, subD, negD, ltD, leD, gtD, geD, isN, notN, ixO, fOix, fOln, gApp, putO, gPut, seqD, fSq, fLs, optD, fSl, slD, ixD, atI_c0, atI_c1, atI_c2, atI_map, modD_ok, lenDs, fRg1, fRg2, hm7, hm5, hR.at60, d1, d2, hq]
      · refine ⟨(g1 m hm).1, ?_⟩
        rcases (g1 m hm).2 with h | h <;> omega
theorem schedule_ok (ns : List Int) (k most : Nat) (hm : 2 ≤ most) (hm6 : most ≤ 6) : ∃ s : Sc, f__law_schedule [scr ns, .int k, .int most] = ok (encS s) ∧ s.Ok ∧ s.n ≤ most := by
  have hR := rowOf_row ns k
  obtain ⟨q, eq, hq⟩ := fmod_lit (a := dr (rowOf ns k) 0) (b := (most : Int) - 1) (by omega)
  have d0 := hR.at (i := 0) (by decide) (by decide)
  obtain ⟨ds, hds⟩ : ∃ ds, ds = rowOf ns k := ⟨_, rfl⟩
  obtain ⟨n, hn⟩ : ∃ n, n = 2 + q := ⟨_, rfl⟩
  rw [← hds] at hR d0 eq
  have hn6 : n ≤ 6 := by omega
  let I : Nat → Ta → Prop := fun i τ => ∃ (ms : List Mt) (v6 v7 : SV), τ = [.d (scr ns), .d (.int k), .d (.int most), .d (.list (ds.map .int)), .d (.int n), .o (ms.map encM), v6, v7] ∧ (∀ m ∈ ms, m.ok n ∧ m.l < i) ∧ ms.Pairwise Mt.lt
  have step := forD_nx (g := gN 6) (b := b__law_schedule_1) (xs := rngD 0 n) (τ := [.d (scr ns), .d (.int k), .d (.int most), .d (.list (ds.map .int)), .d (.int n), .o [], .u, .u]) I
    ⟨[], .u, .u, rfl, by simp, List.Pairwise.nil⟩ ?_
  · obtain ⟨τ', e1, ms, v6, v7, rfl, g1, g2⟩ := step
    refine ⟨⟨n, ms⟩, ?_, ⟨by show 2 ≤ n; omega, hn6, fun m hm => (g1 m hm).1, g2⟩, by show n ≤ most; omega⟩
    have hmne : (most : Int) - 1 ≠ 0 := by omega
    have hrg : rg1 [.int ((n : Nat) : Int)] = some (rngD 0 n) := by
      have := rg1_ok (n := ((n : Nat) : Int)) (by omega) (by omega)
      simpa using this
    have en : (2 : Int) + (q : Int) = ((n : Nat) : Int) := by omega
    unfold f__law_schedule g__law_schedule
    simp [runDef, initT, gSeq, gNil, gRet, gRetN, gSet, gSetO, gEx, gIf, gPar, gAsg, gFrz, frzT, gRaise, fCl, fCons, fNil, fB, fU, fN, fV, fC, fTr, fNo, fAnd, fOr, vAnd, vOr, fNoV, fIf, fTup, fLst, fFr, fCh, lft, truD, bnd, bndS, gN, gT, gs0, gs1, isiD, tyD, lenDs, absDs, minDs, maxDs, tupDs, addD, subD, negD, ltD, leD, gtD, geD, isN, notN, ixO, fOix, fOln, gApp, putO, gPut, seqD, fSq, fLs, optD, fSl, slD, ixD, atI_c0, atI_c1, atI_c2, atI_map, modD_ok, lenDs, fRg1, fRg2, rowOf_eq, ← hds, d0, eq, hmne, gFor, en, hrg, e1, encS]
  · rintro i x τ hx ⟨ms, v6, v7, rfl, g1, g2⟩
    obtain ⟨hi, rfl⟩ := rngD_at hx
    obtain ⟨ms2, v, e2, g3, g4⟩ := sched_inner ns k most ds hR n hn6 i hi ms v7 g1 g2
    refine ⟨[.d (scr ns), .d (.int k), .d (.int most), .d (.list (ds.map .int)), .d (.int n), .o (ms.map encM), .d (.int i), v7], _, by simp [gN], .inl ?_, ms2, .d (.int i), v, rfl, g3, g4⟩
    have hrg : rg2 [.int ((i : Int) + 1), .int ((n : Nat) : Int)] = some (rngD ((i : Int) + 1) (n - (i + 1))) := by
      have := rg2_ok (m := (i : Int) + 1) (n := ((n : Nat) : Int)) (by omega) (by omega) (by omega) (by omega)
      rw [this, show (((n : Nat) : Int) - ((i : Int) + 1)).toNat = n - (i + 1) by omega]
    unfold b__law_schedule_1
    simp [runDef, initT, gSeq, gNil, gRet, gRetN, gSet, gSetO, gEx, gIf, gPar, gAsg, gFrz, frzT, gRaise, fCl, fCons, fNil, fB, fU, fN, fV, fC, fTr, fNo, fAnd, fOr, vAnd, vOr, fNoV, fIf, fTup, fLst, fFr, fCh, lft, truD, bnd, bndS, gN, gT, gs0, gs1, isiD, tyD, lenDs, absDs, minDs, maxDs, tupDs, addD, subD, negD, ltD, leD, gtD, geD, isN, notN, ixO, fOix, fOln, gApp, putO, gPut, seqD, fSq, fLs, optD, fSl, slD, ixD, atI_c0, atI_c1, atI_c2, atI_map, modD_ok, lenDs, fRg1, fRg2, gFor, hrg, e2]
end LW
set_option Elab.async false
set_option linter.all false
set_option maxRecDepth 100000
set_option maxHeartbeats 4000000
/-! M4: margins drawn -/
namespace LW
open PySem DL
theorem lt8000 {n : Nat} (h : n ≤ 1000) : n < 2 ^ 8000 := Nat.lt_of_le_of_lt h (Nat.lt_of_lt_of_le (show 1000 < 2 ^ 10 by decide) (Nat.pow_le_pow_right (by decide) (by decide)))
theorem lt4000 {n : Nat} (h : n ≤ 1000000) : n < 2 ^ 4000 := Nat.lt_of_le_of_lt h (Nat.lt_of_lt_of_le (show 1000000 < 2 ^ 20 by decide) (Nat.pow_le_pow_right (by decide) (by decide)))
theorem encQ_int (i : Int) : encQ (i : Rat) = .tuple [.int i, .int 1] := rfl
theorem lcD_rng {g : D → Ta → Option Ta} {e : Ta → R D} {τ : Ta} {r : Nat → D} (n : Nat) (h : ∀ i, i < n → ∃ τ1, g (.int (i : Int)) τ = some τ1 ∧ e τ1 = ok (r i)) : lcD g fYes e τ (rngD 0 n) = some ((List.range n).map r) := by
  refine lcD_all (f := fun i : Nat => PyData.int (0 + (i : Int))) (r := r) (List.range n) fun i hi => ?_
  rw [Int.zero_add]
  exact h i (List.mem_range.mp hi)
/-- a margin as drawn -/
abbrev Dm (q : Rat) : Prop := Bq 6 120 q
theorem margins_loop (ns : List Int) (at_ : Int) (s : Sc) (h : s.Ok) (ds : List Int) (hR : Row ds) (m : Nat) (hm : m = s.ms.length) : ∃ (qs : List Rat) (v : SV),
    forD (gN 6) b__law_margins_1 (rngD 0 m) [.d (scr ns), .d (.int at_), .d (encS s), .d (.list (ds.map .int)), .d (.int m), .o [], .u, .u, .u, .u, .u, .u] =
      some (.nx [.d (scr ns), .d (.int at_), .d (encS s), .d (.list (ds.map .int)), .d (.int m), .o (qs.map encQ), v, .u, .u, .u, .u, .u]) ∧ qs.length = m ∧ ∀ q ∈ qs, Dm q := by
  let I : Nat → Ta → Prop := fun i τ => ∃ (qs : List Rat) (v : SV), τ = [.d (scr ns), .d (.int at_), .d (encS s), .d (.list (ds.map .int)), .d (.int m), .o (qs.map encQ), v, .u, .u, .u, .u, .u] ∧ qs.length = i ∧ ∀ q ∈ qs, Dm q
  have step := forD_nx (g := gN 6) (b := b__law_margins_1) (xs := rngD 0 m) (τ := [.d (scr ns), .d (.int at_), .d (encS s), .d (.list (ds.map .int)), .d (.int m), .o [], .u, .u, .u, .u, .u, .u]) I ⟨[], .u, rfl, rfl, by simp⟩ ?_
  · obtain ⟨τ', e1, qs, v, rfl, hl, hq⟩ := step
    rw [rngD_len] at hl
    exact ⟨qs, v, e1, hl, hq⟩
  · rintro i x τ hx ⟨qs, v, rfl, hl, hq⟩
    obtain ⟨hi, rfl⟩ := rngD_at hx
    rw [Int.zero_add] at hx ⊢
    have h36 := h.len
    have hlen : qs.length < 100000 := by omega
    obtain ⟨k4, e4, hk4⟩ := fmod_lit (a := dr ds ((20 + (i : Int)).fmod 60).toNat) (b := 4) (by decide)
    have hcon : ∃ c : Nat, (c = 1 ∨ c = 2 ∨ c = 3) ∧ L2.atI [PyData.int 1, .int 1, .int 2, .int 3] ((k4 : Nat) : Int) = some (.int (c : Nat)) := by
      have : k4 = 0 ∨ k4 = 1 ∨ k4 = 2 ∨ k4 = 3 := by omega
      rcases this with rfl | rfl | rfl | rfl
      · exact ⟨1, by decide, rfl⟩
      · exact ⟨1, by decide, rfl⟩
      · exact ⟨2, by decide, rfl⟩
      · exact ⟨3, by decide, rfl⟩
    obtain ⟨c, hc, ec⟩ := hcon
    obtain ⟨k21, e21, hk21⟩ := fmod_lit (a := dr ds ((i : Int).fmod 60).toNat) (b := 21) (by decide)
    have hfr := fraction_ok ((k21 : Int) - 10) ((c : Nat) : Int) (by omega) (gcd_small (by omega) (lt8000 (by omega)))
    unfold b__law_margins_1
    refine ⟨_, [.d (scr ns), .d (.int at_), .d (encS s), .d (.list (ds.map .int)), .d (.int m), .o ((qs ++ [Rat.divInt ((k21 : Int) - 10) ((c : Nat) : Int)]).map encQ), .d (.int i), .u, .u, .u, .u, .u], rfl, .inl ?_, _, _, rfl, by simp [hl], fun q hq' => ?_⟩
    · simp [runDef, initT, gSeq, gNil, gRet, gRetN, gSet, gSetO, gEx, gIf, gPar, gAsg, gFrz, frzT, gRaise, fCl, fCons, fNil, fB, fU, fN, fV, fC, fTr, fNo, fAnd, fOr, vAnd, vOr, fNoV, fIf, fTup, fLst, fFr, fCh, lft, truD, bnd, bndS, gN, gT, gs0, gs1, isiD, tyD, lenDs, absDs, minDs, maxDs, tupDs, addD, subD, negD, ltD, leD, gtD, geD, isN, notN, ixO, fOix, fOln, gApp, putO, gPut, seqD, fSq, fLs, optD, fSl, slD, ixD, atI_c0, atI_c1, atI_c2, atI_map, modD_ok, lenDs, fRg1, fRg2, hR.at60, e4, ec, e21, hfr, hlen]
    · rcases List.mem_append.mp hq' with h | h
      · exact hq q h
      · rw [List.mem_singleton.mp h]
        rcases hc with rfl | rfl | rfl
        · refine ⟨((k21 : Int) - 10) * 6, ?_, by omega⟩
          exact (Rat.divInt_mul_right (n := (k21 : Int) - 10) (d := 1) (a := 6) (by decide)).symm
        · refine ⟨((k21 : Int) - 10) * 3, ?_, by omega⟩
          exact (Rat.divInt_mul_right (n := (k21 : Int) - 10) (d := 2) (a := 3) (by decide)).symm
        · refine ⟨((k21 : Int) - 10) * 2, ?_, by omega⟩
          exact (Rat.divInt_mul_right (n := (k21 : Int) - 10) (d := 3) (a := 2) (by decide)).symm

theorem encS_1 (s : Sc) : L2.atI [PyData.int (s.n : Nat), .tuple (s.ms.map encM)] 1 = some (.tuple (s.ms.map encM)) := rfl
theorem margins_ok (ns : List Int) (k : Nat) (s : Sc) (h : s.Ok) : ∃ qs : List Rat, f__law_margins [scr ns, .int k, encS s] = ok (.tuple (qs.map encQ)) ∧ qs.length = s.ms.length ∧ ∀ q ∈ qs, Dm q := by
  have hR := rowOf_row ns k
  have h36 := h.len
  obtain ⟨ds, hds⟩ : ∃ ds, ds = rowOf ns k := ⟨_, rfl⟩
  rw [← hds] at hR
  obtain ⟨m, hm⟩ : ∃ m, m = s.ms.length := ⟨_, rfl⟩
  obtain ⟨qs, v, e1, hl, hq⟩ := margins_loop ns k s h ds hR m hm
  have hrm : rg1 [.int (m : Int)] = some (rngD 0 m) := by
    have := rg1_ok (n := (m : Int)) (by omega) (by omega)
    simpa using this
  have hrn : rg1 [.int (s.n : Int)] = some (rngD 0 s.n) := by
    have := rg1_ok (n := (s.n : Int)) (by omega) (by have := h.n6; omega)
    simpa using this
  have d40 := hR.at (i := 40) (by decide) (by decide)
  have d50 := hR.at (i := 50) (by decide) (by decide)
  have d51 := hR.at (i := 51) (by decide) (by decide)
  have d52 := hR.at (i := 52) (by decide) (by decide)
  by_cases hc : 0 < (dr ds 40).fmod 3
  · -- differences of values
    obtain ⟨val, hv⟩ : ∃ val : Nat → Int, ∀ p, (dr ds (41 + p)).fmod 15 - 7 = val p := ⟨_, fun _ => rfl⟩
    have hval : ∀ p, -7 ≤ val p ∧ val p ≤ 7 := fun p => by
      have := fmod_rg (dr ds (41 + p)) (b := 15) (by decide)
      rw [← hv]
      omega
    have ev : lcD (gN 8) fYes e__law_margins_2 [.d (scr ns), .d (.int k), .d (encS s), .d (.list (ds.map .int)), .d (.int m), .o (qs.map encQ), v, .u, .u, .u, .u, .u] (rngD 0 s.n) = some ((List.range s.n).map fun p => .int (val p)) := by
      refine lcD_rng s.n fun i hi => ⟨_, rfl, ?_⟩
      have hat := hR.at (i := 41 + (i : Int)) (by omega) (by have := h.n6; omega)
      rw [show (41 + (i : Int)).toNat = 41 + i by omega] at hat
      unfold e__law_margins_2
      simp [runDef, initT, gSeq, gNil, gRet, gRetN, gSet, gSetO, gEx, gIf, gPar, gAsg, gFrz, frzT, gRaise, fCl, fCons, fNil, fB, fU, fN, fV, fC, fTr, fNo, fAnd, fOr, vAnd, vOr, fNoV, fIf, fTup, fLst, fFr, fCh, lft, truD, bnd, bndS, gN, gT, gs0, gs1, isiD, tyD, lenDs, absDs, minDs, maxDs, tupDs, addD, subD, negD, ltD, leD, gtD, geD, isN, notN, ixO, fOix, fOln, gApp, putO, gPut, seqD, fSq, fLs, optD, fSl, slD, ixD, atI_c0, atI_c1, atI_c2, atI_map, modD_ok, lenDs, fRg1, fRg2, hat, hv]
    obtain ⟨rs, hrsd⟩ : ∃ rs : List Rat, rs = s.ms.map fun m => ((val m.l - val m.r : Int) : Rat) := ⟨_, rfl⟩
    have hvat : ∀ p, p < s.n → L2.atI (List.range s.n) (p : Int) = some p := fun p hp => atI_nat (by simp [hp])
    have er : ∀ w : SV, lcD (gT (gs1 (gN 9) (gs1 (gN 10) (gs1 (gN 11) gs0)))) fYes e__law_margins_3 [.d (scr ns), .d (.int k), .d (encS s), .d (.list (ds.map .int)), .d (.int m), .o (qs.map encQ), v, .d (.list ((List.range s.n).map fun p => .int (val p))), w, .u, .u, .u] (s.ms.map encM) = some (rs.map encQ) := by
      intro w
      rw [hrsd, List.map_map]
      refine lcD_all s.ms fun x hx => ⟨_, rfl, ?_⟩
      have hx' := h.rg x hx
      have h1 := hvat x.l (by have := hx'.1; have := hx'.2.1; omega)
      have h2 := hvat x.r hx'.2.1
      unfold e__law_margins_3
      simp [runDef, initT, gSeq, gNil, gRet, gRetN, gSet, gSetO, gEx, gIf, gPar, gAsg, gFrz, frzT, gRaise, fCl, fCons, fNil, fB, fU, fN, fV, fC, fTr, fNo, fAnd, fOr, vAnd, vOr, fNoV, fIf, fTup, fLst, fFr, fCh, lft, truD, bnd, bndS, gN, gT, gs0, gs1, isiD, tyD, lenDs, absDs, minDs, maxDs, tupDs, addD, subD, negD, ltD, leD, gtD, geD, isN, notN, ixO, fOix, fOln, gApp, putO, gPut, seqD, fSq, fLs, optD, fSl, slD, ixD, atI_c0, atI_c1, atI_c2, atI_map, modD_ok, lenDs, fRg1, fRg2, h1, h2, encQ_int, -Rat.intCast_sub]
    have hrs : ∀ q ∈ rs, Dm q := fun q hq' => by
      rw [hrsd] at hq'
      obtain ⟨x, hx, rfl⟩ := List.mem_map.mp hq'
      have a := hval x.l
      have b := hval x.r
      exact Bq.int (by decide) (by omega)
    have hrl : rs.length = s.ms.length := by rw [hrsd, List.length_map]
    by_cases hd : (dr ds 50).fmod 2 = 0 ∧ 0 < m
    · have hm0 : (m : Int) ≠ 0 := by omega
      obtain ⟨j, ej, hj⟩ := fmod_lit (a := dr ds 51) (b := (m : Int)) (by omega)
      obtain ⟨x, hxd⟩ : ∃ x : Int, (dr ds 52).fmod 9 - 4 = x := ⟨_, rfl⟩
      have hx9 := fmod_rg (dr ds 52) (b := 9) (by decide)
      refine ⟨rs.set j (x : Rat), ?_, by rw [List.length_set, hrl], fun q hq' => ?_⟩
      · have hix : L2.ixN rs.length (j : Int) = some j := by
          unfold L2.ixN
          rw [if_pos (by omega), if_pos (by rw [hrl, ← hm]; omega)]
          simp
        simp only [encS] at e1 ev er
        unfold f__law_margins g__law_margins encS
        simp [runDef, initT, gSeq, gNil, gRet, gRetN, gSet, gSetO, gEx, gIf, gPar, gAsg, gFrz, frzT, gRaise, fCl, fCons, fNil, fB, fU, fN, fV, fC, fTr, fNo, fAnd, fOr, vAnd, vOr, fNoV, fIf, fTup, fLst, fFr, fCh, lft, truD, bnd, bndS, gN, gT, gs0, gs1, isiD, tyD, lenDs, absDs, minDs, maxDs, tupDs, addD, subD, negD, ltD, leD, gtD, geD, isN, notN, ixO, fOix, fOln, gApp, putO, gPut, seqD, fSq, fLs, optD, fSl, slD, ixD, atI_c0, atI_c1, atI_c2, atI_map, modD_ok, lenDs, fRg1, fRg2, rowOf_eq, ← hds, gFor, ← hm, hrm, e1, d40, d50, d51, d52, hc, fLc, hrn, rngD_len, show s.n ≤ 100000 by (have := h.n6; omega), show m ≤ 100000 by omega, wipeT, ev, er, hd, eqD_int, show m ≠ 0 by omega, ej, hix, hxd, encQ_int]
      · rcases List.mem_or_eq_of_mem_set hq' with h | rfl
        · exact hrs q h
        · exact Bq.int (by decide) (by omega)
    · refine ⟨rs, ?_, hrl, hrs⟩
      simp only [encS] at e1 ev er
      unfold f__law_margins g__law_margins encS
      by_cases hd1 : (dr ds 50).fmod 2 = 0
      · have hm0 : ¬ 0 < m := fun z => hd ⟨hd1, z⟩
        simp [runDef, initT, gSeq, gNil, gRet, gRetN, gSet, gSetO, gEx, gIf, gPar, gAsg, gFrz, frzT, gRaise, fCl, fCons, fNil, fB, fU, fN, fV, fC, fTr, fNo, fAnd, fOr, vAnd, vOr, fNoV, fIf, fTup, fLst, fFr, fCh, lft, truD, bnd, bndS, gN, gT, gs0, gs1, isiD, tyD, lenDs, absDs, minDs, maxDs, tupDs, addD, subD, negD, ltD, leD, gtD, geD, isN, notN, ixO, fOix, fOln, gApp, putO, gPut, seqD, fSq, fLs, optD, fSl, slD, ixD, atI_c0, atI_c1, atI_c2, atI_map, modD_ok, lenDs, fRg1, fRg2, rowOf_eq, ← hds, gFor, ← hm, hrm, e1, d40, d50, d51, d52, hc, fLc, hrn, rngD_len, show s.n ≤ 100000 by (have := h.n6; omega), show m ≤ 100000 by omega, wipeT, ev, er, hd1, eqD_int, hm0]
      · simp [runDef, initT, gSeq, gNil, gRet, gRetN, gSet, gSetO, gEx, gIf, gPar, gAsg, gFrz, frzT, gRaise, fCl, fCons, fNil, fB, fU, fN, fV, fC, fTr, fNo, fAnd, fOr, vAnd, vOr, fNoV, fIf, fTup, fLst, fFr, fCh, lft, truD, bnd, bndS, gN, gT, gs0, gs1, isiD, tyD, lenDs, absDs, minDs, maxDs, tupDs, addD, subD, negD, ltD, leD, gtD, geD, isN, notN, ixO, fOix, fOln, gApp, putO, gPut, seqD, fSq, fLs, optD, fSl, slD, ixD, atI_c0, atI_c1, atI_c2, atI_map, modD_ok, lenDs, fRg1, fRg2, rowOf_eq, ← hds, gFor, ← hm, hrm, e1, d40, d50, d51, d52, hc, fLc, hrn, rngD_len, show s.n ≤ 100000 by (have := h.n6; omega), show m ≤ 100000 by omega, wipeT, ev, er, hd1, eqD_int]
  · refine ⟨qs, ?_, by rw [hl, hm], hq⟩
    simp only [encS] at e1
    unfold f__law_margins g__law_margins encS
    simp [runDef, initT, gSeq, gNil, gRet, gRetN, gSet, gSetO, gEx, gIf, gPar, gAsg, gFrz, frzT, gRaise, fCl, fCons, fNil, fB, fU, fN, fV, fC, fTr, fNo, fAnd, fOr, vAnd, vOr, fNoV, fIf, fTup, fLst, fFr, fCh, lft, truD, bnd, bndS, gN, gT, gs0, gs1, isiD, tyD, lenDs, absDs, minDs, maxDs, tupDs, addD, subD, negD, ltD, leD, gtD, geD, isN, notN, ixO, fOix, fOln, gApp, putO, gPut, seqD, fSq, fLs, optD, fSl, slD, ixD, atI_c0, atI_c1, atI_c2, atI_map, modD_ok, lenDs, fRg1, fRg2, rowOf_eq, ← hds, gFor, ← hm, hrm, e1, d40, hc]
end LW
set_option Elab.async false
set_option linter.all false
set_option maxRecDepth 100000
set_option maxHeartbeats 4000000
/-! M5: the checks -/
namespace LW
open PySem DL
theorem cut2 (a b c : D) : cutD [a, b, c] none (some 2) = [a, b] := rfl
theorem cut1 (xs : List D) : cutD xs (some 1) none = xs.tail := by
  rw [← List.drop_one]
  unfold cutD
  simp only [HT.sIx]
  rw [if_neg (by decide)]
  cases xs with
  | nil => rfl
  | cons x xs =>
    have e : min (Int.toNat 1) (x :: xs).length = 1 := by
      rw [List.length_cons]; show min 1 _ = 1; omega
    rw [e]
    exact List.take_of_length_le (by simp)
theorem cutTo (xs : List D) (k : Nat) : cutD xs none (some (k : Int)) = xs.take k := by
  unfold cutD
  rw [HT.sIx_none, HT.sIx_nat, List.drop_zero, Nat.sub_zero]
  by_cases h : k ≤ xs.length
  · rw [Nat.min_eq_left h]
  · rw [Nat.min_eq_right (by omega), List.take_of_length_le (by omega), List.take_of_length_le (by omega)]
theorem lexLt2 (a b c d : Int) : HT.lexLt [a, b] [c, d] = decide (a < c ∨ (a = c ∧ b < d)) := by
  by_cases h1 : a < c <;> by_cases h2 : a = c <;> by_cases h3 : b < d <;> simp [HT.lexLt, h1, h2, h3] <;> omega
theorem is_match_ok {n : Nat} {m : Mt} (h : m.ok n) : f_is_match [.int n, encM m] = ok (.bool true) := by
  obtain ⟨h1, h2, h3, h4⟩ := h
  unfold f_is_match g_is_match encM
  simp [runDef, initT, gSeq, gNil, gRet, gRetN, gSet, gSetO, gEx, gIf, gPar, gAsg, gFrz, frzT, gRaise, fCl, fCons, fNil, fB, fU, fN, fV, fC, fTr, fNo, fAnd, fOr, vAnd, vOr, fNoV, fIf, fTup, fLst, fFr, fCh, lft, truD, bnd, bndS, gN, gT, gs0, gs1, isiD, tyD, lenDs, absDs, minDs, maxDs, tupDs, addD, subD, negD, ltD, leD, gtD, geD, isN, notN, ixO, fOix, fOln, gApp, putO, gPut, seqD, fSq, fLs, optD, fSl, slD, ixD, atI_c0, atI_c1, atI_c2, atI_map, modD_ok, lenDs, fRg1, fRg2, kb_tuple_tuple, neD_int, in_range_int, k_MAX_WEIGHT, show (0 : Int) ≤ m.l by omega, show (m.l : Int) ≤ n - 2 by omega, show (m.l : Int) + 1 ≤ m.r by omega, show (m.r : Int) ≤ n - 1 by omega, h3, h4]
  omega
theorem zipD_map {α β : Type} (f : α → D) (g : β → D) : ∀ (xs : List α) (ys : List β), zipD (xs.map f) (ys.map g) = (xs.zip ys).map fun p => .tuple [f p.1, g p.2]
  | [], ys => by simp [zipD]
  | x :: xs, [] => by simp [zipD]
  | x :: xs, y :: ys => by
    have ih := zipD_map f g xs ys
    simp only [zipD] at ih ⊢
    simp [ih]
theorem zip_tail {α : Type} {R : α → α → Prop} : ∀ {xs : List α}, xs.Pairwise R → ∀ p ∈ xs.zip (xs.drop 1), R p.1 p.2
  | [], _, p, h => by simp at h
  | [x], _, p, h => by simp at h
  | x :: y :: xs, hp, p, h => by
    obtain ⟨h1, h2⟩ := List.pairwise_cons.mp hp
    simp only [List.drop_succ_cons, List.drop_zero, List.zip_cons_cons, List.mem_cons] at h
    rcases h with rfl | h
    · exact h1 y List.mem_cons_self
    · exact zip_tail h2 p (by simpa using h)
theorem is_schedule_ok {s : Sc} (h : s.Ok) : f_is_schedule [encS s] = ok (.bool true) := by
  have h36 := h.len
  have e1 : lcD (gN 1) t_is_schedule_1 e_is_schedule_1 [.d (encS s), .u, .u] (s.ms.map encM) = some [] := by
    refine lcD_none s.ms fun x hx => ⟨_, rfl, ?_⟩
    unfold t_is_schedule_1 encS
    simp [runDef, initT, gSeq, gNil, gRet, gRetN, gSet, gSetO, gEx, gIf, gPar, gAsg, gFrz, frzT, gRaise, fCl, fCons, fNil, fB, fU, fN, fV, fC, fTr, fNo, fAnd, fOr, vAnd, vOr, fNoV, fIf, fTup, fLst, fFr, fCh, lft, truD, bnd, bndS, gN, gT, gs0, gs1, isiD, tyD, lenDs, absDs, minDs, maxDs, tupDs, addD, subD, negD, ltD, leD, gtD, geD, isN, notN, ixO, fOix, fOln, gApp, putO, gPut, seqD, fSq, fLs, optD, fSl, slD, ixD, atI_c0, atI_c1, atI_c2, atI_map, modD_ok, lenDs, fRg1, fRg2, is_match_ok (h.rg x hx)]
  have e2 : lcD (gT (gs1 (gN 1) (gs1 (gN 2) gs0))) t_is_schedule_2 e_is_schedule_2 [.d (encS s), .u, .u] (zipD (s.ms.map encM) (s.ms.map encM).tail) = some [] := by
    rw [← List.map_tail, zipD_map]
    refine lcD_none (f := fun p : Mt × Mt => PyData.tuple [encM p.1, encM p.2]) (s.ms.zip s.ms.tail) fun p hp => ⟨_, rfl, ?_⟩
    have hlt := zip_tail h.so p (by rw [List.drop_one]; exact hp)
    unfold t_is_schedule_2 encM
    have : (p.1.l : Int) < p.2.l ∨ ((p.1.l : Int) = p.2.l ∧ (p.1.r : Int) < p.2.r) := by
      rcases hlt with h | h
      · exact .inl (by omega)
      · exact .inr ⟨by omega, by omega⟩
    simp [runDef, initT, gSeq, gNil, gRet, gRetN, gSet, gSetO, gEx, gIf, gPar, gAsg, gFrz, frzT, gRaise, fCl, fCons, fNil, fB, fU, fN, fV, fC, fTr, fNo, fAnd, fOr, vAnd, vOr, fNoV, fIf, fTup, fLst, fFr, fCh, lft, truD, bnd, bndS, gN, gT, gs0, gs1, isiD, tyD, lenDs, absDs, minDs, maxDs, tupDs, addD, subD, negD, ltD, leD, gtD, geD, isN, notN, ixO, fOix, fOln, gApp, putO, gPut, seqD, fSq, fLs, optD, fSl, slD, ixD, atI_c0, atI_c1, atI_c2, atI_map, modD_ok, lenDs, fRg1, fRg2, cut2, asInts, lexLt2, this]
    omega
  have e3 : (zipD (s.ms.map encM) (s.ms.map encM).tail).length ≤ 100000 := by
    unfold zipD
    rw [List.length_zipWith, List.length_map]
    omega
  have h2 := h.n2
  have h6 := h.n6
  unfold encS at e1 e2
  unfold f_is_schedule g_is_schedule encS
  simp [runDef, initT, gSeq, gNil, gRet, gRetN, gSet, gSetO, gEx, gIf, gPar, gAsg, gFrz, frzT, gRaise, fCl, fCons, fNil, fB, fU, fN, fV, fC, fTr, fNo, fAnd, fOr, vAnd, vOr, fNoV, fIf, fTup, fLst, fFr, fCh, lft, truD, bnd, bndS, gN, gT, gs0, gs1, isiD, tyD, lenDs, absDs, minDs, maxDs, tupDs, addD, subD, negD, ltD, leD, gtD, geD, isN, notN, ixO, fOix, fOln, gApp, putO, gPut, seqD, fSq, fLs, optD, fSl, slD, ixD, atI_c0, atI_c1, atI_c2, atI_map, modD_ok, lenDs, fRg1, fRg2, kb_tuple_tuple, neD_int, in_range_int, k_MAX_PLAYERS, show (2 : Int) ≤ s.n by omega, show (s.n : Int) ≤ 6 by omega, fLc, show s.ms.length ≤ 100000 by omega, wipeT, e1, fZp, cut1, e3, e2]
theorem check_schedule_ok {s : Sc} (h : s.Ok) : f_check_schedule [encS s] = ok .none := by
  unfold f_check_schedule g_check_schedule
  simp [runDef, initT, gSeq, gNil, gRet, gRetN, gSet, gSetO, gEx, gIf, gPar, gAsg, gFrz, frzT, gRaise, fCl, fCons, fNil, fB, fU, fN, fV, fC, fTr, fNo, fAnd, fOr, vAnd, vOr, fNoV, fIf, fTup, fLst, fFr, fCh, lft, truD, bnd, bndS, gN, gT, gs0, gs1, isiD, tyD, lenDs, absDs, minDs, maxDs, tupDs, addD, subD, negD, ltD, leD, gtD, geD, isN, notN, ixO, fOix, fOln, gApp, putO, gPut, seqD, fSq, fLs, optD, fSl, slD, ixD, atI_c0, atI_c1, atI_c2, atI_map, modD_ok, lenDs, fRg1, fRg2, is_schedule_ok h]
theorem is_margins_ok {s : Sc} (h : s.Ok) {qs : List Rat} (hl : qs.length = s.ms.length) : f_is_margins [encS s, .tuple (qs.map encQ)] = ok (.bool true) := by
  have h36 := h.len
  have e1 : lcD (gN 2) t_is_margins_1 e_is_margins_1 [.d (encS s), .d (.tuple (qs.map encQ)), .u] (qs.map encQ) = some [] := by
    refine lcD_none qs fun x hx => ⟨_, rfl, ?_⟩
    unfold t_is_margins_1
    simp [runDef, initT, gSeq, gNil, gRet, gRetN, gSet, gSetO, gEx, gIf, gPar, gAsg, gFrz, frzT, gRaise, fCl, fCons, fNil, fB, fU, fN, fV, fC, fTr, fNo, fAnd, fOr, vAnd, vOr, fNoV, fIf, fTup, fLst, fFr, fCh, lft, truD, bnd, bndS, gN, gT, gs0, gs1, isiD, tyD, lenDs, absDs, minDs, maxDs, tupDs, addD, subD, negD, ltD, leD, gtD, geD, isN, notN, ixO, fOix, fOln, gApp, putO, gPut, seqD, fSq, fLs, optD, fSl, slD, ixD, atI_c0, atI_c1, atI_c2, atI_map, modD_ok, lenDs, fRg1, fRg2, is_rational_ok]
  unfold encS at e1
  unfold f_is_margins g_is_margins encS
  simp [runDef, initT, gSeq, gNil, gRet, gRetN, gSet, gSetO, gEx, gIf, gPar, gAsg, gFrz, frzT, gRaise, fCl, fCons, fNil, fB, fU, fN, fV, fC, fTr, fNo, fAnd, fOr, vAnd, vOr, fNoV, fIf, fTup, fLst, fFr, fCh, lft, truD, bnd, bndS, gN, gT, gs0, gs1, isiD, tyD, lenDs, absDs, minDs, maxDs, tupDs, addD, subD, negD, ltD, leD, gtD, geD, isN, notN, ixO, fOix, fOln, gApp, putO, gPut, seqD, fSq, fLs, optD, fSl, slD, ixD, atI_c0, atI_c1, atI_c2, atI_map, modD_ok, lenDs, fRg1, fRg2, kb_tuple_tuple, neD_int, hl, fLc, show s.ms.length ≤ 100000 by omega, wipeT, e1]
theorem check_margins_ok {s : Sc} (h : s.Ok) {qs : List Rat} (hl : qs.length = s.ms.length) : f_check_margins [encS s, .tuple (qs.map encQ)] = ok .none := by
  unfold f_check_margins g_check_margins
  simp [runDef, initT, gSeq, gNil, gRet, gRetN, gSet, gSetO, gEx, gIf, gPar, gAsg, gFrz, frzT, gRaise, fCl, fCons, fNil, fB, fU, fN, fV, fC, fTr, fNo, fAnd, fOr, vAnd, vOr, fNoV, fIf, fTup, fLst, fFr, fCh, lft, truD, bnd, bndS, gN, gT, gs0, gs1, isiD, tyD, lenDs, absDs, minDs, maxDs, tupDs, addD, subD, negD, ltD, leD, gtD, geD, isN, notN, ixO, fOix, fOln, gApp, putO, gPut, seqD, fSq, fLs, optD, fSl, slD, ixD, atI_c0, atI_c1, atI_c2, atI_map, modD_ok, lenDs, fRg1, fRg2, check_schedule_ok h, is_margins_ok h hl]
end LW
set_option Elab.async false
set_option linter.all false
set_option maxRecDepth 100000
set_option maxHeartbeats 4000000
/-! M6: matches found, margins of pairs, sums -/
namespace LW
open PySem DL
/-- the match of two players -/
def isM (a b : Nat) (m : Mt) : Bool := decide (m.l = min a b ∧ m.r = max a b)
theorem isM_comm (a b : Nat) (m : Mt) : isM a b m = isM b a m := by
  unfold isM
  rw [Nat.min_comm, Nat.max_comm]
theorem enumD_map {α : Type} (f : α → D) (xs : List α) : enumD (xs.map f) = xs.zipIdx.map fun p => .tuple [.int (p.2 : Nat), f p.1] := by
  unfold enumD
  rw [List.mapIdx_eq_zipIdx_map, List.zipIdx_map, List.map_map]
  rfl
theorem cut2M (m : Mt) : slD (encM m) none (some 2) = some (.tuple [.int (m.l : Nat), .int (m.r : Nat)]) := rfl
theorem pair_eq (m : Mt) (x y : Int) : eqD (.tuple [.int (m.l : Nat), .int (m.r : Nat)]) (.tuple [.int x, .int y]) = some (.bool (decide ((m.l : Int) = x ∧ (m.r : Int) = y))) := by
  rw [eqD_of (plTup (plCons (plInt _) (plCons (plInt _) plNil))) (plTup (plCons (plInt _) (plCons (plInt _) plNil)))]
  have := eqv_tupI [(m.l : Int), (m.r : Int)] [x, y]
  simp only [List.map_cons, List.map_nil] at this
  rw [this]
  simp
theorem match_index_ok {s : Sc} (h : s.Ok) (a b : Nat) : f_match_index [encS s, .int a, .int b] = ok (match s.ms.zipIdx.filter (fun p => isM a b p.1) with | [] => .none | p :: _ => .int (p.2 : Nat)) := by
  have h36 := h.len
  obtain ⟨x, hx⟩ : ∃ x : Nat, x = min a b := ⟨_, rfl⟩
  obtain ⟨y, hy⟩ : ∃ y : Nat, y = max a b := ⟨_, rfl⟩
  have e1 : (if b < a then (b : Int) else a) = (x : Int) := by
    split <;> omega
  have e2 : (if a < b then (b : Int) else a) = (y : Int) := by
    split <;> omega
  have e : lcD (gT (gs1 (gN 5) (gs1 (gN 6) gs0))) t_match_index_1 e_match_index_1 [.d (encS s), .d (.int a), .d (.int b), .d (.tuple [.int x, .int y]), .u, .u, .u] (enumD (s.ms.map encM)) =
      some ((s.ms.zipIdx.filter (fun p => isM a b p.1)).map fun p => .int (p.2 : Nat)) := by
    rw [enumD_map]
    refine lcD_eq (f := fun p : Mt × Nat => PyData.tuple [.int (p.2 : Nat), encM p.1]) s.ms.zipIdx fun p hp => ⟨_, rfl, ?_, fun _ => ?_⟩
    · unfold t_match_index_1 isM
      rw [← hx, ← hy]
      simp only [encM] at *
      simp [runDef, initT, gSeq, gNil, gRet, gRetN, gSet, gSetO, gEx, gIf, gPar, gAsg, gFrz, frzT, gRaise, fCl, fCons, fNil, fB, fU, fN, fV, fC, fTr, fNo, fAnd, fOr, vAnd, vOr, fNoV, fIf, fTup, fLst, fFr, fCh, lft, truD, bnd, bndS, gN, gT, gs0, gs1, isiD, tyD, lenDs, absDs, minDs, maxDs, tupDs, addD, subD, negD, ltD, leD, gtD, geD, isN, notN, ixO, fOix, fOln, gApp, putO, gPut, seqD, fSq, fLs, optD, fSl, slD, ixD, atI_c0, atI_c1, atI_c2, atI_map, modD_ok, lenDs, fRg1, fRg2, cut2, pair_eq, encM]
      by_cases h1 : p.1.l = x <;> by_cases h2 : p.1.r = y <;> simp [h1, h2] <;> omega
    · unfold e_match_index_1
      simp [runDef, initT, gSeq, gNil, gRet, gRetN, gSet, gSetO, gEx, gIf, gPar, gAsg, gFrz, frzT, gRaise, fCl, fCons, fNil, fB, fU, fN, fV, fC, fTr, fNo, fAnd, fOr, vAnd, vOr, fNoV, fIf, fTup, fLst, fFr, fCh, lft, truD, bnd, bndS, gN, gT, gs0, gs1, isiD, tyD, lenDs, absDs, minDs, maxDs, tupDs, addD, subD, negD, ltD, leD, gtD, geD, isN, notN, ixO, fOix, fOln, gApp, putO, gPut, seqD, fSq, fLs, optD, fSl, slD, ixD, atI_c0, atI_c1, atI_c2, atI_map, modD_ok, lenDs, fRg1, fRg2]
  have el : (enumD (s.ms.map encM)).length ≤ 100000 := by
    unfold enumD
    rw [List.length_mapIdx, List.length_map]
    omega
  unfold encS at e
  unfold f_match_index g_match_index encS
  generalize s.ms.zipIdx.filter (fun p => isM a b p.1) = fl at e ⊢
  cases fl with
  | nil => simp [runDef, initT, gSeq, gNil, gRet, gRetN, gSet, gSetO, gEx, gIf, gPar, gAsg, gFrz, frzT, gRaise, fCl, fCons, fNil, fB, fU, fN, fV, fC, fTr, fNo, fAnd, fOr, vAnd, vOr, fNoV, fIf, fTup, fLst, fFr, fCh, lft, truD, bnd, bndS, gN, gT, gs0, gs1, isiD, tyD, lenDs, absDs, minDs, maxDs, tupDs, addD, subD, negD, ltD, leD, gtD, geD, isN, notN, ixO, fOix, fOln, gApp, putO, gPut, seqD, fSq, fLs, optD, fSl, slD, ixD, atI_c0, atI_c1, atI_c2, atI_map, modD_ok, lenDs, fRg1, fRg2, e1, e2, fEn, fLc, el, wipeT, e]
  | cons p r => simp [runDef, initT, gSeq, gNil, gRet, gRetN, gSet, gSetO, gEx, gIf, gPar, gAsg, gFrz, frzT, gRaise, fCl, fCons, fNil, fB, fU, fN, fV, fC, fTr, fNo, fAnd, fOr, vAnd, vOr, fNoV, fIf, fTup, fLst, fFr, fCh, lft, truD, bnd, bndS, gN, gT, gs0, gs1, isiD, tyD, lenDs, absDs, minDs, maxDs, tupDs, addD, subD, negD, ltD, leD, gtD, geD, isN, notN, ixO, fOix, fOln, gApp, putO, gPut, seqD, fSq, fLs, optD, fSl, slD, ixD, atI_c0, atI_c1, atI_c2, atI_map, modD_ok, lenDs, fRg1, fRg2, e1, e2, fEn, fLc, el, wipeT, e]
/-- the margin of a for b: the first match of the two -/
def mrg (ms : List Mt) (qs : List Rat) (a b : Nat) : Option Rat := ((ms.zip qs).find? fun p => isM a b p.1).map fun p => if a < b then p.2 else -p.2
theorem find_idx (P : Mt → Bool) : ∀ (ms : List Mt) (qs : List Rat) (k : Nat), ms.length = qs.length → match (ms.zipIdx k).filter (fun p => P p.1) with
    | [] => (ms.zip qs).find? (fun p => P p.1) = none
    | p :: _ => k ≤ p.2 ∧ ∃ q, qs[p.2 - k]? = some q ∧ (ms.zip qs).find? (fun p => P p.1) = some (p.1, q)
  | [], _, k, _ => by simp
  | m :: ms, [], k, h => by simp at h
  | m :: ms, q :: qs, k, h => by
    have ih := find_idx P ms qs (k + 1) (by simpa using h)
    rw [List.zipIdx_cons, List.filter_cons]
    cases hp : P m with
    | true =>
      simp only [hp, if_true]
      exact ⟨Nat.le_refl _, q, by simp, by simp [hp]⟩
    | false =>
      simp only [hp, Bool.false_eq_true, if_false]
      revert ih
      cases (ms.zipIdx (k + 1)).filter (fun p => P p.1) with
      | nil => intro ih; simp [hp, ih]
      | cons p r =>
        rintro ⟨h1, q', h2, h3⟩
        refine ⟨by omega, q', ?_, by simp [hp, h3]⟩
        rw [show p.2 - k = (p.2 - (k + 1)) + 1 by omega]
        simpa using h2
theorem margin_of_ok {s : Sc} (h : s.Ok) {qs : List Rat} (hl : qs.length = s.ms.length) {a b : Nat} {q : Rat} (hq : mrg s.ms qs a b = some q) : f_margin_of [encS s, .tuple (qs.map encQ), .int a, .int b] = ok (encQ q) := by
  have h1 := match_index_ok h a b
  have h2 := find_idx (isM a b) s.ms qs 0 hl.symm
  unfold mrg at hq
  obtain ⟨p, e1, e2⟩ := Option.map_eq_some_iff.mp hq
  revert h1 h2
  cases s.ms.zipIdx.filter (fun p => isM a b p.1) with
  | nil =>
    intro h1 h2
    simp only at h2
    rw [h2] at e1; cases e1
  | cons p' r =>
    rintro h1 ⟨_, q', h3, h4⟩
    rw [h4] at e1
    cases e1
    simp only at e2 h1
    have h5 := atI_nat h3
    rw [Nat.sub_zero] at h5
    unfold f_margin_of g_margin_of
    by_cases hab : a < b
    · rw [if_pos hab] at e2
      subst e2
      simp [runDef, initT, gSeq, gNil, gRet, gRetN, gSet, gSetO, gEx, gIf, gPar, gAsg, gFrz, frzT, gRaise, fCl, fCons, fNil, fB, fU, fN, fV, fC, fTr, fNo, fAnd, fOr, vAnd, vOr, fNoV, fIf, fTup, fLst, fFr, fCh, lft, truD, bnd, bndS, gN, gT, gs0, gs1, isiD, tyD, lenDs, absDs, minDs, maxDs, tupDs, addD, subD, negD, ltD, leD, gtD, geD, isN, notN, ixO, fOix, fOln, gApp, putO, gPut, seqD, fSq, fLs, optD, fSl, slD, ixD, atI_c0, atI_c1, atI_c2, atI_map, modD_ok, lenDs, fRg1, fRg2, h1, h5, hab]
    · rw [if_neg hab] at e2
      subst e2
      simp [runDef, initT, gSeq, gNil, gRet, gRetN, gSet, gSetO, gEx, gIf, gPar, gAsg, gFrz, frzT, gRaise, fCl, fCons, fNil, fB, fU, fN, fV, fC, fTr, fNo, fAnd, fOr, vAnd, vOr, fNoV, fIf, fTup, fLst, fFr, fCh, lft, truD, bnd, bndS, gN, gT, gs0, gs1, isiD, tyD, lenDs, absDs, minDs, maxDs, tupDs, addD, subD, negD, ltD, leD, gtD, geD, isN, notN, ixO, fOix, fOln, gApp, putO, gPut, seqD, fSq, fLs, optD, fSl, slD, ixD, atI_c0, atI_c1, atI_c2, atI_map, modD_ok, lenDs, fRg1, fRg2, h1, h5, hab]
      rfl
theorem mrg_neg {ms : List Mt} {qs : List Rat} {a b : Nat} {q : Rat} (hab : a ≠ b) (h : mrg ms qs a b = some q) : mrg ms qs b a = some (-q) := by
  unfold mrg at h ⊢
  rw [show (fun p : Mt × Rat => isM b a p.1) = (fun p : Mt × Rat => isM a b p.1) from funext fun p => isM_comm b a p.1]
  obtain ⟨p, e1, e2⟩ := Option.map_eq_some_iff.mp h
  rw [e1, Option.map_some, ← e2]
  by_cases hlt : a < b
  · rw [if_pos hlt, if_neg (by omega)]
  · rw [if_neg hlt, if_pos (by omega), Rat.neg_neg]
theorem mrg_isSome {ms : List Mt} {qs : List Rat} (hl : ms.length = qs.length) (a b : Nat) : (mrg ms qs a b).isSome = ms.any (isM a b) := by
  unfold mrg
  rw [Option.isSome_map]
  induction ms generalizing qs with
  | nil => simp
  | cons m ms ih =>
    cases qs with
    | nil => simp at hl
    | cons q qs =>
      rw [List.zip_cons_cons, List.find?_cons, List.any_cons]
      cases hp : isM a b m with
      | true => simp
      | false => simpa using ih (by simpa using hl)
theorem mrg_mem {ms : List Mt} {qs : List Rat} {a b : Nat} {q : Rat} (h : mrg ms qs a b = some q) : q ∈ qs ∨ -q ∈ qs := by
  unfold mrg at h
  obtain ⟨p, e1, e2⟩ := Option.map_eq_some_iff.mp h
  have hm := List.mem_of_find?_eq_some e1
  have h2 : p.2 ∈ qs := (List.of_mem_zip (a := p.1) (b := p.2) hm).2
  split at e2
  · subst e2; exact .inl h2
  · subst e2; exact .inr (by rw [Rat.neg_neg]; exact h2)
theorem mrg_dm {ms : List Mt} {qs : List Rat} {a b : Nat} {q : Rat} {d m : Nat} (hd : ∀ q ∈ qs, Bq d m q) (h : mrg ms qs a b = some q) : Bq d m q := by
  rcases mrg_mem h with h | h
  · exact hd q h
  · have := (hd _ h).neg
    rwa [Rat.neg_neg] at this
end LW
set_option Elab.async false
set_option linter.all false
set_option maxRecDepth 100000
set_option maxHeartbeats 4000000
/-! M7: totals, the law's margin of a pair -/
namespace LW
open PySem DL
theorem Bq.sum {d m : Nat} (h0 : d ≠ 0) : ∀ (qs : List Rat), (∀ q ∈ qs, Bq d m q) → Bq d (qs.length * m) qs.sum
  | [], _ => by simpa using Bq.zero
  | q :: qs, h => by
    have := (h q List.mem_cons_self).add (Bq.sum h0 qs fun x hx => h x (List.mem_cons_of_mem _ hx)) h0
    rw [List.sum_cons, List.length_cons]
    exact this.le (by rw [Nat.add_mul, Nat.one_mul, Nat.add_comm]; exact Nat.le_refl _)
theorem take_sum {qs : List Rat} {i : Nat} {q : Rat} (h : qs[i]? = some q) : (qs.take (i + 1)).sum = (qs.take i).sum + q := by
  obtain ⟨hi, e⟩ := List.getElem?_eq_some_iff.mp h
  rw [List.take_succ_eq_append_getElem hi, e, List.sum_append]
  simp [Rat.add_zero]
/-- sums that stay small -/
theorem total_ok (qs : List Rat) (h1 : ∀ q ∈ qs, Sm 4000 q) (h2 : ∀ i, Sm 4000 (qs.take i).sum) : f_total [.list (qs.map encQ)] = ok (encQ qs.sum) := by
  let I : Nat → Ta → Prop := fun i τ => ∃ v : SV, τ = [.d (.list (qs.map encQ)), .d (encQ (qs.take i).sum), v]
  have step := forD_nx (g := gN 2) (b := b_total_1) (xs := qs.map encQ) (τ := [.d (.list (qs.map encQ)), .d k_ZERO, .u]) I ⟨.u, rfl⟩ ?_
  · obtain ⟨τ', e1, v, rfl⟩ := step
    rw [List.length_map, List.take_length] at e1
    unfold f_total g_total
    simp [runDef, initT, gSeq, gNil, gRet, gRetN, gSet, gSetO, gEx, gIf, gPar, gAsg, gFrz, frzT, gRaise, fCl, fCons, fNil, fB, fU, fN, fV, fC, fTr, fNo, fAnd, fOr, vAnd, vOr, fNoV, fIf, fTup, fLst, fFr, fCh, lft, truD, bnd, bndS, gN, gT, gs0, gs1, isiD, tyD, lenDs, absDs, minDs, maxDs, tupDs, addD, subD, negD, ltD, leD, gtD, geD, isN, notN, ixO, fOix, fOln, gApp, putO, gPut, seqD, fSq, fLs, optD, fSl, slD, ixD, atI_c0, atI_c1, atI_c2, atI_map, modD_ok, lenDs, fRg1, fRg2, gFor, e1]
  · rintro i x τ hx ⟨v, rfl⟩
    rw [List.getElem?_map] at hx
    obtain ⟨q, hq, rfl⟩ := Option.map_eq_some_iff.mp hx
    refine ⟨_, [.d (.list (qs.map encQ)), .d (encQ (qs.take (i + 1)).sum), .d (encQ q)], rfl, .inl ?_, _, rfl⟩
    have ha := add_ok (h2 i) (h1 q (List.mem_of_getElem? hq))
    rw [← take_sum hq] at ha
    unfold b_total_1
    simp [runDef, initT, gSeq, gNil, gRet, gRetN, gSet, gSetO, gEx, gIf, gPar, gAsg, gFrz, frzT, gRaise, fCl, fCons, fNil, fB, fU, fN, fV, fC, fTr, fNo, fAnd, fOr, vAnd, vOr, fNoV, fIf, fTup, fLst, fFr, fCh, lft, truD, bnd, bndS, gN, gT, gs0, gs1, isiD, tyD, lenDs, absDs, minDs, maxDs, tupDs, addD, subD, negD, ltD, leD, gtD, geD, isN, notN, ixO, fOix, fOln, gApp, putO, gPut, seqD, fSq, fLs, optD, fSl, slD, ixD, atI_c0, atI_c1, atI_c2, atI_map, modD_ok, lenDs, fRg1, fRg2, ha]
theorem total_bq {d m : Nat} (qs : List Rat) (hd : d ≠ 0) (h : ∀ q ∈ qs, Bq d m q) (hd2 : d < 2 ^ 4000) (hm : m < 2 ^ 4000) (hm2 : qs.length * m < 2 ^ 4000) : f_total [.list (qs.map encQ)] = ok (encQ qs.sum) := by
  refine total_ok qs (fun q hq => (h q hq).sm hd hd2 hm) fun i => ?_
  refine ((Bq.sum hd (qs.take i) fun q hq => h q (List.mem_of_mem_take hq)).le ?_).sm hd hd2 hm2
  rw [List.length_take]
  exact Nat.mul_le_mul_right _ (Nat.min_le_right _ _)
theorem forD_cons_nx {g : D → Ta → Option Ta} {b : Ta → Option Out} {x : D} {xs : List D} {τ τ1 τ2 : Ta} (h1 : g x τ = some τ1) (h2 : b τ1 = some (.nx τ2)) : forD g b (x :: xs) τ = forD g b xs τ2 := by
  simp only [forD, h1, h2, Option.bind_some]
theorem forD_cons_rt {g : D → Ta → Option Ta} {b : Ta → Option Out} {x d : D} {xs : List D} {τ τ1 : Ta} (h1 : g x τ = some τ1) (h2 : b τ1 = some (.rt d)) : forD g b (x :: xs) τ = some (.rt d) := by
  simp only [forD, h1, h2, Option.bind_some]
theorem law_margin_loop {n : Nat} {a b : Nat} (hab : a ≠ b) (d0 d1 : D) : ∀ (ms : List Mt) (qs : List Rat) (v w : SV), (∀ m ∈ ms, m.l < m.r) → match mrg ms qs a b with
    | some q => forD (gT (gs1 (gN 4) (gs1 (gN 5) gs0))) b__law_margin_1 (zipD (ms.map encM) (qs.map encQ)) [.d d0, .d d1, .d (.int a), .d (.int b), v, w] = some (.rt (encQ q))
    | none => True
  | [], _, v, w, _ => by simp [mrg]
  | m :: ms, [], v, w, _ => by simp [mrg]
  | m :: ms, q :: qs, v, w, h => by
    have ih := law_margin_loop (n := n) hab d0 d1 ms qs (.d (encM m)) (.d (encQ q)) fun x hx => h x (List.mem_cons_of_mem _ hx)
    have hm := h m List.mem_cons_self
    have e : zipD ((m :: ms).map encM) ((q :: qs).map encQ) = .tuple [encM m, encQ q] :: zipD (ms.map encM) (qs.map encQ) := rfl
    rw [e]
    have es : mrg (m :: ms) (q :: qs) a b = if isM a b m then some (if a < b then q else -q) else mrg ms qs a b := by
      unfold mrg
      rw [List.zip_cons_cons, List.find?_cons]
      cases isM a b m <;> simp
    rw [es]
    by_cases h1 : m.l = a ∧ m.r = b
    · have hM : isM a b m = true := by unfold isM; exact decide_eq_true ⟨by omega, by omega⟩
      rw [if_pos hM, if_pos (by omega)]
      refine forD_cons_rt (τ1 := [.d d0, .d d1, .d (.int a), .d (.int b), .d (encM m), .d (encQ q)]) rfl ?_
      unfold b__law_margin_1 encM
      simp [runDef, initT, gSeq, gNil, gRet, gRetN, gSet, gSetO, gEx, gIf, gPar, gAsg, gFrz, frzT, gRaise, fCl, fCons, fNil, fB, fU, fN, fV, fC, fTr, fNo, fAnd, fOr, vAnd, vOr, fNoV, fIf, fTup, fLst, fFr, fCh, lft, truD, bnd, bndS, gN, gT, gs0, gs1, isiD, tyD, lenDs, absDs, minDs, maxDs, tupDs, addD, subD, negD, ltD, leD, gtD, geD, isN, notN, ixO, fOix, fOln, gApp, putO, gPut, seqD, fSq, fLs, optD, fSl, slD, ixD, atI_c0, atI_c1, atI_c2, atI_map, modD_ok, lenDs, fRg1, fRg2, eqD_int, h1]
    · by_cases h2 : m.l = b ∧ m.r = a
      · have hM : isM a b m = true := by unfold isM; exact decide_eq_true ⟨by omega, by omega⟩
        rw [if_pos hM, if_neg (by omega)]
        refine forD_cons_rt (τ1 := [.d d0, .d d1, .d (.int a), .d (.int b), .d (encM m), .d (encQ q)]) rfl ?_
        unfold b__law_margin_1 encM encQ
        have hne : (b : Int) ≠ a := by omega
        simp [runDef, initT, gSeq, gNil, gRet, gRetN, gSet, gSetO, gEx, gIf, gPar, gAsg, gFrz, frzT, gRaise, fCl, fCons, fNil, fB, fU, fN, fV, fC, fTr, fNo, fAnd, fOr, vAnd, vOr, fNoV, fIf, fTup, fLst, fFr, fCh, lft, truD, bnd, bndS, gN, gT, gs0, gs1, isiD, tyD, lenDs, absDs, minDs, maxDs, tupDs, addD, subD, negD, ltD, leD, gtD, geD, isN, notN, ixO, fOix, fOln, gApp, putO, gPut, seqD, fSq, fLs, optD, fSl, slD, ixD, atI_c0, atI_c1, atI_c2, atI_map, modD_ok, lenDs, fRg1, fRg2, eqD_int, h2, hne]
      · have hM : ¬ isM a b m = true := by
          unfold isM
          intro z
          have := of_decide_eq_true z
          omega
        rw [if_neg hM]
        revert ih
        cases hmr : mrg ms qs a b with
        | none => intro _; trivial
        | some q' =>
          intro ih
          simp only at ih ⊢
          rw [← ih]
          refine forD_cons_nx (τ1 := [.d d0, .d d1, .d (.int a), .d (.int b), .d (encM m), .d (encQ q)]) rfl ?_
          unfold b__law_margin_1 encM
          by_cases k1 : m.l = a <;> by_cases k2 : m.r = b <;> by_cases k3 : m.l = b <;> by_cases k4 : m.r = a <;> first | omega | simp [runDef, initT, gSeq, gNil, gRet, gRetN, gSet, gSetO, gEx, gIf, gPar, gAsg, gFrz, frzT, gRaise, fCl, fCons, fNil, fB, fU, fN, fV, fC, fTr, fNo, fAnd, fOr, vAnd, vOr, fNoV, fIf, fTup, fLst, fFr, fCh, lft, truD, bnd, bndS, gN, gT, gs0, gs1, isiD, tyD, lenDs, absDs, minDs, maxDs, tupDs, addD, subD, negD, ltD, leD, gtD, geD, isN, notN, ixO, fOix, fOln, gApp, putO, gPut, seqD, fSq, fLs, optD, fSl, slD, ixD, atI_c0, atI_c1, atI_c2, atI_map, modD_ok, lenDs, fRg1, fRg2, eqD_int, k1, k2, k3, k4, show (m.l : Int) = a ↔ m.l = a by omega, show (m.r : Int) = b ↔ m.r = b by omega, show (m.l : Int) = b ↔ m.l = b by omega, show (m.r : Int) = a ↔ m.r = a by omega]
theorem law_margin_ok {s : Sc} (h : s.Ok) {qs : List Rat} {a b : Nat} (hab : a ≠ b) {q : Rat} (hq : mrg s.ms qs a b = some q) : f__law_margin [encS s, .tuple (qs.map encQ), .int a, .int b] = ok (encQ q) := by
  have z := law_margin_loop (n := 0) hab (encS s) (.tuple (qs.map encQ)) s.ms qs .u .u fun m hm => (h.rg m hm).1
  rw [hq] at z
  simp only at z
  unfold encS at z
  unfold f__law_margin g__law_margin encS
  simp [runDef, initT, gSeq, gNil, gRet, gRetN, gSet, gSetO, gEx, gIf, gPar, gAsg, gFrz, frzT, gRaise, fCl, fCons, fNil, fB, fU, fN, fV, fC, fTr, fNo, fAnd, fOr, vAnd, vOr, fNoV, fIf, fTup, fLst, fFr, fCh, lft, truD, bnd, bndS, gN, gT, gs0, gs1, isiD, tyD, lenDs, absDs, minDs, maxDs, tupDs, addD, subD, negD, ltD, leD, gtD, geD, isN, notN, ixO, fOix, fOln, gApp, putO, gPut, seqD, fSq, fLs, optD, fSl, slD, ixD, atI_c0, atI_c1, atI_c2, atI_map, modD_ok, lenDs, fRg1, fRg2, gFor, fZp, z]
end LW
set_option Elab.async false
set_option linter.all false
/-! E1: sums, rows, elimination (plain) -/
namespace LA
/-- sum of f 0 .. f (n-1) -/
def sm : Nat → (Nat → Rat) → Rat
  | 0, _ => 0
  | n + 1, f => sm n f + f n
theorem sm_congr : ∀ {n : Nat} {f g : Nat → Rat}, (∀ j, j < n → f j = g j) → sm n f = sm n g
  | 0, _, _, _ => rfl
  | n + 1, f, g, h => by rw [sm, sm, sm_congr (fun j hj => h j (by omega)), h n (by omega)]
theorem sm_zero {n : Nat} {f : Nat → Rat} (h : ∀ j, j < n → f j = 0) : sm n f = 0 := by
  induction n with
  | zero => rfl
  | succ n ih => rw [sm, ih (fun j hj => h j (by omega)), h n (by omega)]; grind
theorem sm_add (n : Nat) (f g : Nat → Rat) : sm n (fun j => f j + g j) = sm n f + sm n g := by
  induction n with
  | zero => simp only [sm]; grind
  | succ n ih => simp only [sm, ih]; grind
theorem sm_sub (n : Nat) (f g : Nat → Rat) : sm n (fun j => f j - g j) = sm n f - sm n g := by
  induction n with
  | zero => simp only [sm]; grind
  | succ n ih => simp only [sm, ih]; grind
theorem sm_mul (n : Nat) (a : Rat) (f : Nat → Rat) : sm n (fun j => a * f j) = a * sm n f := by
  induction n with
  | zero => simp [sm]
  | succ n ih => simp only [sm, ih]; grind
theorem sm_one {n : Nat} {f : Nat → Rat} (i : Nat) (hi : i < n) (h : ∀ j, j < n → j ≠ i → f j = 0) : sm n f = f i := by
  induction n with
  | zero => omega
  | succ n ih =>
    rw [sm]
    by_cases e : i = n
    · subst e
      rw [sm_zero fun j hj => h j (by omega) (by omega)]; grind
    · rw [ih (by omega) fun j hj hne => h j (by omega) hne, h n (by omega) (fun z => e z.symm)]; grind
theorem sm_swap (n m : Nat) (f : Nat → Nat → Rat) : sm n (fun i => sm m (f i)) = sm m (fun j => sm n (fun i => f i j)) := by
  induction n with
  | zero => simp only [sm]; exact (sm_zero fun _ _ => rfl).symm
  | succ n ih => simp only [sm, ih]; rw [← sm_add]
theorem sm_nonneg {n : Nat} {f : Nat → Rat} (h : ∀ j, j < n → 0 ≤ f j) : 0 ≤ sm n f := by
  induction n with
  | zero => exact Rat.le_refl
  | succ n ih => rw [sm]; have := ih (fun j hj => h j (by omega)); have := h n (by omega); grind
theorem sm_nonneg_zero {n : Nat} {f : Nat → Rat} (h : ∀ j, j < n → 0 ≤ f j) (e : sm n f = 0) : ∀ j, j < n → f j = 0 := by
  induction n with
  | zero => intro j hj; omega
  | succ n ih =>
    rw [sm] at e
    have h1 := sm_nonneg (fun j (hj : j < n) => h j (by omega))
    have h2 := h n (by omega)
    have e1 : sm n f = 0 := by grind
    have e2 : f n = 0 := by grind
    intro j hj
    by_cases hn : j = n
    · rw [hn]; exact e2
    · exact ih (fun j hj => h j (by omega)) e1 j (by omega)

/-- an entry -/
def at_ (r : List Rat) (j : Nat) : Rat := r.getD j 0
def clr (row piv : List Rat) (c : Nat) : List Rat := List.zipWith (fun e o => e - at_ row c * o) row piv
def nrm (piv : List Rat) (c : Nat) : List Rat := piv.map fun e => e / at_ piv c
abbrev Es := List (List Rat) × List (Nat × List Rat)
def estep (st : Es) (c : Nat) : Es := match st.1.find? (fun r => decide (at_ r c ≠ 0)) with
  | none => st
  | some p => ((st.1.erase p).map fun r => clr r (nrm p c) c, (st.2.map fun x => (x.1, clr x.2 (nrm p c) c)) ++ [(c, nrm p c)])
def erun (rows : List (List Rat)) (n : Nat) : Es := (List.range n).foldl estep (rows, [])
def elim (rows : List (List Rat)) (n : Nat) : List (Nat × List Rat) := (erun rows n).2
def solve (rows : List (List Rat)) (n : Nat) : List Rat := (elim rows n).foldl (fun x r => x.set r.1 (at_ r.2 n)) (List.replicate n 0)

theorem at_zip {f : Rat → Rat → Rat} (h0 : f 0 0 = 0) {r p : List Rat} (h : r.length = p.length) (j : Nat) : at_ (List.zipWith f r p) j = f (at_ r j) (at_ p j) := by
  unfold at_
  simp only [List.getD_eq_getElem?_getD, List.getElem?_zipWith]
  by_cases hj : j < r.length
  · rw [List.getElem?_eq_getElem hj, List.getElem?_eq_getElem (by omega)]; rfl
  · rw [List.getElem?_eq_none (by omega), List.getElem?_eq_none (by omega)]; exact h0.symm
theorem at_clr {r p : List Rat} (h : r.length = p.length) (c j : Nat) : at_ (clr r p c) j = at_ r j - at_ r c * at_ p j := at_zip (by grind) h j
theorem at_nrm (p : List Rat) (c j : Nat) : at_ (nrm p c) j = at_ p j / at_ p c := by
  unfold nrm
  generalize at_ p c = z
  unfold at_
  simp only [List.getD_eq_getElem?_getD, List.getElem?_map]
  cases p[j]? with
  | none => simp; grind
  | some x => rfl
theorem clr_len {r p : List Rat} (h : r.length = p.length) (c : Nat) : (clr r p c).length = p.length := by
  unfold clr; rw [List.length_zipWith, h, Nat.min_self]
theorem nrm_len (p : List Rat) (c : Nat) : (nrm p c).length = p.length := by unfold nrm; rw [List.length_map]

/-- combinations of rows -/
inductive Span (rows : List (List Rat)) : (Nat → Rat) → Prop
  | zero : Span rows (fun _ => 0)
  | add {f : Nat → Rat} {r : List Rat} (a : Rat) : r ∈ rows → Span rows f → Span rows (fun j => f j + a * at_ r j)
theorem Span.mul {rows : List (List Rat)} {f : Nat → Rat} (h : Span rows f) (b : Rat) : Span rows (fun j => b * f j) := by
  induction h with
  | zero => have := Span.zero (rows := rows); simpa using this
  | add a hr _ ih =>
    have := Span.add (b * a) hr ih
    refine cast (congrArg _ (funext fun j => ?_)) this
    grind
theorem Span.plus {rows : List (List Rat)} {f g : Nat → Rat} (h : Span rows f) (h' : Span rows g) : Span rows (fun j => f j + g j) := by
  induction h' with
  | zero => refine cast (congrArg _ (funext fun j => ?_)) h; grind
  | add a hr _ ih =>
    refine cast (congrArg _ (funext fun j => ?_)) (Span.add a hr ih)
    grind
theorem Span.mem {rows : List (List Rat)} {r : List Rat} (h : r ∈ rows) : Span rows (at_ r) := by
  refine cast (congrArg _ (funext fun j => ?_)) (Span.add 1 h Span.zero)
  grind
/-- with weights for the rows by their places -/
theorem Span.comb {rows : List (List Rat)} {f : Nat → Rat} (h : Span rows f) : ∃ y : Nat → Rat, ∀ j, f j = sm rows.length fun i => y i * at_ (rows.getD i []) j := by
  induction h with
  | zero => exact ⟨fun _ => 0, fun j => (sm_zero fun i _ => by grind).symm⟩
  | @add f r a hr _ ih =>
    obtain ⟨y, hy⟩ := ih
    obtain ⟨k, hk, e⟩ := List.getElem_of_mem hr
    refine ⟨fun i => y i + (if i = k then a else 0), fun j => ?_⟩
    have e1 : sm rows.length (fun i => (if i = k then a else 0) * at_ (rows.getD i []) j) = a * at_ r j := by
      rw [sm_one k hk fun i _ hne => by rw [if_neg hne]; grind]
      rw [if_pos rfl, List.getD_eq_getElem?_getD, List.getElem?_eq_getElem hk, e]; rfl
    show f j + a * at_ r j = _
    rw [hy, ← e1, ← sm_add]
    exact sm_congr fun i _ => by grind

def Sat (n : Nat) (r : List Rat) (x : Nat → Rat) : Prop := sm n (fun j => at_ r j * x j) = at_ r n
structure Inv (orig : List (List Rat)) (n c : Nat) (st : Es) : Prop where
  l1 : ∀ r ∈ st.1, r.length = n + 1
  l2 : ∀ p ∈ st.2, p.2.length = n + 1
  s1 : ∀ r ∈ st.1, Span orig (at_ r)
  s2 : ∀ p ∈ st.2, Span orig (at_ p.2)
  so : ∀ x, (∀ r ∈ st.1, Sat n r x) → (∀ p ∈ st.2, Sat n p.2 x) → ∀ r ∈ orig, Sat n r x
  z1 : ∀ r ∈ st.1, ∀ j, j < c → at_ r j = 0
  lt : ∀ p ∈ st.2, p.1 < c
  pw : st.2.Pairwise fun a b => a.1 < b.1
  pv : ∀ p ∈ st.2, ∀ q ∈ st.2, at_ p.2 q.1 = if p.1 = q.1 then 1 else 0
theorem Inv.init {rows : List (List Rat)} {n : Nat} (h : ∀ r ∈ rows, r.length = n + 1) : Inv rows n 0 (rows, []) where
  l1 := h
  l2 := fun p hp => nomatch hp
  s1 := fun r hr => .mem hr
  s2 := fun p hp => nomatch hp
  so := fun x h1 _ => h1
  z1 := fun r _ j hj => by omega
  lt := fun p hp => nomatch hp
  pw := List.Pairwise.nil
  pv := fun p hp => nomatch hp
theorem sat_clr {n : Nat} {r q : List Rat} (hl : r.length = q.length) (c : Nat) (x : Nat → Rat) (h : Sat n q x) : Sat n (clr r q c) x ↔ Sat n r x := by
  unfold Sat at *
  have e : sm n (fun j => at_ (clr r q c) j * x j) = sm n (fun j => at_ r j * x j) - at_ r c * sm n (fun j => at_ q j * x j) := by
    rw [← sm_mul, ← sm_sub]
    exact sm_congr fun j _ => by rw [at_clr hl]; grind
  rw [e, h, at_clr hl]
  grind
theorem sat_nrm {n : Nat} {p : List Rat} {c : Nat} (h0 : at_ p c ≠ 0) (x : Nat → Rat) : Sat n (nrm p c) x ↔ Sat n p x := by
  unfold Sat
  have e : sm n (fun j => at_ (nrm p c) j * x j) = (1 / at_ p c) * sm n (fun j => at_ p j * x j) := by
    rw [← sm_mul]
    exact sm_congr fun j _ => by rw [at_nrm]; grind
  rw [e, at_nrm]
  constructor <;> intro h <;> grind
theorem Inv.step {orig : List (List Rat)} {n c : Nat} {st : Es} (hc : c < n) (I : Inv orig n c st) : Inv orig n (c + 1) (estep st c) := by
  unfold estep
  cases hf : st.1.find? (fun r => decide (at_ r c ≠ 0)) with
  | none =>
    have hz : ∀ r ∈ st.1, at_ r c = 0 := fun r hr => by
      have := List.find?_eq_none.mp hf r hr
      simpa using this
    exact { I with
      z1 := fun r hr j hj => by
        by_cases e : j = c
        · rw [e]; exact hz r hr
        · exact I.z1 r hr j (by omega)
      lt := fun p hp => by have := I.lt p hp; omega }
  | some p =>
    have hp : p ∈ st.1 := List.mem_of_find?_eq_some hf
    have hp0 : at_ p c ≠ 0 := by have := List.find?_some hf; simpa using this
    have lp := I.l1 p hp
    have lq : (nrm p c).length = n + 1 := by rw [nrm_len]; exact lp
    have hme : ∀ r ∈ st.1.erase p, r ∈ st.1 := fun r hr => List.mem_of_mem_erase hr
    have qc : at_ (nrm p c) c = 1 := by rw [at_nrm]; grind
    have qz : ∀ j, j < c → at_ (nrm p c) j = 0 := fun j hj => by rw [at_nrm, I.z1 p hp j hj]; grind
    have sq : Span orig (at_ (nrm p c)) := by
      refine cast (congrArg _ (funext fun j => ?_)) ((I.s1 p hp).mul (1 / at_ p c))
      rw [at_nrm]; grind
    have scl : ∀ r : List Rat, r.length = n + 1 → Span orig (at_ r) → Span orig (at_ (clr r (nrm p c) c)) := fun r hr h => by
      refine cast (congrArg _ (funext fun j => ?_)) (h.plus (sq.mul (-(at_ r c))))
      rw [at_clr (by omega)]; grind
    refine ⟨fun r hr => ?_, fun q hq => ?_, fun r hr => ?_, fun q hq => ?_, fun x h1 h2 => ?_, fun r hr j hj => ?_, fun q hq => ?_, ?_, ?_⟩
    · obtain ⟨r', hr', rfl⟩ := List.mem_map.mp hr
      rw [clr_len (by rw [lq]; exact I.l1 r' (hme r' hr'))]; exact lq
    · rcases List.mem_append.mp hq with h | h
      · obtain ⟨q', hq', rfl⟩ := List.mem_map.mp h
        show (clr _ _ _).length = _
        rw [clr_len (by rw [lq]; exact I.l2 q' hq')]; exact lq
      · rw [List.mem_singleton.mp h]; exact lq
    · obtain ⟨r', hr', rfl⟩ := List.mem_map.mp hr
      exact scl r' (I.l1 r' (hme r' hr')) (I.s1 r' (hme r' hr'))
    · rcases List.mem_append.mp hq with h | h
      · obtain ⟨q', hq', rfl⟩ := List.mem_map.mp h
        exact scl q'.2 (I.l2 q' hq') (I.s2 q' hq')
      · rw [List.mem_singleton.mp h]; exact sq
    · have sqx : Sat n (nrm p c) x := h2 _ (List.mem_append.mpr (.inr (List.mem_singleton.mpr rfl)))
      have spx : Sat n p x := (sat_nrm hp0 x).mp sqx
      refine I.so x (fun r hr => ?_) (fun q hq => ?_)
      · by_cases e : r = p
        · rw [e]; exact spx
        · have hr' : r ∈ st.1.erase p := (List.mem_erase_of_ne e).mpr hr
          exact (sat_clr (by rw [lq]; exact I.l1 r hr) c x sqx).mp (h1 _ (List.mem_map.mpr ⟨r, hr', rfl⟩))
      · exact (sat_clr (by rw [lq]; exact I.l2 q hq) c x sqx).mp (h2 _ (List.mem_append.mpr (.inl (List.mem_map.mpr ⟨q, hq, rfl⟩))))
    · obtain ⟨r', hr', rfl⟩ := List.mem_map.mp hr
      have hr2 := hme r' hr'
      rw [at_clr (by rw [lq]; exact I.l1 r' hr2)]
      by_cases e : j = c
      · rw [e, qc]; grind
      · rw [I.z1 r' hr2 j (by omega), qz j (by omega)]; grind
    · rcases List.mem_append.mp hq with h | h
      · obtain ⟨q', hq', rfl⟩ := List.mem_map.mp h
        have := I.lt q' hq'
        show q'.1 < c + 1
        omega
      · rw [List.mem_singleton.mp h]; exact Nat.lt_succ_self c
    · refine List.pairwise_append.mpr ⟨?_, List.pairwise_singleton _ _, fun a ha b hb => ?_⟩
      · rw [List.pairwise_map]; exact I.pw
      · obtain ⟨q', hq', rfl⟩ := List.mem_map.mp ha
        rw [List.mem_singleton.mp hb]
        exact I.lt q' hq'
    · intro a ha b hb
      have old : ∀ q ∈ st.2, ∀ j, at_ (clr q.2 (nrm p c) c) j = at_ q.2 j - at_ q.2 c * at_ (nrm p c) j := fun q hq j => at_clr (by rw [lq]; exact I.l2 q hq) c j
      rcases List.mem_append.mp ha with ha | ha <;> rcases List.mem_append.mp hb with hb | hb
      · obtain ⟨a', ha', rfl⟩ := List.mem_map.mp ha
        obtain ⟨b', hb', rfl⟩ := List.mem_map.mp hb
        show at_ (clr a'.2 (nrm p c) c) b'.1 = if a'.1 = b'.1 then 1 else 0
        rw [old a' ha', qz b'.1 (I.lt b' hb'), I.pv a' ha' b' hb']
        grind
      · obtain ⟨a', ha', rfl⟩ := List.mem_map.mp ha
        rw [List.mem_singleton.mp hb]
        show at_ (clr a'.2 (nrm p c) c) c = if a'.1 = c then 1 else 0
        have := I.lt a' ha'
        rw [old a' ha', qc, if_neg (by omega)]
        grind
      · obtain ⟨b', hb', rfl⟩ := List.mem_map.mp hb
        rw [List.mem_singleton.mp ha]
        show at_ (nrm p c) b'.1 = if c = b'.1 then 1 else 0
        have := I.lt b' hb'
        rw [qz _ this, if_neg (by omega)]
      · rw [List.mem_singleton.mp ha, List.mem_singleton.mp hb]
        show at_ (nrm p c) c = if c = c then 1 else 0
        rw [qc, if_pos rfl]
theorem erun_inv {rows : List (List Rat)} {n : Nat} (h : ∀ r ∈ rows, r.length = n + 1) : ∀ c, c ≤ n → Inv rows n c ((List.range c).foldl estep (rows, []))
  | 0, _ => Inv.init h
  | c + 1, hc => by
    rw [List.range_succ, List.foldl_append]
    exact (erun_inv h c (by omega)).step (by omega)
/-- what is put into the solution -/
theorem put_at (n : Nat) : ∀ (es : List (Nat × List Rat)) (x : List Rat), x.length = n → (es.foldl (fun x r => x.set r.1 (at_ r.2 n)) x).length = n
  | [], x, h => h
  | e :: es, x, h => put_at n es _ (by rw [List.length_set]; exact h)
theorem put_other (n : Nat) : ∀ (es : List (Nat × List Rat)) (x : List Rat) (j : Nat), (∀ e ∈ es, e.1 ≠ j) → at_ (es.foldl (fun x r => x.set r.1 (at_ r.2 n)) x) j = at_ x j
  | [], x, j, h => rfl
  | e :: es, x, j, h => by
    rw [List.foldl_cons, put_other n es _ j fun e he => h e (List.mem_cons_of_mem _ he)]
    unfold at_
    rw [List.getD_eq_getElem?_getD, List.getElem?_set_ne (h e List.mem_cons_self), ← List.getD_eq_getElem?_getD]
theorem put_own (n : Nat) : ∀ (es : List (Nat × List Rat)) (x : List Rat), x.length = n → (es.Pairwise fun a b => a.1 < b.1) → ∀ e ∈ es, e.1 < n → at_ (es.foldl (fun x r => x.set r.1 (at_ r.2 n)) x) e.1 = at_ e.2 n
  | [], x, _, _, e, h, _ => nomatch h
  | e' :: es, x, hl, hp, e, h, he => by
    obtain ⟨h1, h2⟩ := List.pairwise_cons.mp hp
    rw [List.foldl_cons]
    rcases List.mem_cons.mp h with rfl | h
    · rw [put_other n es _ e.1 fun z hz => by have := h1 z hz; omega]
      show (List.set x e.1 (at_ e.2 n)).getD e.1 0 = _
      rw [List.getD_eq_getElem?_getD, List.getElem?_set_self (by omega)]; rfl
    · exact put_own n es _ (by rw [List.length_set]; exact hl) h2 e h he
theorem solve_len (rows : List (List Rat)) (n : Nat) : (solve rows n).length = n := put_at n _ _ (List.length_replicate ..)
/-- Fredholm: what no combination forbids is solved -/
theorem solve_ok {rows : List (List Rat)} {n : Nat} (h : ∀ r ∈ rows, r.length = n + 1) (hc : ∀ f, Span rows f → (∀ j, j < n → f j = 0) → f n = 0) : ∀ r ∈ rows, Sat n r (at_ (solve rows n)) := by
  have I := erun_inv h n (Nat.le_refl n)
  refine I.so _ (fun r hr => ?_) (fun p hp => ?_)
  · have z := I.z1 r hr
    unfold Sat
    rw [sm_zero fun j hj => by rw [z j hj]; grind, hc _ (I.s1 r hr) z]
  · have own : ∀ q ∈ elim rows n, at_ (solve rows n) q.1 = at_ q.2 n := fun q hq => put_own n (elim rows n) _ (List.length_replicate ..) I.pw q hq (I.lt q hq)
    have oth : ∀ j, (∀ e ∈ elim rows n, e.1 ≠ j) → at_ (solve rows n) j = 0 := fun j hj => by
      show at_ ((elim rows n).foldl _ _) j = 0
      rw [put_other n _ _ j hj]
      unfold at_
      rw [List.getD_eq_getElem?_getD, List.getElem?_replicate]
      split <;> rfl
    unfold Sat
    rw [sm_one p.1 (I.lt p hp) fun j hj hne => ?_]
    · rw [I.pv p hp p hp, if_pos rfl, own p hp]; grind
    · by_cases hx : ∃ q ∈ elim rows n, q.1 = j
      · obtain ⟨q, hq, rfl⟩ := hx
        rw [I.pv p hp q hq, if_neg (fun z => hne z.symm)]; grind
      · rw [oth j fun e he hz => hx ⟨e, he, hz⟩]; grind
end LA
set_option Elab.async false
set_option linter.all false
set_option maxRecDepth 100000
set_option maxHeartbeats 4000000
/-! E2: elimination on data; sizes -/
namespace LW
open PySem DL LA
/-! ### sizes -/
theorem Bq.ex {d m : Nat} {q : Rat} (h : Bq d m q) : ∃ z : Int, q = (z : Rat) / (d : Rat) ∧ z.natAbs ≤ m := by
  obtain ⟨z, e, hz⟩ := h
  exact ⟨z, by rw [e, Rat.divInt_eq_div]; rfl, hz⟩
theorem Bq.mk' {d m : Nat} {q : Rat} {z : Int} (e : q = (z : Rat) / (d : Rat)) (hz : z.natAbs ≤ m) : Bq d m q := ⟨z, by rw [e, Rat.divInt_eq_div]; rfl, hz⟩
theorem cast_ne {d : Nat} (h : d ≠ 0) : (d : Rat) ≠ 0 := fun z => h (by simpa using z)
theorem icast_ne {d : Int} (h : d ≠ 0) : (d : Rat) ≠ 0 := fun z => h (by simpa using z)
/-- a row: coefficients z/d with |z| at most m, the right side z/(d e) with |z| at most r -/
structure BR (n d e m r : Nat) (row : List Rat) : Prop where
  co : ∀ j, j < n → Bq d m (at_ row j)
  rs : Bq (d * e) r (at_ row n)
theorem BR.le {n d e m r m' r' : Nat} {row : List Rat} (h : BR n d e m r row) (hm : m ≤ m') (hr : r ≤ r') : BR n d e m' r' row := ⟨fun j hj => (h.co j hj).le hm, h.rs.le hr⟩
theorem natAbs_sub2 (a b c d : Int) {m r : Nat} (h1 : a.natAbs ≤ r) (h2 : b.natAbs ≤ m) (h3 : c.natAbs ≤ m) (h4 : d.natAbs ≤ r) : (a * b - c * d).natAbs ≤ 2 * m * r := by
  have h5 : (a * b).natAbs ≤ r * m := by rw [Int.natAbs_mul]; exact Nat.mul_le_mul h1 h2
  have h6 : (c * d).natAbs ≤ m * r := by rw [Int.natAbs_mul]; exact Nat.mul_le_mul h3 h4
  have h7 : r * m = m * r := Nat.mul_comm r m
  have h8 : 2 * m * r = m * r + m * r := by rw [Nat.mul_assoc]; omega
  omega
theorem fid1 (Q P d s : Rat) (d0 : d ≠ 0) (P0 : P ≠ 0) (s0 : s ≠ 0) : Q / d / (P / d) = s * (Q * d) / (d * (s * P)) := by grind
theorem fid2 (Q P d s e : Rat) (d0 : d ≠ 0) (P0 : P ≠ 0) (s0 : s ≠ 0) (e0 : e ≠ 0) : Q / (d * e) / (P / d) = s * (Q * d) / (d * (s * P) * e) := by grind
theorem fid3 (Q P U V d s : Rat) (d0 : d ≠ 0) (P0 : P ≠ 0) (s0 : s ≠ 0) : U / d - V / d * (Q / d / (P / d)) = s * (U * P - V * Q) / (d * (s * P)) := by grind
theorem fid4 (Q P U V d s e : Rat) (d0 : d ≠ 0) (P0 : P ≠ 0) (s0 : s ≠ 0) (e0 : e ≠ 0) : U / (d * e) - V / d * (Q / (d * e) / (P / d)) = s * (U * P - V * Q) / (d * (s * P) * e) := by grind
theorem BR.pivot {n d e m r c : Nat} {p : List Rat} (h : BR n d e m r p) (hd : d ≠ 0) (he : e ≠ 0) (hc : c < n) (h0 : at_ p c ≠ 0) : ∃ k : Nat, k ≠ 0 ∧ k ≤ m ∧ BR n (d * k) e (m * d) (r * d) (nrm p c) ∧
    ∀ row : List Rat, row.length = p.length → BR n d e m r row → BR n (d * k) e (2 * m * m) (2 * m * r) (clr row (nrm p c) c) := by
  obtain ⟨P, eP, hP⟩ := (h.co c hc).ex
  have hP0 : P ≠ 0 := fun z => h0 (by rw [eP, z]; grind)
  have d0 := cast_ne hd
  have e0 := cast_ne he
  have P0 := icast_ne hP0
  obtain ⟨s, hs1, hs2⟩ : ∃ s : Int, s.natAbs = 1 ∧ ((P.natAbs : Nat) : Int) = s * P := by
    rcases Int.lt_or_gt_of_ne hP0 with hn | hn
    · exact ⟨-1, rfl, by omega⟩
    · exact ⟨1, rfl, by omega⟩
  have ss : (s : Rat) * (s : Rat) = 1 := by
    have : s = 1 ∨ s = -1 := by omega
    rcases this with rfl | rfl <;> simp <;> grind
  have s0 : (s : Rat) ≠ 0 := fun z => by rw [z] at ss; grind
  have k0 : P.natAbs ≠ 0 := by omega
  have kc : ((P.natAbs : Nat) : Rat) = (s : Rat) * (P : Rat) := by
    have := congrArg (fun z : Int => (z : Rat)) hs2
    rw [Rat.intCast_mul] at this
    exact this
  have am : ∀ (z : Int) {b : Nat}, z.natAbs ≤ b → (s * z).natAbs ≤ b := fun z b hz => by rw [Int.natAbs_mul, hs1, Nat.one_mul]; exact hz
  refine ⟨P.natAbs, k0, hP, ⟨fun j hj => ?_, ?_⟩, fun row hl hr => ⟨fun j hj => ?_, ?_⟩⟩
  · obtain ⟨Q, eQ, hQ⟩ := (h.co j hj).ex
    refine Bq.mk' (z := s * (Q * d)) ?_ (am _ (by rw [Int.natAbs_mul, Int.natAbs_natCast]; exact Nat.mul_le_mul_right d hQ))
    rw [at_nrm, eQ, eP, Rat.natCast_mul, kc, Rat.intCast_mul, Rat.intCast_mul, Rat.intCast_natCast]
    exact fid1 _ _ _ _ d0 P0 s0
  · obtain ⟨Q, eQ, hQ⟩ := h.rs.ex
    refine Bq.mk' (z := s * (Q * d)) ?_ (am _ (by rw [Int.natAbs_mul, Int.natAbs_natCast]; exact Nat.mul_le_mul_right d hQ))
    rw [at_nrm, eQ, eP, Rat.natCast_mul, Rat.natCast_mul, Rat.natCast_mul, kc, Rat.intCast_mul, Rat.intCast_mul, Rat.intCast_natCast]
    exact fid2 _ _ _ _ _ d0 P0 s0 e0
  · obtain ⟨Q, eQ, hQ⟩ := (h.co j hj).ex
    obtain ⟨U, eU, hU⟩ := (hr.co j hj).ex
    obtain ⟨V, eV, hV⟩ := (hr.co c hc).ex
    refine Bq.mk' (z := s * (U * P - V * Q)) ?_ (am _ (natAbs_sub2 U P V Q hU hP hV hQ))
    rw [at_clr (by rw [nrm_len]; exact hl), at_nrm, eQ, eP, eU, eV, Rat.natCast_mul, kc, Rat.intCast_mul, Rat.intCast_sub, Rat.intCast_mul, Rat.intCast_mul]
    exact fid3 _ _ _ _ _ _ d0 P0 s0
  · obtain ⟨Q, eQ, hQ⟩ := h.rs.ex
    obtain ⟨U, eU, hU⟩ := hr.rs.ex
    obtain ⟨V, eV, hV⟩ := (hr.co c hc).ex
    refine Bq.mk' (z := s * (U * P - V * Q)) ?_ (am _ (natAbs_sub2 U P V Q hU hP hV hQ))
    rw [at_clr (by rw [nrm_len]; exact hl), at_nrm, eQ, eP, eU, eV, Rat.natCast_mul, Rat.natCast_mul, Rat.natCast_mul, kc, Rat.intCast_mul, Rat.intCast_sub, Rat.intCast_mul, Rat.intCast_mul]
    exact fid4 _ _ _ _ _ _ _ d0 P0 s0 e0
/-- bits of coefficients and right sides behind k pivots -/
def szA (a : Nat) : Nat → Nat
  | 0 => a
  | k + 1 => 2 * szA a k + 1
def szB (a b : Nat) : Nat → Nat
  | 0 => b
  | k + 1 => szA a k + szB a b k + 1
structure SzI (n a b e : Nat) (st : Es) : Prop where
  ex : ∃ d : Nat, d ≠ 0 ∧ d ≤ 2 ^ szA a st.2.length ∧ (∀ r ∈ st.1, BR n d e (2 ^ szA a st.2.length) (2 ^ szB a b st.2.length) r) ∧ ∀ p ∈ st.2, BR n d e (2 ^ szA a st.2.length) (2 ^ szB a b st.2.length) p.2
theorem pow_le {a b : Nat} (h : a ≤ b) : 2 ^ a ≤ 2 ^ b := Nat.pow_le_pow_right (by decide) h
theorem SzI.step {orig : List (List Rat)} {n c a b e : Nat} {st : Es} (he : e ≠ 0) (hc : c < n) (I : Inv orig n c st) (S : SzI n a b e st) : SzI n a b e (estep st c) := by
  unfold estep
  cases hf : st.1.find? (fun r => decide (at_ r c ≠ 0)) with
  | none => exact S
  | some p =>
    have hp : p ∈ st.1 := List.mem_of_find?_eq_some hf
    have hp0 : at_ p c ≠ 0 := by have := List.find?_some hf; simpa using this
    obtain ⟨d, d0, dl, S1, S2⟩ := S.ex
    obtain ⟨k, k0, kl, B1, B2⟩ := (S1 p hp).pivot d0 he hc hp0
    have el : (((st.2.map fun x => (x.1, clr x.2 (nrm p c) c)) ++ [(c, nrm p c)]) : List (Nat × List Rat)).length = st.2.length + 1 := by simp
    refine ⟨d * k, Nat.mul_ne_zero d0 k0, ?_, ?_, ?_⟩
    · show d * k ≤ 2 ^ szA a (List.length _)
      rw [el]
      have h1 : d * k ≤ 2 ^ szA a st.2.length * 2 ^ szA a st.2.length := Nat.mul_le_mul dl kl
      rw [← Nat.pow_add] at h1
      exact Nat.le_trans h1 (pow_le (by simp only [szA]; omega))
    · intro r hr
      show BR n (d * k) e (2 ^ szA a (List.length _)) (2 ^ szB a b (List.length _)) r
      rw [el]
      obtain ⟨r', hr', rfl⟩ := List.mem_map.mp hr
      have hm := List.mem_of_mem_erase hr'
      refine (B2 r' (by rw [I.l1 r' hm, I.l1 p hp]) (S1 r' hm)).le ?_ ?_
      · simp only [szA]
        rw [show 2 * szA a st.2.length + 1 = 1 + szA a st.2.length + szA a st.2.length by omega, Nat.pow_add, Nat.pow_add]
        exact Nat.le_refl _
      · simp only [szB]
        rw [show szA a st.2.length + szB a b st.2.length + 1 = 1 + szA a st.2.length + szB a b st.2.length by omega, Nat.pow_add, Nat.pow_add]
        exact Nat.le_refl _
    · intro q hq
      show BR n (d * k) e (2 ^ szA a (List.length _)) (2 ^ szB a b (List.length _)) q.2
      rw [el]
      rcases List.mem_append.mp hq with h | h
      · obtain ⟨q', hq', rfl⟩ := List.mem_map.mp h
        refine (B2 q'.2 (by rw [I.l2 q' hq', I.l1 p hp]) (S2 q' hq')).le ?_ ?_
        · simp only [szA]
          rw [show 2 * szA a st.2.length + 1 = 1 + szA a st.2.length + szA a st.2.length by omega, Nat.pow_add, Nat.pow_add]
          exact Nat.le_refl _
        · simp only [szB]
          rw [show szA a st.2.length + szB a b st.2.length + 1 = 1 + szA a st.2.length + szB a b st.2.length by omega, Nat.pow_add, Nat.pow_add]
          exact Nat.le_refl _
      · rw [List.mem_singleton.mp h]
        refine B1.le ?_ ?_
        · have h1 : 2 ^ szA a st.2.length * d ≤ 2 ^ szA a st.2.length * 2 ^ szA a st.2.length := Nat.mul_le_mul_left _ dl
          rw [← Nat.pow_add] at h1
          exact Nat.le_trans h1 (pow_le (by simp only [szA]; omega))
        · have h1 : 2 ^ szB a b st.2.length * d ≤ 2 ^ szB a b st.2.length * 2 ^ szA a st.2.length := Nat.mul_le_mul_left _ dl
          rw [← Nat.pow_add] at h1
          exact Nat.le_trans h1 (pow_le (by simp only [szB]; omega))
/-- what the operations want -/
def SzOk (a b e : Nat) (k : Nat) : Prop := 3 * szA a k + e + 3 < 4000 ∧ 2 * szA a k + szB a b k + e + 3 < 4000
theorem sm_of {d m x y : Nat} {q : Rat} (h : Bq d m q) (d0 : d ≠ 0) (hd : d ≤ 2 ^ x) (hm : m ≤ 2 ^ y) (hx : x < 4000) (hy : y < 4000) : Sm 4000 q :=
  h.sm d0 (Nat.lt_of_le_of_lt hd (Nat.pow_lt_pow_right (by decide) hx)) (Nat.lt_of_le_of_lt hm (Nat.pow_lt_pow_right (by decide) hy))
/-- what one step wants: p the pivot's row -/
structure StepOk (n c : Nat) (p : List Rat) (rows : List (List Rat)) : Prop where
  piv : ∀ j, j < n + 1 → Sm 4000 (at_ p j)
  nor : ∀ j, j < n + 1 → Sm 4000 (at_ (nrm p c) j)
  row : ∀ r ∈ rows, ∀ j, j < n + 1 → Sm 4000 (at_ r j) ∧ Sm 4000 (at_ r c * at_ (nrm p c) j)
theorem mul_pow {x y a b : Nat} (h1 : x ≤ 2 ^ a) (h2 : y ≤ 2 ^ b) : x * y ≤ 2 ^ (a + b) := by rw [Nat.pow_add]; exact Nat.mul_le_mul h1 h2
theorem SzI.ok {orig : List (List Rat)} {n c a b e E : Nat} {st : Es} {p : List Rat} (he : e ≠ 0) (hE : e ≤ 2 ^ E) (hc : c < n) (S : SzI n a b e st) (hp : p ∈ st.1) (hp0 : at_ p c ≠ 0) (hk : SzOk a b E st.2.length) : StepOk n c p (st.1 ++ st.2.map (·.2)) := by
  obtain ⟨d, d0, dl, S1, S2⟩ := S.ex
  obtain ⟨k, k0, kl, B1, B2⟩ := (S1 p hp).pivot d0 he hc hp0
  obtain ⟨h1, h2⟩ := hk
  generalize szA a st.2.length = A at *
  generalize szB a b st.2.length = B at *
  have all : ∀ r, BR n d e (2 ^ A) (2 ^ B) r → ∀ j, j < n + 1 → Sm 4000 (at_ r j) := fun r hr j hj => by
    by_cases e1 : j = n
    · subst e1
      exact sm_of hr.rs (Nat.mul_ne_zero d0 he) (mul_pow dl hE) (Nat.le_refl _) (by omega) (by omega)
    · exact sm_of (hr.co j (by omega)) d0 dl (Nat.le_refl _) (by omega) (by omega)
  have dk0 := Nat.mul_ne_zero d0 k0
  have dkl := mul_pow dl kl
  have Br : ∀ r ∈ st.1 ++ st.2.map (·.2), BR n d e (2 ^ A) (2 ^ B) r := fun r hr => by
    rcases List.mem_append.mp hr with h | h
    · exact S1 r h
    · obtain ⟨q, hq, rfl⟩ := List.mem_map.mp h
      exact S2 q hq
  refine ⟨all p (S1 p hp), fun j hj => ?_, fun r hr j hj => ⟨all r (Br r hr) j hj, ?_⟩⟩
  · by_cases e1 : j = n
    · subst e1
      exact sm_of B1.rs (Nat.mul_ne_zero dk0 he) (mul_pow dkl hE) (mul_pow (Nat.le_refl _) dl) (by omega) (by omega)
    · exact sm_of (B1.co j (by omega)) dk0 dkl (mul_pow (Nat.le_refl _) dl) (by omega) (by omega)
  · have hrc := (Br r hr).co c hc
    by_cases e1 : j = n
    · subst e1
      exact sm_of (hrc.mul B1.rs) (Nat.mul_ne_zero d0 (Nat.mul_ne_zero dk0 he)) (mul_pow dl (mul_pow dkl hE)) (mul_pow (Nat.le_refl _) (mul_pow (Nat.le_refl _) dl)) (by omega) (by omega)
    · exact sm_of (hrc.mul (B1.co j (by omega))) (Nat.mul_ne_zero d0 dk0) (mul_pow dl dkl) (mul_pow (Nat.le_refl _) (mul_pow (Nat.le_refl _) dl)) (by omega) (by omega)

/-! ### on data -/
def encR (r : List Rat) : D := .list (r.map encQ)
def encP (p : Nat × List Rat) : D := .tuple [.int (p.1 : Nat), encR p.2]
theorem encR_pl (r : List Rat) : Pl 2 (encR r) := plLst (plMap encQ_pl r)
theorem encR_eqv (a b : List Rat) : PyData.eqv (encR a) (encR b) = decide (a = b) := by
  unfold encR
  rw [PyData.eqv, eqvAll_map encQ_eqv]
theorem at_get {r : List Rat} {j : Nat} (h : j < r.length) : r[j]? = some (at_ r j) := by
  unfold at_
  rw [List.getD_eq_getElem?_getD, List.getElem?_eq_getElem h]; rfl
theorem encR_ix {r : List Rat} {j : Nat} (h : j < r.length) : ixD (encR r) (.int (j : Nat)) = some (encQ (at_ r j)) := by
  show L2.atI (r.map encQ) (j : Int) = _
  rw [atI_map, atI_nat (at_get h)]; rfl
theorem mem_at {r : List Rat} {x : Rat} (h : x ∈ r) : ∃ j, j < r.length ∧ x = at_ r j := by
  obtain ⟨j, hj, e⟩ := List.getElem_of_mem h
  refine ⟨j, hj, ?_⟩
  have := at_get hj
  rw [List.getElem?_eq_getElem hj] at this
  rw [← e]; exact Option.some.inj this
theorem zip_at {r p : List Rat} {x : Rat × Rat} (hl : r.length = p.length) (h : x ∈ r.zip p) : ∃ j, j < r.length ∧ x.1 = at_ r j ∧ x.2 = at_ p j := by
  obtain ⟨j, hj, e⟩ := List.getElem_of_mem h
  have hj' : j < r.length := by rw [List.length_zip] at hj; omega
  refine ⟨j, hj', ?_⟩
  have h1 := at_get hj'
  have h2 := at_get (r := p) (j := j) (by omega)
  rw [List.getElem?_eq_getElem hj'] at h1
  rw [List.getElem?_eq_getElem (by omega)] at h2
  rw [List.getElem_zip] at e
  rw [← e]
  exact ⟨Option.some.inj h1, Option.some.inj h2⟩
theorem cleared_ok {n c : Nat} {row piv : List Rat} (hc : c < n + 1) (l1 : row.length = n + 1) (l2 : piv.length = n + 1) (hn : n < 1000) (hr : ∀ j, j < n + 1 → Sm 4000 (at_ row j) ∧ Sm 4000 (at_ row c * at_ piv j)) (hp : ∀ j, j < n + 1 → Sm 4000 (at_ piv j)) :
    f_cleared [encR row, encR piv, .int (c : Nat)] = ok (encR (clr row piv c)) := by
  have e1 : ∀ τ : Ta, τ = [.d (encR row), .d (encR piv), .d (.int (c : Nat)), .d (encQ (at_ row c)), .u, .u] → lcD (gT (gs1 (gN 4) (gs1 (gN 5) gs0))) fYes e_cleared_1 τ (zipD (row.map encQ) (piv.map encQ)) = some ((clr row piv c).map encQ) := by
    intro τ hτ
    subst hτ
    rw [zipD_map, show (clr row piv c).map encQ = (row.zip piv).map (fun p => encQ (p.1 - at_ row c * p.2)) by unfold clr; rw [List.zip, List.map_zipWith, List.map_zipWith]]
    refine lcD_all (f := fun p : Rat × Rat => PyData.tuple [encQ p.1, encQ p.2]) (row.zip piv) fun x hx => ⟨_, rfl, ?_⟩
    obtain ⟨j, hj, ex, ey⟩ := zip_at (by omega) hx
    rw [ex, ey]
    have h1 := hr j (by omega)
    have h2 := hr c hc
    unfold e_cleared_1
    simp [runDef, initT, gSeq, gNil, gRet, gRetN, gSet, gSetO, gEx, gIf, gPar, gAsg, gFrz, frzT, gRaise, fCl, fCons, fNil, fB, fU, fN, fV, fC, fTr, fNo, fAnd, fOr, vAnd, vOr, fNoV, fIf, fTup, fLst, fFr, fCh, lft, truD, bnd, bndS, gN, gT, gs0, gs1, isiD, tyD, lenDs, absDs, minDs, maxDs, tupDs, addD, subD, negD, ltD, leD, gtD, geD, isN, notN, ixO, fOix, fOln, gApp, putO, gPut, seqD, fSq, fLs, optD, fSl, slD, ixD, atI_c0, atI_c1, atI_c2, atI_map, modD_ok, lenDs, fRg1, fRg2, multiply_ok h2.1 (hp j (by omega)), subtract_ok h1.1 h1.2]
  have hl : (zipD (row.map encQ) (piv.map encQ)).length ≤ 100000 := by
    unfold zipD
    rw [List.length_zipWith, List.length_map, List.length_map]
    omega
  have hx := encR_ix (r := row) (j := c) (by omega)
  have e2 := e1 _ rfl
  unfold encR at *
  unfold f_cleared g_cleared
  simp only [ixD] at hx
  simp [runDef, initT, gSeq, gNil, gRet, gRetN, gSet, gSetO, gEx, gIf, gPar, gAsg, gFrz, frzT, gRaise, fCl, fCons, fNil, fB, fU, fN, fV, fC, fTr, fNo, fAnd, fOr, vAnd, vOr, fNoV, fIf, fTup, fLst, fFr, fCh, lft, truD, bnd, bndS, gN, gT, gs0, gs1, isiD, tyD, lenDs, absDs, minDs, maxDs, tupDs, addD, subD, negD, ltD, leD, gtD, geD, isN, notN, ixO, fOix, fOln, gApp, putO, gPut, seqD, fSq, fLs, optD, fSl, slD, ixD, atI_c0, atI_c1, atI_c2, atI_map, modD_ok, lenDs, fRg1, fRg2, hx, fZp, fLc, hl, wipeT, e2]
theorem remJ_erase {p : List Rat} : ∀ {rows : List (List Rat)}, p ∈ rows → ∃ j, remJ (encR p) (rows.map encR) = some j ∧ (rows.map encR).eraseIdx j = (rows.erase p).map encR
  | [], h => nomatch h
  | r :: rows, h => by
    by_cases e : r = p
    · subst e
      refine ⟨0, ?_, ?_⟩
      · simp [remJ, encR_eqv]
      · simp
    · have h' : p ∈ rows := (List.mem_cons.mp h).resolve_left fun z => e z.symm
      obtain ⟨j, e1, e2⟩ := remJ_erase h'
      refine ⟨j + 1, ?_, ?_⟩
      · simp [remJ, encR_eqv, e, e1]
      · rw [List.erase_cons_tail (by simpa using e)]
        simp [e2]
theorem kZERO : k_ZERO = encQ 0 := rfl
theorem kONE : k_ONE = encQ 1 := rfl
theorem elim_step {n c : Nat} {orig : List (List Rat)} {st : Es} (hc : c < n) (hn : n < 1000) (I : Inv orig n c st) (hlen : st.1.length < 1000) (hl2 : st.2.length < 1000) (hs : ∀ p ∈ st.1, at_ p c ≠ 0 → StepOk n c p (st.1 ++ st.2.map (·.2))) (v4 v5 v6 v7 v8 : SV) :
    ∃ v4' v5' v6' v7' v8' : SV, b_eliminate_1 [.o (st.1.map encR), .d (.int (n : Nat)), .d (.list (st.2.map encP)), .d (.int (c : Nat)), v4, v5, v6, v7, v8] = some (.nx [.o ((estep st c).1.map encR), .d (.int (n : Nat)), .d (.list ((estep st c).2.map encP)), .d (.int (c : Nat)), v4', v5', v6', v7', v8']) := by
  have e1 : ∀ τ : Ta, τ = [.o (st.1.map encR), .d (.int (n : Nat)), .d (.list (st.2.map encP)), .d (.int (c : Nat)), v4, v5, .u, v7, v8] → lcD (gN 6) t_eliminate_2 e_eliminate_2 τ (st.1.map encR) = some ((st.1.filter fun r => decide (at_ r c ≠ 0)).map encR) := by
    intro τ hτ
    subst hτ
    refine lcD_eq (f := encR) st.1 fun r hr => ⟨_, rfl, ?_, fun _ => ?_⟩
    · have hx := encR_ix (r := r) (j := c) (by rw [I.l1 r hr]; omega)
      unfold t_eliminate_2
      simp only [ixD, encR] at hx
      simp [runDef, initT, gSeq, gNil, gRet, gRetN, gSet, gSetO, gEx, gIf, gPar, gAsg, gFrz, frzT, gRaise, fCl, fCons, fNil, fB, fU, fN, fV, fC, fTr, fNo, fAnd, fOr, vAnd, vOr, fNoV, fIf, fTup, fLst, fFr, fCh, lft, truD, bnd, bndS, gN, gT, gs0, gs1, isiD, tyD, lenDs, absDs, minDs, maxDs, tupDs, addD, subD, negD, ltD, leD, gtD, geD, isN, notN, ixO, fOix, fOln, gApp, putO, gPut, seqD, fSq, fLs, optD, fSl, slD, ixD, atI_c0, atI_c1, atI_c2, atI_map, modD_ok, lenDs, fRg1, fRg2, encR, hx, kZERO, neD_of (encQ_pl _) (encQ_pl _), encQ_eqv]
    · unfold e_eliminate_2
      simp [runDef, initT, gSeq, gNil, gRet, gRetN, gSet, gSetO, gEx, gIf, gPar, gAsg, gFrz, frzT, gRaise, fCl, fCons, fNil, fB, fU, fN, fV, fC, fTr, fNo, fAnd, fOr, vAnd, vOr, fNoV, fIf, fTup, fLst, fFr, fCh, lft, truD, bnd, bndS, gN, gT, gs0, gs1, isiD, tyD, lenDs, absDs, minDs, maxDs, tupDs, addD, subD, negD, ltD, leD, gtD, geD, isN, notN, ixO, fOix, fOln, gApp, putO, gPut, seqD, fSq, fLs, optD, fSl, slD, ixD, atI_c0, atI_c1, atI_c2, atI_map, modD_ok, lenDs, fRg1, fRg2]
  have e1' := e1 _ rfl
  unfold estep
  rw [← List.head?_filter]
  cases hf : st.1.filter (fun r => decide (at_ r c ≠ 0)) with
  | nil =>
    rw [hf] at e1'
    refine ⟨.d (.list []), v5, v6, v7, v8, ?_⟩
    unfold b_eliminate_1
    simp [runDef, initT, gSeq, gNil, gRet, gRetN, gSet, gSetO, gEx, gIf, gPar, gAsg, gFrz, frzT, gRaise, fCl, fCons, fNil, fB, fU, fN, fV, fC, fTr, fNo, fAnd, fOr, vAnd, vOr, fNoV, fIf, fTup, fLst, fFr, fCh, lft, truD, bnd, bndS, gN, gT, gs0, gs1, isiD, tyD, lenDs, absDs, minDs, maxDs, tupDs, addD, subD, negD, ltD, leD, gtD, geD, isN, notN, ixO, fOix, fOln, gApp, putO, gPut, seqD, fSq, fLs, optD, fSl, slD, ixD, atI_c0, atI_c1, atI_c2, atI_map, modD_ok, lenDs, fRg1, fRg2, fOw, fLc, show st.1.length ≤ 100000 by omega, wipeT, e1']
  | cons p rest =>
    rw [hf] at e1'
    have hp : p ∈ st.1 := by
      have : p ∈ st.1.filter (fun r => decide (at_ r c ≠ 0)) := by rw [hf]; exact List.mem_cons_self
      exact (List.mem_filter.mp this).1
    have hp0 : at_ p c ≠ 0 := by
      have : p ∈ st.1.filter (fun r => decide (at_ r c ≠ 0)) := by rw [hf]; exact List.mem_cons_self
      simpa using (List.mem_filter.mp this).2
    have S := hs p hp hp0
    have lp := I.l1 p hp
    have lq : (nrm p c).length = n + 1 := by rw [nrm_len]; exact lp
    obtain ⟨j, ej, er⟩ := remJ_erase hp
    have hsh1 : SeqAt.shaped (encR p) = true := (encR_pl p).sh
    have hsh2 : SeqAt.shaped (.list (st.1.map encR)) = true := (plLst (plMap encR_pl st.1)).sh
    have hxp := encR_ix (r := p) (j := c) (by omega)
    have e2 : ∀ τ : Ta, (∃ a b d e w, τ = [a, b, d, .d (.int (c : Nat)), e, .d (encR p), w, .u, v8]) → lcD (gN 7) fYes e_eliminate_4 τ (p.map encQ) = some ((nrm p c).map encQ) := by
      rintro τ ⟨a, b, d, e, w, rfl⟩
      rw [show (nrm p c).map encQ = p.map (fun z => encQ (z / at_ p c)) by unfold nrm; rw [List.map_map]; rfl]
      refine lcD_all (f := encQ) p fun z hz => ⟨_, rfl, ?_⟩
      obtain ⟨i, hi, rfl⟩ := mem_at hz
      unfold e_eliminate_4
      simp only [ixD, encR] at hxp
      simp [runDef, initT, gSeq, gNil, gRet, gRetN, gSet, gSetO, gEx, gIf, gPar, gAsg, gFrz, frzT, gRaise, fCl, fCons, fNil, fB, fU, fN, fV, fC, fTr, fNo, fAnd, fOr, vAnd, vOr, fNoV, fIf, fTup, fLst, fFr, fCh, lft, truD, bnd, bndS, gN, gT, gs0, gs1, isiD, tyD, lenDs, absDs, minDs, maxDs, tupDs, addD, subD, negD, ltD, leD, gtD, geD, isN, notN, ixO, fOix, fOln, gApp, putO, gPut, seqD, fSq, fLs, optD, fSl, slD, ixD, atI_c0, atI_c1, atI_c2, atI_map, modD_ok, lenDs, fRg1, fRg2, encR, hxp, divide_ok (S.piv i (by omega)) (S.piv c (by omega)) hp0]
    have me : ∀ r ∈ st.1.erase p, r ∈ st.1 := fun r hr => List.mem_of_mem_erase hr
    have e3 : ∀ τ : Ta, (∃ a b d e w x, τ = [a, b, d, .d (.int (c : Nat)), e, .d (encR (nrm p c)), .u, w, x]) → lcD (gN 6) fYes e_eliminate_5 τ ((st.1.erase p).map encR) = some (((st.1.erase p).map fun r => clr r (nrm p c) c).map encR) := by
      rintro τ ⟨a, b, d, e, w, x, rfl⟩
      rw [List.map_map]
      refine lcD_all (f := encR) (st.1.erase p) fun r hr => ⟨_, rfl, ?_⟩
      have hr' := me r hr
      unfold e_eliminate_5
      have := cleared_ok (n := n) (c := c) (row := r) (piv := nrm p c) (by omega) (I.l1 r hr') lq hn (S.row r (List.mem_append.mpr (.inl hr'))) S.nor
      simp [runDef, initT, gSeq, gNil, gRet, gRetN, gSet, gSetO, gEx, gIf, gPar, gAsg, gFrz, frzT, gRaise, fCl, fCons, fNil, fB, fU, fN, fV, fC, fTr, fNo, fAnd, fOr, vAnd, vOr, fNoV, fIf, fTup, fLst, fFr, fCh, lft, truD, bnd, bndS, gN, gT, gs0, gs1, isiD, tyD, lenDs, absDs, minDs, maxDs, tupDs, addD, subD, negD, ltD, leD, gtD, geD, isN, notN, ixO, fOix, fOln, gApp, putO, gPut, seqD, fSq, fLs, optD, fSl, slD, ixD, atI_c0, atI_c1, atI_c2, atI_map, modD_ok, lenDs, fRg1, fRg2, this]
    have e4 : ∀ τ : Ta, (∃ a b d e w, τ = [a, b, d, .d (.int (c : Nat)), e, .d (encR (nrm p c)), .u, w, .u]) → lcD (gT (gs1 (gN 8) (gs1 (gN 6) gs0))) fYes e_eliminate_7 τ (st.2.map encP) = some ((st.2.map fun x => (x.1, clr x.2 (nrm p c) c)).map encP) := by
      rintro τ ⟨a, b, d, e, w, rfl⟩
      rw [List.map_map]
      refine lcD_all (f := encP) st.2 fun q hq => ⟨_, rfl, ?_⟩
      have := cleared_ok (n := n) (c := c) (row := q.2) (piv := nrm p c) (by omega) (I.l2 q hq) lq hn (S.row q.2 (List.mem_append.mpr (.inr (List.mem_map.mpr ⟨q, hq, rfl⟩)))) S.nor
      unfold e_eliminate_7
      simp [runDef, initT, gSeq, gNil, gRet, gRetN, gSet, gSetO, gEx, gIf, gPar, gAsg, gFrz, frzT, gRaise, fCl, fCons, fNil, fB, fU, fN, fV, fC, fTr, fNo, fAnd, fOr, vAnd, vOr, fNoV, fIf, fTup, fLst, fFr, fCh, lft, truD, bnd, bndS, gN, gT, gs0, gs1, isiD, tyD, lenDs, absDs, minDs, maxDs, tupDs, addD, subD, negD, ltD, leD, gtD, geD, isN, notN, ixO, fOix, fOln, gApp, putO, gPut, seqD, fSq, fLs, optD, fSl, slD, ixD, atI_c0, atI_c1, atI_c2, atI_map, modD_ok, lenDs, fRg1, fRg2, this, encP]
    have le1 : (st.1.erase p).length ≤ 100000 := by
      have := List.length_erase_le (a := p) (l := st.1)
      omega
    refine ⟨.d (.list ((p :: rest).map encR)), .d (encR (nrm p c)), v6, v7, v8, ?_⟩
    unfold b_eliminate_1
    simp only [encR, encP, List.map_cons] at *
    simp [runDef, initT, gSeq, gNil, gRet, gRetN, gSet, gSetO, gEx, gIf, gPar, gAsg, gFrz, frzT, gRaise, fCl, fCons, fNil, fB, fU, fN, fV, fC, fTr, fNo, fAnd, fOr, vAnd, vOr, fNoV, fIf, fTup, fLst, fFr, fCh, lft, truD, bnd, bndS, gN, gT, gs0, gs1, isiD, tyD, lenDs, absDs, minDs, maxDs, tupDs, addD, subD, negD, ltD, leD, gtD, geD, isN, notN, ixO, fOix, fOln, gApp, putO, gPut, seqD, fSq, fLs, optD, fSl, slD, ixD, atI_c0, atI_c1, atI_c2, atI_map, modD_ok, lenDs, fRg1, fRg2, fOw, fLc, show st.1.length ≤ 100000 by omega, wipeT, e1', gRem, hsh1, hsh2, ej, er, e2, e3, e4, le1, show p.length ≤ 100000 by omega, show st.2.length ≤ 100000 by omega, show st.2.length ≤ 99999 by omega, encR]
    rfl

/-- a loop as a fold -/
theorem forD_fold {α β : Type} {g : D → Ta → Option Ta} {body : Ta → Option Out} (f : α → D) (step : β → α → β) (T : β → Ta → Prop) : ∀ (xs : List α) (b : β) (τ : Ta), T b τ →
    (∀ x ∈ xs, ∀ b τ, T b τ → ∃ τ1 τ2, g (f x) τ = some τ1 ∧ body τ1 = some (.nx τ2) ∧ T (step b x) τ2) → ∃ τ', forD g body (xs.map f) τ = some (.nx τ') ∧ T (xs.foldl step b) τ'
  | [], b, τ, h, _ => ⟨τ, rfl, h⟩
  | x :: xs, b, τ, h, hs => by
    obtain ⟨τ1, τ2, e1, e2, h2⟩ := hs x List.mem_cons_self b τ h
    obtain ⟨τ', e3, h3⟩ := forD_fold f step T xs (step b x) τ2 h2 fun y hy => hs y (List.mem_cons_of_mem _ hy)
    refine ⟨τ', ?_, h3⟩
    rw [List.map_cons, forD, e1, Option.bind_some, e2]
    exact e3
def stc (rows : List (List Rat)) (c : Nat) : Es := (List.range c).foldl estep (rows, [])
theorem stc_succ (rows : List (List Rat)) (c : Nat) : stc rows (c + 1) = estep (stc rows c) c := by
  unfold stc
  rw [List.range_succ, List.foldl_append]; rfl
theorem estep_len (st : Es) (c : Nat) : (estep st c).1.length ≤ st.1.length ∧ (estep st c).2.length ≤ st.2.length + 1 ∧ st.2.length ≤ (estep st c).2.length := by
  unfold estep
  split
  · exact ⟨Nat.le_refl _, Nat.le_succ _, Nat.le_refl _⟩
  · rename_i p _
    have := List.length_erase_le (a := p) (l := st.1)
    refine ⟨by simpa using this, by simp, by simp⟩
theorem stc_len (rows : List (List Rat)) : ∀ c, (stc rows c).1.length ≤ rows.length ∧ (stc rows c).2.length ≤ c
  | 0 => ⟨Nat.le_refl _, Nat.le_refl _⟩
  | c + 1 => by
    have ih := stc_len rows c
    rw [stc_succ]
    have := estep_len (stc rows c) c
    omega
/-- the rows at the start -/
def Sz0 (n a b e : Nat) (rows : List (List Rat)) : Prop := ∃ d : Nat, d ≠ 0 ∧ d ≤ 2 ^ a ∧ ∀ r ∈ rows, BR n d e (2 ^ a) (2 ^ b) r
theorem stc_sz {rows : List (List Rat)} {n a b e : Nat} (hl : ∀ r ∈ rows, r.length = n + 1) (he : e ≠ 0) (hb : Sz0 n a b e rows) : ∀ c, c ≤ n → SzI n a b e (stc rows c)
  | 0, _ => by
    obtain ⟨d, d0, dl, h⟩ := hb
    exact ⟨d, d0, dl, h, fun p hp => nomatch hp⟩
  | c + 1, hc => by
    rw [stc_succ]
    exact (stc_sz hl he hb c (by omega)).step he (by omega) (erun_inv hl c (by omega))
theorem stc_piv {rows : List (List Rat)} {c : Nat} {p : List Rat} (hp : p ∈ (stc rows c).1) (h0 : at_ p c ≠ 0) : (stc rows (c + 1)).2.length = (stc rows c).2.length + 1 := by
  rw [stc_succ]
  unfold estep
  cases hf : (stc rows c).1.find? (fun r => decide (at_ r c ≠ 0)) with
  | none =>
    have := List.find?_eq_none.mp hf p hp
    simp [h0] at this
  | some q => simp
theorem eliminate_ok {rows : List (List Rat)} {n a b e E K : Nat} (hl : ∀ r ∈ rows, r.length = n + 1) (hn : n < 1000) (hr : rows.length < 1000) (he : e ≠ 0) (hE : e ≤ 2 ^ E) (hb : Sz0 n a b e rows) (hK : ∀ c, c ≤ n → (stc rows c).2.length ≤ K) (hz : ∀ k, k < K → SzOk a b E k) :
    f_eliminate [.list (rows.map encR), .int (n : Nat)] = ok (.list ((elim rows n).map encP)) := by
  have e1 : ∀ τ : Ta, lcD (gN 6) fYes e_eliminate_1 τ (rows.map encR) = some (rows.map encR) → True := fun _ _ => trivial
  have e0 : lcD (gN 6) fYes e_eliminate_1 [.d (.list (rows.map encR)), .d (.int (n : Nat)), .u, .u, .u, .u, .u, .u, .u] (rows.map encR) = some (rows.map encR) := by
    refine lcD_all (f := encR) (r := encR) rows fun r hr => ⟨_, rfl, ?_⟩
    unfold e_eliminate_1
    simp [runDef, initT, gSeq, gNil, gRet, gRetN, gSet, gSetO, gEx, gIf, gPar, gAsg, gFrz, frzT, gRaise, fCl, fCons, fNil, fB, fU, fN, fV, fC, fTr, fNo, fAnd, fOr, vAnd, vOr, fNoV, fIf, fTup, fLst, fFr, fCh, lft, truD, bnd, bndS, gN, gT, gs0, gs1, isiD, tyD, lenDs, absDs, minDs, maxDs, tupDs, addD, subD, negD, ltD, leD, gtD, geD, isN, notN, ixO, fOix, fOln, gApp, putO, gPut, seqD, fSq, fLs, optD, fSl, slD, ixD, atI_c0, atI_c1, atI_c2, atI_map, modD_ok, lenDs, fRg1, fRg2, encR]
  obtain ⟨τ', e2, e3⟩ := forD_nx (g := gN 3) (b := b_eliminate_1) (xs := rngD 0 n) (τ := [.o (rows.map encR), .d (.int (n : Nat)), .d (.list []), .u, .u, .u, .u, .u, .u])
    (fun i τ => ∃ w v4 v5 v6 v7 v8, τ = [.o ((stc rows i).1.map encR), .d (.int (n : Nat)), .d (.list ((stc rows i).2.map encP)), w, v4, v5, v6, v7, v8]) ⟨_, _, _, _, _, _, rfl⟩ (by
    rintro i x τ hx ⟨w, v4, v5, v6, v7, v8, rfl⟩
    obtain ⟨hi, rfl⟩ := rngD_at hx
    rw [Int.zero_add]
    have hL := stc_len rows i
    obtain ⟨w4, w5, w6, w7, w8, e⟩ := elim_step (c := i) hi hn (erun_inv hl i (by omega)) (by show (stc rows i).1.length < 1000; omega) (by show (stc rows i).2.length < 1000; omega) (fun p hp h0 => (stc_sz hl he hb i (by omega)).ok (orig := rows) he hE hi hp h0 (hz _ (by
      have h1 := stc_piv hp h0
      have h2 := hK (i + 1) (by omega)
      show (stc rows i).2.length < K
      omega))) v4 v5 v6 v7 v8
    exact ⟨_, _, rfl, .inl e, _, w4, w5, w6, w7, w8, by rw [stc_succ]; rfl⟩)
  obtain ⟨w, v4, v5, v6, v7, v8, rfl⟩ := e3
  rw [rngD_len] at e2
  have hrg : rg1 [.int (n : Int)] = some (rngD 0 n) := by
    have := rg1_ok (n := (n : Int)) (by omega) (by omega)
    simpa using this
  unfold f_eliminate g_eliminate
  simp [runDef, initT, gSeq, gNil, gRet, gRetN, gSet, gSetO, gEx, gIf, gPar, gAsg, gFrz, frzT, gRaise, fCl, fCons, fNil, fB, fU, fN, fV, fC, fTr, fNo, fAnd, fOr, vAnd, vOr, fNoV, fIf, fTup, fLst, fFr, fCh, lft, truD, bnd, bndS, gN, gT, gs0, gs1, isiD, tyD, lenDs, absDs, minDs, maxDs, tupDs, addD, subD, negD, ltD, leD, gtD, geD, isN, notN, ixO, fOix, fOln, gApp, putO, gPut, seqD, fSq, fLs, optD, fSl, slD, ixD, atI_c0, atI_c1, atI_c2, atI_map, modD_ok, lenDs, fRg1, fRg2, fLc, show rows.length ≤ 100000 by omega, wipeT, e0, gFor, hrg, e2]
  rfl
theorem solve_data {rows : List (List Rat)} {n a b e E K : Nat} (hl : ∀ r ∈ rows, r.length = n + 1) (hn : n < 1000) (hr : rows.length < 1000) (he : e ≠ 0) (hE : e ≤ 2 ^ E) (hb : Sz0 n a b e rows) (hK : ∀ c, c ≤ n → (stc rows c).2.length ≤ K) (hz : ∀ k, k < K → SzOk a b E k) :
    f_solve [.list (rows.map encR), .int (n : Nat)] = ok (encR (LA.solve rows n)) := by
  have I := erun_inv hl n (Nat.le_refl n)
  have hel := eliminate_ok hl hn hr he hE hb hK hz
  obtain ⟨τ', e2, e3⟩ := forD_fold (g := gT (gs1 (gN 3) (gs1 (gN 4) gs0))) (body := b_solve_1) encP (fun x r => x.set r.1 (at_ r.2 n)) (fun x τ => x.length = n ∧ ∃ v3 v4, τ = [.d (.list (rows.map encR)), .d (.int (n : Nat)), .o (x.map encQ), v3, v4]) (elim rows n) (List.replicate n 0) [.d (.list (rows.map encR)), .d (.int (n : Nat)), .o ((List.replicate n (0 : Rat)).map encQ), .u, .u] ⟨List.length_replicate .., _, _, rfl⟩ (by
    rintro p hp x τ ⟨hx, v3, v4, rfl⟩
    have h1 : p.1 < n := I.lt p hp
    have h2 : p.2.length = n + 1 := I.l2 p hp
    have hx1 : L2.atI (p.2.map encQ) (-1) = some (encQ (at_ p.2 n)) := by
      refine atI_neg1 ?_
      rw [List.getLast?_map, List.getLast?_eq_getElem?, h2]
      rw [show n + 1 - 1 = n by omega, at_get (by omega)]; rfl
    have hx2 : L2.ixN x.length (p.1 : Int) = some p.1 := by
      unfold L2.ixN
      rw [if_pos (by omega), if_pos (by omega)]
      simp
    refine ⟨_, [.d (.list (rows.map encR)), .d (.int (n : Nat)), .o ((x.set p.1 (at_ p.2 n)).map encQ), .d (.int (p.1 : Nat)), .d (encR p.2)], rfl, ?_, by rw [List.length_set]; exact hx, _, _, rfl⟩
    unfold b_solve_1
    simp only [encR] at *
    simp [runDef, initT, gSeq, gNil, gRet, gRetN, gSet, gSetO, gEx, gIf, gPar, gAsg, gFrz, frzT, gRaise, fCl, fCons, fNil, fB, fU, fN, fV, fC, fTr, fNo, fAnd, fOr, vAnd, vOr, fNoV, fIf, fTup, fLst, fFr, fCh, lft, truD, bnd, bndS, gN, gT, gs0, gs1, isiD, tyD, lenDs, absDs, minDs, maxDs, tupDs, addD, subD, negD, ltD, leD, gtD, geD, isN, notN, ixO, fOix, fOln, gApp, putO, gPut, seqD, fSq, fLs, optD, fSl, slD, ixD, atI_c0, atI_c1, atI_c2, atI_map, modD_ok, lenDs, fRg1, fRg2, encR, hx1, hx2])
  obtain ⟨_, v3, v4, rfl⟩ := e3
  have hfl : (List.replicate n [encQ 0]).flatten = (List.replicate n (0 : Rat)).map encQ := by
    rw [List.map_replicate]
    exact List.flatten_replicate_singleton
  unfold f_solve g_solve
  simp [runDef, initT, gSeq, gNil, gRet, gRetN, gSet, gSetO, gEx, gIf, gPar, gAsg, gFrz, frzT, gRaise, fCl, fCons, fNil, fB, fU, fN, fV, fC, fTr, fNo, fAnd, fOr, vAnd, vOr, fNoV, fIf, fTup, fLst, fFr, fCh, lft, truD, bnd, bndS, gN, gT, gs0, gs1, isiD, tyD, lenDs, absDs, minDs, maxDs, tupDs, addD, subD, negD, ltD, leD, gtD, geD, isN, notN, ixO, fOix, fOln, gApp, putO, gPut, seqD, fSq, fLs, optD, fSl, slD, ixD, atI_c0, atI_c1, atI_c2, atI_map, modD_ok, lenDs, fRg1, fRg2, fRep, kZERO, show n < 9223372036854775808 by omega, show n ≤ 100000 by omega, hfl, hel, gFor] at e2 ⊢
  simp [e2, encR]
  rfl
end LW
set_option Elab.async false
set_option linter.all false
set_option maxRecDepth 100000
set_option maxHeartbeats 4000000
/-! G1: components (plain) -/
namespace LW
def gst (f : Nat → Nat) (m : Mt) : Nat → Nat := fun p => if f p = max (f m.l) (f m.r) then min (f m.l) (f m.r) else f p
def root (ms : List Mt) : Nat → Nat := ms.foldl gst id
/-- what a mark keeps: p and its mark are of one kind for every kind that matches keep -/
structure RootI (ms : List Mt) (f : Nat → Nat) : Prop where
  le : ∀ p, f p ≤ p
  id : ∀ p, f (f p) = f p
  ed : ∀ m ∈ ms, f m.l = f m.r
  cl : ∀ S : Nat → Prop, (∀ m ∈ ms, S m.l ↔ S m.r) → ∀ p, S p ↔ S (f p)
theorem RootI.step {ms : List Mt} {f : Nat → Nat} (h : RootI ms f) (m : Mt) : RootI (ms ++ [m]) (gst f m) := by
  have hlo : ∃ lo hi, lo = min (f m.l) (f m.r) ∧ hi = max (f m.l) (f m.r) ∧ lo ≤ hi ∧ f lo = lo ∧ f hi = hi ∧ ((f m.l = lo ∧ f m.r = hi) ∨ (f m.l = hi ∧ f m.r = lo)) := by
    rcases Nat.le_total (f m.l) (f m.r) with hl | hl
    · exact ⟨f m.l, f m.r, (Nat.min_eq_left hl).symm, (Nat.max_eq_right hl).symm, hl, h.id _, h.id _, .inl ⟨rfl, rfl⟩⟩
    · exact ⟨f m.r, f m.l, (Nat.min_eq_right hl).symm, (Nat.max_eq_left hl).symm, hl, h.id _, h.id _, .inr ⟨rfl, rfl⟩⟩
  obtain ⟨lo, hi, e1, e2, hle, fl, fh, hc⟩ := hlo
  have eg : ∀ p, gst f m p = if f p = hi then lo else f p := fun p => by unfold gst; rw [← e1, ← e2]
  refine ⟨fun p => ?_, fun p => ?_, fun m' hm => ?_, fun S hS p => ?_⟩
  · rw [eg]
    have := h.le p
    split <;> omega
  · rw [eg p]
    by_cases hp : f p = hi
    · rw [if_pos hp, eg, fl]
      split <;> rfl
    · rw [if_neg hp, eg, h.id, if_neg hp]
  · rcases List.mem_append.mp hm with hm | hm
    · rw [eg, eg, h.ed m' hm]
    · rw [List.mem_singleton.mp hm, eg, eg]
      rcases hc with ⟨a, b⟩ | ⟨a, b⟩
      · rw [a, b, if_pos rfl]; split <;> rfl
      · rw [a, b, if_pos rfl]; split <;> rfl
  · have c1 := h.cl S fun m' hm => hS m' (List.mem_append.mpr (.inl hm))
    have c2 := hS m (List.mem_append.mpr (.inr (List.mem_singleton.mpr rfl)))
    have c3 : S lo ↔ S hi := by
      rcases hc with ⟨a, b⟩ | ⟨a, b⟩
      · have x := c1 m.l; have y := c1 m.r; rw [a] at x; rw [b] at y; exact x.symm.trans (c2.trans y)
      · have x := c1 m.l; have y := c1 m.r; rw [a] at x; rw [b] at y; exact y.symm.trans (c2.symm.trans x)
    rw [eg, c1 p]
    split
    · rename_i e; rw [e]; exact c3.symm
    · exact Iff.rfl
theorem root_gen : ∀ (ms ms0 : List Mt) (f : Nat → Nat), RootI ms0 f → RootI (ms0 ++ ms) (ms.foldl gst f)
  | [], ms0, f, h => by rw [List.append_nil]; exact h
  | m :: ms, ms0, f, h => by
    have := root_gen ms (ms0 ++ [m]) (gst f m) (h.step m)
    rw [List.append_assoc] at this
    exact this
theorem root_inv (ms : List Mt) : RootI ms (root ms) := root_gen ms [] id ⟨fun _ => Nat.le_refl _, fun _ => rfl, fun m hm => (nomatch hm), fun _ _ _ => Iff.rfl⟩
/-! ### by rounds -/
def lst (f : Nat → Nat) (m : Mt) : Nat → Nat := fun p => if p = m.r then min (f m.l) (f m.r) else if p = m.l then min (f m.l) (f m.r) else f p
def lround (ms : List Mt) (f : Nat → Nat) : Nat → Nat := ms.foldl lst f
def liter (ms : List Mt) : Nat → Nat → Nat
  | 0 => id
  | k + 1 => lround ms (liter ms k)
section
variable {ms : List Mt}
/-- marks within the components -/
def Ji (ms : List Mt) (f : Nat → Nat) : Prop := ∀ p, root ms (f p) = root ms p
theorem Ji.ge {f : Nat → Nat} (h : Ji ms f) (p : Nat) : root ms p ≤ f p := by rw [← h p]; exact (root_inv ms).le _
theorem lst_le (f : Nat → Nat) (m : Mt) (p : Nat) : lst f m p ≤ f p := by
  unfold lst
  split
  · rename_i e; rw [e]; exact Nat.min_le_right _ _
  · split
    · rename_i e; rw [e]; exact Nat.min_le_left _ _
    · exact Nat.le_refl _
theorem Ji.step {f : Nat → Nat} (h : Ji ms f) {m : Mt} (hm : m ∈ ms) : Ji ms (lst f m) := fun p => by
  have e := (root_inv ms).ed m hm
  have hmin : root ms (min (f m.l) (f m.r)) = root ms m.l := by
    rcases Nat.le_total (f m.l) (f m.r) with hl | hl
    · rw [Nat.min_eq_left hl]; exact h _
    · rw [Nat.min_eq_right hl, h, e]
  unfold lst
  split
  · rename_i e'; rw [e', hmin, e]
  · split
    · rename_i e'; rw [e', hmin]
    · exact h p
theorem round_le : ∀ (xs : List Mt) (f : Nat → Nat) (p : Nat), xs.foldl lst f p ≤ f p
  | [], f, p => Nat.le_refl _
  | m :: xs, f, p => Nat.le_trans (round_le xs (lst f m) p) (lst_le f m p)
theorem round_ji : ∀ (xs : List Mt) (f : Nat → Nat), (∀ m ∈ xs, m ∈ ms) → Ji ms f → Ji ms (xs.foldl lst f)
  | [], f, _, h => h
  | m :: xs, f, hs, h => round_ji xs (lst f m) (fun m hm => hs m (List.mem_cons_of_mem _ hm)) (h.step (hs m List.mem_cons_self))
theorem liter_ji : ∀ k, Ji ms (liter ms k)
  | 0 => fun _ => rfl
  | k + 1 => round_ji ms _ (fun _ h => h) (liter_ji k)
/-- one side right: both right behind the round -/
theorem round_edge {m : Mt} : ∀ (xs : List Mt) (f : Nat → Nat), (∀ m ∈ xs, m ∈ ms) → Ji ms f → m ∈ xs → (f m.l = root ms m.l ∨ f m.r = root ms m.r) → xs.foldl lst f m.l = root ms m.l ∧ xs.foldl lst f m.r = root ms m.r
  | [], f, _, _, h, _ => nomatch h
  | m' :: xs, f, hs, hj, h, hc => by
    have hj' := hj.step (hs m' List.mem_cons_self)
    have hs' : ∀ m ∈ xs, m ∈ ms := fun m hm => hs m (List.mem_cons_of_mem _ hm)
    rcases List.mem_cons.mp h with rfl | h
    · have e := (root_inv ms).ed m (hs m List.mem_cons_self)
      have hl := hj.ge m.l
      have hr := hj.ge m.r
      have e1 : lst f m m.l = min (f m.l) (f m.r) := by unfold lst; split <;> simp
      have e2 : lst f m m.r = min (f m.l) (f m.r) := by unfold lst; simp
      have g1 := round_le xs (lst f m) m.l
      have g2 := round_le xs (lst f m) m.r
      have k1 := (round_ji xs (lst f m) hs' hj').ge m.l
      have k2 := (round_ji xs (lst f m) hs' hj').ge m.r
      rw [List.foldl_cons]
      rw [e1] at g1
      rw [e2] at g2
      omega
    · refine round_edge xs (lst f m') hs' hj' h ?_
      rcases hc with hc | hc
      · have := lst_le f m' m.l; have := hj'.ge m.l; exact .inl (by omega)
      · have := lst_le f m' m.r; have := hj'.ge m.r; exact .inr (by omega)
def cnt (n : Nat) (P : Nat → Bool) : Nat := (List.range n).countP P
theorem countP_le' {P Q : Nat → Bool} (h : ∀ p, P p = true → Q p = true) : ∀ l : List Nat, l.countP P ≤ l.countP Q := fun l => List.countP_mono_left fun x _ hx => h x hx
theorem countP_lt' {P Q : Nat → Bool} (h : ∀ p, P p = true → Q p = true) : ∀ {l : List Nat} {x : Nat}, x ∈ l → P x = false → Q x = true → l.countP P < l.countP Q
  | y :: l, x, hx, h1, h2 => by
    have g := countP_le' h l
    rw [List.countP_cons, List.countP_cons]
    rcases List.mem_cons.mp hx with rfl | hx
    · rw [h1, h2]; simp; omega
    · have ih := countP_lt' h hx h1 h2
      cases e1 : P y with
      | true => rw [h y e1]; simp; omega
      | false => cases Q y <;> simp <;> omega
theorem liter_ok {n : Nat} (hr : ∀ m ∈ ms, m.l < n ∧ m.r < n) : ∀ k, (∀ p, p < n → liter ms k p = root ms p) ∨ k ≤ cnt n (fun p => decide (liter ms k p = root ms p))
  | 0 => .inr (Nat.zero_le _)
  | k + 1 => by
    have hj := liter_ji (ms := ms) k
    have hj' := liter_ji (ms := ms) (k + 1)
    have keep : ∀ p, liter ms k p = root ms p → liter ms (k + 1) p = root ms p := fun p e => by
      have h1 : liter ms (k + 1) p ≤ liter ms k p := round_le ms _ p
      have h2 := hj'.ge p
      omega
    rcases liter_ok hr k with h | h
    · exact .inl fun p hp => keep p (h p hp)
    · by_cases hx : ∃ x, x < n ∧ liter ms k x ≠ root ms x ∧ liter ms (k + 1) x = root ms x
      · obtain ⟨x, h1, h2, h3⟩ := hx
        refine .inr (Nat.lt_of_le_of_lt h (countP_lt' (fun p hp => ?_) (List.mem_range.mpr h1) (decide_eq_false h2) (decide_eq_true h3)))
        exact decide_eq_true (keep p (of_decide_eq_true hp))
      · left
        intro p hp
        have same : ∀ q, q < n → (liter ms (k + 1) q = root ms q ↔ liter ms k q = root ms q) := fun q hq => ⟨fun e => by
          by_cases e' : liter ms k q = root ms q
          · exact e'
          · exact absurd ⟨q, hq, e', e⟩ hx, keep q⟩
        have cl := (root_inv ms).cl (fun q => liter ms (k + 1) q = root ms q) (fun m hm => by
          have hlr := hr m hm
          have ed := fun hc => round_edge (m := m) ms (liter ms k) (fun _ h => h) hj hm hc
          constructor
          · intro e; exact (ed (.inl ((same _ hlr.1).mp e))).2
          · intro e; exact (ed (.inr ((same _ hlr.2).mp e))).1) p
        refine cl.mpr ?_
        have h1 := hj'.ge (root ms p)
        have h2 : liter ms (k + 1) (root ms p) ≤ root ms p := by
          have : ∀ k q, liter ms k q ≤ q := fun k => by
            induction k with
            | zero => exact fun q => Nat.le_refl _
            | succ k ih => exact fun q => Nat.le_trans (round_le ms _ q) (ih q)
          exact this _ _
        rw [(root_inv ms).id] at h1 ⊢
        omega
theorem liter_root {n : Nat} (hr : ∀ m ∈ ms, m.l < n ∧ m.r < n) (p : Nat) (hp : p < n) : liter ms n p = root ms p := by
  rcases liter_ok hr n with h | h
  · exact h p hp
  · have hle : cnt n (fun p => decide (liter ms n p = root ms p)) ≤ n := by
      unfold cnt
      have := List.countP_le_length (p := fun p => decide (liter ms n p = root ms p)) (l := List.range n)
      simpa using this
    have heq : (List.range n).countP (fun p => decide (liter ms n p = root ms p)) = (List.range n).length := by
      unfold cnt at h hle
      rw [List.length_range]; omega
    have := List.countP_eq_length.mp heq p (List.mem_range.mpr hp)
    exact of_decide_eq_true this
end
end LW
set_option Elab.async false
set_option linter.all false
set_option maxRecDepth 100000
set_option maxHeartbeats 4000000
/-! G2: components on data -/
namespace LW
open PySem DL
def iN (k : Nat) : D := .int (k : Nat)
def encL (xs : List Nat) : D := .list (xs.map iN)
def roots (s : Sc) : List Nat := (List.range s.n).filter fun p => decide (root s.ms p = p)
def grp (s : Sc) (k : Nat) : List Nat := (List.range s.n).filter fun p => decide (root s.ms p = k)
def groups (s : Sc) : List (List Nat) := (roots s).map (grp s)
def mkD (n : Nat) (f : Nat → Nat) : List D := (List.range n).map fun p => iN (f p)
theorem mkD_at {n : Nat} (f : Nat → Nat) {p : Nat} (hp : p < n) : L2.atI (mkD n f) (p : Int) = some (iN (f p)) := by
  unfold mkD
  rw [atI_map, atI_nat (show (List.range n)[p]? = some p by simp [hp])]; rfl
theorem mkD_len (n : Nat) (f : Nat → Nat) : (mkD n f).length = n := by simp [mkD]
theorem mkD_set {n : Nat} (f : Nat → Nat) (l v : Nat) (hl : l < n) : (mkD n f).set l (iN v) = mkD n (fun p => if p = l then v else f p) := by
  unfold mkD
  refine List.ext_getElem? fun i => ?_
  by_cases hi : i = l
  · subst hi
    rw [List.getElem?_set_self (by simpa using hl)]
    simp [hl]
  · rw [List.getElem?_set_ne (fun z => hi z.symm), List.getElem?_map, List.getElem?_map]
    by_cases h : i < n
    · simp [h, hi]
    · simp [h]
theorem rng_of {n : Nat} (h : n < 2 ^ 62) : rg1 [.int (n : Int)] = some (rngD 0 n) := by
  have := rg1_ok (n := (n : Int)) (by omega) (by omega)
  simpa using this
theorem rngD_map (n : Nat) : rngD 0 n = (List.range n).map iN := by
  unfold rngD iN
  refine List.map_congr_left fun i _ => ?_
  rw [Int.zero_add]
theorem min_ii (a b : Nat) : minDs [iN a, iN b] = some (iN (min a b)) := by
  simp only [minDs, iN]
  congr 2
  split <;> omega
theorem max_ii (a b : Nat) : maxDs [iN a, iN b] = some (iN (max a b)) := by
  simp only [maxDs, iN]
  congr 2
  split <;> omega
theorem mn_if (a b : Nat) : (if b < a then (b : Int) else (a : Int)) = ((min a b : Nat) : Int) := by split <;> omega
theorem mx_if (a b : Nat) : (if a < b then (b : Int) else (a : Int)) = ((max a b : Nat) : Int) := by split <;> omega
theorem eqD_ii (a b : Nat) : eqD (iN a) (iN b) = some (.bool (decide (a = b))) := by
  unfold iN
  rw [eqD_int]
  by_cases h : a = b
  · simp [h]
  · rw [decide_eq_false h, decide_eq_false (by omega)]
theorem asInts_iN (xs : List Nat) : asInts (xs.map iN) = some (xs.map fun k : Nat => (k : Int)) := by
  have := asInts_map (xs.map fun k : Nat => (k : Int))
  rw [List.map_map] at this
  exact this
theorem encS_ms (s : Sc) : ixD (encS s) (.int 1) = some (.tuple (s.ms.map encM)) := rfl
theorem encS_n (s : Sc) : ixD (encS s) (.int 0) = some (.int (s.n : Nat)) := rfl
/-- the sorted marks are the roots -/
theorem sort_roots (s : Sc) : (srt (dst ((List.range s.n).map fun p => ((root s.ms p : Nat) : Int)))) = (roots s).map fun k : Nat => (k : Int) := by
  have R := root_inv s.ms
  refine (strict_uniq ?_ ?_ ?_ ?_).symm
  · rw [List.pairwise_map]
    unfold roots
    refine ((List.pairwise_lt_range).filter _).imp fun h => by omega
  · exact srt_sorted _
  · exact (srt_perm _).nodup_iff.mpr (dst_nodup _)
  · intro k
    rw [(srt_perm _).mem_iff, dst_mem]
    constructor
    · intro h
      obtain ⟨p, hp, rfl⟩ := List.mem_map.mp h
      obtain ⟨h1, h2⟩ := List.mem_filter.mp hp
      exact List.mem_map.mpr ⟨p, h1, by rw [of_decide_eq_true h2]⟩
    · intro h
      obtain ⟨p, hp, rfl⟩ := List.mem_map.mp h
      refine List.mem_map.mpr ⟨root s.ms p, List.mem_filter.mpr ⟨List.mem_range.mpr ?_, decide_eq_true (R.id p)⟩, rfl⟩
      have := R.le p
      have := List.mem_range.mp hp
      omega
theorem fSort_marks (s : Sc) (h6 : s.n ≤ 6) (f : Ta → R D) (τ : Ta) (hf : f τ = ok (.list (mkD s.n (root s.ms)))) : fSortSet f τ = ok (encL (roots s)) := by
  unfold fSortSet
  rw [hf]
  have e : asInts (mkD s.n (root s.ms)) = some ((List.range s.n).map fun p => ((root s.ms p : Nat) : Int)) := by
    have := asInts_iN ((List.range s.n).map (root s.ms))
    rw [List.map_map, List.map_map] at this
    exact this
  have e2 : setInts (.list (mkD s.n (root s.ms))) = some ((List.range s.n).map fun p => ((root s.ms p : Nat) : Int)) := by
    show (asInts (mkD s.n (root s.ms))).bind _ = _
    rw [e, Option.bind_some, if_pos (by simp; omega)]
  simp only [bnd_ok, e2, lft_some]
  rw [if_pos (by simp; omega), sort_roots, List.map_map]
  rfl
theorem groups_of_ok {s : Sc} (h : s.Ok) : f_groups_of [encS s] = ok (.list ((groups s).map encL)) := by
  have h6 := h.n6
  obtain ⟨τ', e2, e3⟩ := forD_fold (g := gT (gs1 (gN 2) (gs1 (gN 3) (gs1 (gN 4) gs0)))) (body := b_groups_of_1) encM gst (fun f τ => ∃ v2 v3 v4 v5 v6 v7 v8, τ = [.d (encS s), .d (.list (mkD s.n f)), v2, v3, v4, v5, v6, v7, v8]) s.ms id [.d (encS s), .d (.list (mkD s.n id)), .u, .u, .u, .u, .u, .u, .u] ⟨_, _, _, _, _, _, _, rfl⟩ (by
    rintro m hm f τ ⟨v2, v3, v4, v5, v6, v7, v8, rfl⟩
    have hr := h.rg m hm
    have a1 := mkD_at f (show m.l < s.n by have := hr.1; have := hr.2.1; omega)
    have a2 := mkD_at f hr.2.1
    have e1 : ∀ τ : Ta, (∃ a b c d e x, τ = [.d (encS s), a, b, c, d, .d (iN (min (f m.l) (f m.r))), .d (iN (max (f m.l) (f m.r))), e, x]) → lcD (gN 7) fYes e_groups_of_2 τ (mkD s.n f) = some (mkD s.n (gst f m)) := by
      rintro τ ⟨a, b, c, d, e, x, rfl⟩
      refine lcD_all (f := fun p => iN (f p)) (r := fun p => iN (gst f m p)) (List.range s.n) fun p hp => ⟨_, rfl, ?_⟩
      unfold e_groups_of_2 gst
      by_cases hc : f p = max (f m.l) (f m.r) <;> simp [runDef, initT, gSeq, gNil, gRet, gRetN, gSet, gSetO, gEx, gIf, gPar, gAsg, gFrz, frzT, gRaise, fCl, fCons, fNil, fB, fU, fN, fV, fC, fTr, fNo, fAnd, fOr, vAnd, vOr, fNoV, fIf, fTup, fLst, fFr, fCh, lft, truD, bnd, bndS, gN, gT, gs0, gs1, isiD, tyD, lenDs, absDs, minDs, maxDs, tupDs, addD, subD, negD, ltD, leD, gtD, geD, isN, notN, ixO, fOix, fOln, gApp, putO, gPut, seqD, fSq, fLs, optD, fSl, slD, ixD, atI_c0, atI_c1, atI_c2, atI_map, modD_ok, lenDs, fRg1, fRg2, eqD_ii, hc]
    refine ⟨_, [.d (encS s), .d (.list (mkD s.n (gst f m))), .d (iN m.l), .d (iN m.r), .d (iN m.w), .d (iN (min (f m.l) (f m.r))), .d (iN (max (f m.l) (f m.r))), v7, v8], rfl, ?_, _, _, _, _, _, _, _, rfl⟩
    unfold b_groups_of_1
    simp only [iN] at a1 a2 e1 ⊢
    simp [runDef, initT, gSeq, gNil, gRet, gRetN, gSet, gSetO, gEx, gIf, gPar, gAsg, gFrz, frzT, gRaise, fCl, fCons, fNil, fB, fU, fN, fV, fC, fTr, fNo, fAnd, fOr, vAnd, vOr, fNoV, fIf, fTup, fLst, fFr, fCh, lft, truD, bnd, bndS, gN, gT, gs0, gs1, isiD, tyD, lenDs, absDs, minDs, maxDs, tupDs, addD, subD, negD, ltD, leD, gtD, geD, isN, notN, ixO, fOix, fOln, gApp, putO, gPut, seqD, fSq, fLs, optD, fSl, slD, ixD, atI_c0, atI_c1, atI_c2, atI_map, modD_ok, lenDs, fRg1, fRg2, a1, a2, mn_if, mx_if, fLc, mkD_len, show s.n ≤ 100000 by omega, wipeT, e1])
  obtain ⟨v2, v3, v4, v5, v6, v7, v8, rfl⟩ := e3
  have hroot : s.ms.foldl gst id = root s.ms := rfl
  rw [hroot] at e2
  have eg : ∀ τ : Ta, (∃ a b c d e x, τ = [.d (encS s), .d (.list (mkD s.n (root s.ms))), a, b, c, d, e, .u, x]) → lcD (gN 7) fYes e_groups_of_4 τ ((roots s).map iN) = some ((groups s).map encL) := by
    rintro τ ⟨a, b, c, d, e, x, rfl⟩
    unfold groups
    rw [List.map_map]
    refine lcD_all (f := iN) (r := encL ∘ grp s) (roots s) fun k hk => ⟨_, rfl, ?_⟩
    have ei : lcD (gN 8) t_groups_of_3 e_groups_of_3 [.d (encS s), .d (.list (mkD s.n (root s.ms))), a, b, c, d, e, .d (iN k), .u] (rngD 0 s.n) = some ((grp s k).map iN) := by
      rw [rngD_map]
      refine lcD_eq (f := iN) (r := iN) (List.range s.n) fun p hp => ⟨_, rfl, ?_, fun _ => ?_⟩
      · have := mkD_at (root s.ms) (List.mem_range.mp hp)
        unfold t_groups_of_3
        simp [runDef, initT, gSeq, gNil, gRet, gRetN, gSet, gSetO, gEx, gIf, gPar, gAsg, gFrz, frzT, gRaise, fCl, fCons, fNil, fB, fU, fN, fV, fC, fTr, fNo, fAnd, fOr, vAnd, vOr, fNoV, fIf, fTup, fLst, fFr, fCh, lft, truD, bnd, bndS, gN, gT, gs0, gs1, isiD, tyD, lenDs, absDs, minDs, maxDs, tupDs, addD, subD, negD, ltD, leD, gtD, geD, isN, notN, ixO, fOix, fOln, gApp, putO, gPut, seqD, fSq, fLs, optD, fSl, slD, ixD, atI_c0, atI_c1, atI_c2, atI_map, modD_ok, lenDs, fRg1, fRg2, iN] at this ⊢
        simp [this, eqD_int]
        exact Int.ofNat_inj
      · unfold e_groups_of_3
        simp [runDef, initT, gSeq, gNil, gRet, gRetN, gSet, gSetO, gEx, gIf, gPar, gAsg, gFrz, frzT, gRaise, fCl, fCons, fNil, fB, fU, fN, fV, fC, fTr, fNo, fAnd, fOr, vAnd, vOr, fNoV, fIf, fTup, fLst, fFr, fCh, lft, truD, bnd, bndS, gN, gT, gs0, gs1, isiD, tyD, lenDs, absDs, minDs, maxDs, tupDs, addD, subD, negD, ltD, leD, gtD, geD, isN, notN, ixO, fOix, fOln, gApp, putO, gPut, seqD, fSq, fLs, optD, fSl, slD, ixD, atI_c0, atI_c1, atI_c2, atI_map, modD_ok, lenDs, fRg1, fRg2]
    unfold e_groups_of_4
    simp [runDef, initT, gSeq, gNil, gRet, gRetN, gSet, gSetO, gEx, gIf, gPar, gAsg, gFrz, frzT, gRaise, fCl, fCons, fNil, fB, fU, fN, fV, fC, fTr, fNo, fAnd, fOr, vAnd, vOr, fNoV, fIf, fTup, fLst, fFr, fCh, lft, truD, bnd, bndS, gN, gT, gs0, gs1, isiD, tyD, lenDs, absDs, minDs, maxDs, tupDs, addD, subD, negD, ltD, leD, gtD, geD, isN, notN, ixO, fOix, fOln, gApp, putO, gPut, seqD, fSq, fLs, optD, fSl, slD, ixD, atI_c0, atI_c1, atI_c2, atI_map, modD_ok, lenDs, fRg1, fRg2, encS, encS_n, rng_of (show s.n < 2 ^ 62 by omega), fLc, rngD_len, show s.n ≤ 100000 by omega, wipeT] at ei ⊢
    simp [ei, encL]
  have hl : (roots s).length ≤ 100000 := by
    have := List.length_filter_le (fun p => decide (root s.ms p = p)) (List.range s.n)
    rw [List.length_range] at this
    unfold roots
    omega
  have h0 : rngD 0 s.n = mkD s.n id := rngD_map s.n
  have hs := fSort_marks s h6 (fV 1) [.d (encS s), .d (.list (mkD s.n (root s.ms))), v2, v3, v4, v5, v6, v7, v8] rfl
  unfold f_groups_of g_groups_of
  simp only [encS] at e2 hs eg ⊢
  simp [runDef, initT, gSeq, gNil, gRet, gRetN, gSet, gSetO, gEx, gIf, gPar, gAsg, gFrz, frzT, gRaise, fCl, fCons, fNil, fB, fU, fN, fV, fC, fTr, fNo, fAnd, fOr, vAnd, vOr, fNoV, fIf, fTup, fLst, fFr, fCh, lft, truD, bnd, bndS, gN, gT, gs0, gs1, isiD, tyD, lenDs, absDs, minDs, maxDs, tupDs, addD, subD, negD, ltD, leD, gtD, geD, isN, notN, ixO, fOix, fOln, gApp, putO, gPut, seqD, fSq, fLs, optD, fSl, slD, ixD, atI_c0, atI_c1, atI_c2, atI_map, modD_ok, lenDs, fRg1, fRg2, fLr, show s.n ≤ 100000 by omega, gFor, h0, e2, hs, fLc, encL, hl, wipeT, eg]
theorem law_groups_ok {s : Sc} (h : s.Ok) : f__law_groups [encS s] = ok (.list ((groups s).map encL)) := by
  have h6 := h.n6
  have inner : ∀ (f : Nat → Nat) (v2 v3 v4 v5 v6 v7 v8 v9 : SV), ∃ τ' , forD (gT (gs1 (gN 3) (gs1 (gN 4) (gs1 (gN 5) gs0)))) b__law_groups_2 (s.ms.map encM) [.d (encS s), .o (mkD s.n f), v2, v3, v4, v5, v6, v7, v8, v9] = some (.nx τ') ∧ ∃ v2 v3 v4 v5 v6 v7 v8 v9, τ' = [.d (encS s), .o (mkD s.n (lround s.ms f)), v2, v3, v4, v5, v6, v7, v8, v9] := by
    intro f v2 v3 v4 v5 v6 v7 v8 v9
    refine forD_fold encM lst (fun f τ => ∃ v2 v3 v4 v5 v6 v7 v8 v9, τ = [.d (encS s), .o (mkD s.n f), v2, v3, v4, v5, v6, v7, v8, v9]) s.ms f _ ⟨_, _, _, _, _, _, _, _, rfl⟩ ?_
    rintro m hm f τ ⟨v2, v3, v4, v5, v6, v7, v8, v9, rfl⟩
    have hr := h.rg m hm
    have hl : m.l < s.n := by have := hr.1; have := hr.2.1; omega
    have a1 := mkD_at f hl
    have a2 := mkD_at f hr.2.1
    have i1 : L2.ixN s.n (m.l : Int) = some m.l := by
      unfold L2.ixN
      rw [if_pos (by omega), if_pos (by omega)]; simp
    have i2 : L2.ixN s.n (m.r : Int) = some m.r := by
      have := hr.2.1
      unfold L2.ixN
      rw [if_pos (by omega), if_pos (by omega)]; simp
    have s1 := mkD_set f m.l (min (f m.l) (f m.r)) hl
    have s2 := mkD_set (fun p => if p = m.l then min (f m.l) (f m.r) else f p) m.r (min (f m.l) (f m.r)) hr.2.1
    refine ⟨_, [.d (encS s), .o (mkD s.n (lst f m)), v2, .d (iN m.l), .d (iN m.r), .d (iN m.w), .d (iN (min (f m.l) (f m.r))), v7, v8, v9], rfl, ?_, _, _, _, _, _, _, _, _, rfl⟩
    unfold b__law_groups_2
    simp only [iN] at a1 a2 s1 s2 ⊢
    simp [runDef, initT, gSeq, gNil, gRet, gRetN, gSet, gSetO, gEx, gIf, gPar, gAsg, gFrz, frzT, gRaise, fCl, fCons, fNil, fB, fU, fN, fV, fC, fTr, fNo, fAnd, fOr, vAnd, vOr, fNoV, fIf, fTup, fLst, fFr, fCh, lft, truD, bnd, bndS, gN, gT, gs0, gs1, isiD, tyD, lenDs, absDs, minDs, maxDs, tupDs, addD, subD, negD, ltD, leD, gtD, geD, isN, notN, ixO, fOix, fOln, gApp, putO, gPut, seqD, fSq, fLs, optD, fSl, slD, ixD, atI_c0, atI_c1, atI_c2, atI_map, modD_ok, lenDs, fRg1, fRg2, a1, a2, mn_if, i1, i2, mkD_len, s1, s2]
    rfl
  obtain ⟨τ', e2, e3⟩ := forD_nx (g := gN 2) (b := b__law_groups_1) (xs := rngD 0 s.n) (τ := [.d (encS s), .o (mkD s.n id), .u, .u, .u, .u, .u, .u, .u, .u]) (fun i τ => ∃ v2 v3 v4 v5 v6 v7 v8 v9, τ = [.d (encS s), .o (mkD s.n (liter s.ms i)), v2, v3, v4, v5, v6, v7, v8, v9]) ⟨_, _, _, _, _, _, _, _, rfl⟩ (by
    rintro i x τ hx ⟨v2, v3, v4, v5, v6, v7, v8, v9, rfl⟩
    obtain ⟨τ', e1, w2, w3, w4, w5, w6, w7, w8, w9, rfl⟩ := inner (liter s.ms i) (.d x) v3 v4 v5 v6 v7 v8 v9
    refine ⟨_, _, rfl, .inl ?_, w2, w3, w4, w5, w6, w7, w8, w9, rfl⟩
    unfold b__law_groups_1
    simp [runDef, initT, gSeq, gNil, gRet, gRetN, gSet, gSetO, gEx, gIf, gPar, gAsg, gFrz, frzT, gRaise, fCl, fCons, fNil, fB, fU, fN, fV, fC, fTr, fNo, fAnd, fOr, vAnd, vOr, fNoV, fIf, fTup, fLst, fFr, fCh, lft, truD, bnd, bndS, gN, gT, gs0, gs1, isiD, tyD, lenDs, absDs, minDs, maxDs, tupDs, addD, subD, negD, ltD, leD, gtD, geD, isN, notN, ixO, fOix, fOln, gApp, putO, gPut, seqD, fSq, fLs, optD, fSl, slD, ixD, atI_c0, atI_c1, atI_c2, atI_map, modD_ok, lenDs, fRg1, fRg2, encS, gFor] at e1 ⊢
    simp [e1]
    rfl)
  obtain ⟨v2, v3, v4, v5, v6, v7, v8, v9, rfl⟩ := e3
  rw [rngD_len] at e2
  have hm : mkD s.n (liter s.ms s.n) = mkD s.n (root s.ms) := by
    unfold mkD
    refine List.map_congr_left fun p hp => ?_
    rw [liter_root (fun m hm => ⟨by have z := h.rg m hm; have := z.1; have := z.2.1; omega, (h.rg m hm).2.1⟩) p (List.mem_range.mp hp)]
  rw [hm] at e2
  have hs := fSort_marks s h6 (fV 1) [.d (encS s), .d (.list (mkD s.n (root s.ms))), v2, v3, v4, v5, v6, .o [], v8, v9] rfl
  have hrl : (roots s).length ≤ 6 := by
    have := List.length_filter_le (fun p => decide (root s.ms p = p)) (List.range s.n)
    rw [List.length_range] at this
    unfold roots
    omega
  obtain ⟨τ2, e5, e6⟩ := forD_nx (g := gN 8) (b := b__law_groups_3) (xs := (roots s).map iN) (τ := [.d (encS s), .d (.list (mkD s.n (root s.ms))), v2, v3, v4, v5, v6, .o [], v8, v9]) (fun i τ => ∃ v2 v3 v4 v5 v6 v8 v9, τ = [.d (encS s), .d (.list (mkD s.n (root s.ms))), v2, v3, v4, v5, v6, .o ((((roots s).take i).map (grp s)).map encL), v8, v9]) ⟨_, _, _, _, _, _, _, rfl⟩ (by
    rintro i x τ hx ⟨v2, v3, v4, v5, v6, v8, v9, rfl⟩
    rw [List.getElem?_map] at hx
    obtain ⟨k, hk, rfl⟩ := Option.map_eq_some_iff.mp hx
    have hil : i < (roots s).length := (List.getElem?_eq_some_iff.mp hk).1
    have ei : ∀ w7 : SV, lcD (gN 9) t__law_groups_1 e__law_groups_1 [.d (encS s), .d (.list (mkD s.n (root s.ms))), v2, v3, v4, v5, v6, w7, .d (iN k), .u] (rngD 0 s.n) = some ((grp s k).map iN) := by
      intro w7
      rw [rngD_map]
      refine lcD_eq (f := iN) (r := iN) (List.range s.n) fun p hp => ⟨_, rfl, ?_, fun _ => ?_⟩
      · have := mkD_at (root s.ms) (List.mem_range.mp hp)
        unfold t__law_groups_1
        simp only [iN] at this ⊢
        simp [runDef, initT, gSeq, gNil, gRet, gRetN, gSet, gSetO, gEx, gIf, gPar, gAsg, gFrz, frzT, gRaise, fCl, fCons, fNil, fB, fU, fN, fV, fC, fTr, fNo, fAnd, fOr, vAnd, vOr, fNoV, fIf, fTup, fLst, fFr, fCh, lft, truD, bnd, bndS, gN, gT, gs0, gs1, isiD, tyD, lenDs, absDs, minDs, maxDs, tupDs, addD, subD, negD, ltD, leD, gtD, geD, isN, notN, ixO, fOix, fOln, gApp, putO, gPut, seqD, fSq, fLs, optD, fSl, slD, ixD, atI_c0, atI_c1, atI_c2, atI_map, modD_ok, lenDs, fRg1, fRg2, this, eqD_int]
        exact Int.ofNat_inj
      · unfold e__law_groups_1
        simp [runDef, initT, gSeq, gNil, gRet, gRetN, gSet, gSetO, gEx, gIf, gPar, gAsg, gFrz, frzT, gRaise, fCl, fCons, fNil, fB, fU, fN, fV, fC, fTr, fNo, fAnd, fOr, vAnd, vOr, fNoV, fIf, fTup, fLst, fFr, fCh, lft, truD, bnd, bndS, gN, gT, gs0, gs1, isiD, tyD, lenDs, absDs, minDs, maxDs, tupDs, addD, subD, negD, ltD, leD, gtD, geD, isN, notN, ixO, fOix, fOln, gApp, putO, gPut, seqD, fSq, fLs, optD, fSl, slD, ixD, atI_c0, atI_c1, atI_c2, atI_map, modD_ok, lenDs, fRg1, fRg2]
    refine ⟨_, _, rfl, .inl ?_, v2, v3, v4, v5, v6, .d (iN k), v9, rfl⟩
    rw [List.take_add_one, hk]
    unfold b__law_groups_3
    simp only [encS] at ei ⊢
    simp [runDef, initT, gSeq, gNil, gRet, gRetN, gSet, gSetO, gEx, gIf, gPar, gAsg, gFrz, frzT, gRaise, fCl, fCons, fNil, fB, fU, fN, fV, fC, fTr, fNo, fAnd, fOr, vAnd, vOr, fNoV, fIf, fTup, fLst, fFr, fCh, lft, truD, bnd, bndS, gN, gT, gs0, gs1, isiD, tyD, lenDs, absDs, minDs, maxDs, tupDs, addD, subD, negD, ltD, leD, gtD, geD, isN, notN, ixO, fOix, fOln, gApp, putO, gPut, seqD, fSq, fLs, optD, fSl, slD, ixD, atI_c0, atI_c1, atI_c2, atI_map, modD_ok, lenDs, fRg1, fRg2, rng_of (show s.n < 2 ^ 62 by omega), fLc, rngD_len, show s.n ≤ 100000 by omega, wipeT, ei, encL, show min i (roots s).length < 100000 by omega])
  obtain ⟨w2, w3, w4, w5, w6, w8, w9, rfl⟩ := e6
  rw [List.length_map, List.take_length] at e5
  have h0 : rngD 0 s.n = mkD s.n id := rngD_map s.n
  unfold f__law_groups g__law_groups
  simp only [encS] at e2 hs e5 ⊢
  rw [h0] at e2
  simp [runDef, initT, gSeq, gNil, gRet, gRetN, gSet, gSetO, gEx, gIf, gPar, gAsg, gFrz, frzT, gRaise, fCl, fCons, fNil, fB, fU, fN, fV, fC, fTr, fNo, fAnd, fOr, vAnd, vOr, fNoV, fIf, fTup, fLst, fFr, fCh, lft, truD, bnd, bndS, gN, gT, gs0, gs1, isiD, tyD, lenDs, absDs, minDs, maxDs, tupDs, addD, subD, negD, ltD, leD, gtD, geD, isN, notN, ixO, fOix, fOln, gApp, putO, gPut, seqD, fSq, fLs, optD, fSl, slD, ixD, atI_c0, atI_c1, atI_c2, atI_map, modD_ok, lenDs, fRg1, fRg2, fLr, show s.n ≤ 100000 by omega, gFor, h0, rng_of (show s.n < 2 ^ 62 by omega), e2, hs, encL]
  simp [e5, runDef, initT, gSeq, gNil, gRet, gRetN, gSet, gSetO, gEx, gIf, gPar, gAsg, gFrz, frzT, gRaise, fCl, fCons, fNil, fB, fU, fN, fV, fC, fTr, fNo, fAnd, fOr, vAnd, vOr, fNoV, fIf, fTup, fLst, fFr, fCh, lft, truD, bnd, bndS, gN, gT, gs0, gs1, isiD, tyD, lenDs, absDs, minDs, maxDs, tupDs, addD, subD, negD, ltD, leD, gtD, geD, isN, notN, ixO, fOix, fOln, gApp, putO, gPut, seqD, fSq, fLs, optD, fSl, slD, ixD, atI_c0, atI_c1, atI_c2, atI_map, modD_ok, lenDs, fRg1, fRg2, groups]
end LW
set_option Elab.async false
set_option linter.all false
set_option maxRecDepth 100000
set_option maxHeartbeats 4000000
/-! B1: surpluses, the rows of the balance (plain and on data) -/
namespace LW
open PySem DL LA
def tot : List Rat → Rat
  | [] => 0
  | x :: xs => x + tot xs
theorem tot_append (xs ys : List Rat) : tot (xs ++ ys) = tot xs + tot ys := by
  induction xs with
  | nil => simp only [List.nil_append, tot]; grind
  | cons x xs ih => simp only [List.cons_append, tot, ih]; grind
/-- 1 for the left player, -1 for the right one -/
def sgn (m : Mt) (k : Nat) : Rat := if k = m.l then 1 else if k = m.r then -1 else 0
abbrev Zs := List (Mt × Rat)
/-- the surplus of player k -/
def sur (zs : Zs) (k : Nat) : Rat := tot (zs.map fun p => sgn p.1 k * ((p.1.w : Rat) * p.2))
def mkQ (n : Nat) (f : Nat → Rat) : List Rat := (List.range n).map f
theorem mkQ_len (n : Nat) (f : Nat → Rat) : (mkQ n f).length = n := by simp [mkQ]
theorem mkQ_at {n : Nat} (f : Nat → Rat) {p : Nat} (hp : p < n) : at_ (mkQ n f) p = f p := by
  unfold at_ mkQ
  rw [List.getD_eq_getElem?_getD]
  simp [hp]
theorem mkQ_ix {n : Nat} (f : Nat → Rat) {p : Nat} (hp : p < n) : L2.atI ((mkQ n f).map encQ) (p : Int) = some (encQ (f p)) := by
  unfold mkQ
  rw [atI_map, atI_map, atI_nat (show (List.range n)[p]? = some p by simp [hp])]; rfl
theorem mkQ_set {n : Nat} (f : Nat → Rat) (l : Nat) (v : Rat) (hl : l < n) : ((mkQ n f).map encQ).set l (encQ v) = (mkQ n (fun p => if p = l then v else f p)).map encQ := by
  unfold mkQ
  rw [← List.map_set]
  congr 1
  refine List.ext_getElem? fun i => ?_
  by_cases hi : i = l
  · subst hi
    rw [List.getElem?_set_self (by simpa using hl)]
    simp [hl]
  · rw [List.getElem?_set_ne (fun z => hi z.symm), List.getElem?_map, List.getElem?_map]
    by_cases h : i < n
    · simp [h, hi]
    · simp [h]
theorem mkQ_zero (n : Nat) : (mkQ n fun _ => 0).map encQ = List.replicate n (encQ 0) := by
  unfold mkQ
  rw [List.map_map]
  refine List.ext_getElem? fun i => ?_
  by_cases h : i < n <;> simp [h]
theorem ixN_nat {n p : Nat} (hp : p < n) : L2.ixN n (p : Int) = some p := by
  unfold L2.ixN
  rw [if_pos (by omega), if_pos (by omega)]; simp
theorem encQ_w (w : Nat) : (PyData.tuple [.int (w : Nat), .int 1] : D) = encQ (w : Rat) := rfl
theorem Sm_w {w : Nat} (h : w ≤ 9) : Sm 4000 (w : Rat) := (Bq.int (d := 1) (m := 9) (i := (w : Int)) (by decide) (by simp; omega)).sm (by decide) (lt4000 (by decide)) (lt4000 (by decide))
def sst (f : Nat → Rat) (p : Mt × Rat) : Nat → Rat := fun k => f k + sgn p.1 k * ((p.1.w : Rat) * p.2)
theorem sst_fold : ∀ (zs : Zs) (f : Nat → Rat), zs.foldl sst f = fun k => f k + sur zs k
  | [], f => by funext k; simp only [List.foldl_nil, sur, List.map_nil, tot]; grind
  | z :: zs, f => by
    rw [List.foldl_cons, sst_fold zs]
    funext k
    simp only [sst, sur, List.map_cons, tot]
    grind
/-- a bound: d the denominator, m for a margin -/
theorem Bq_w {d m w : Nat} {q : Rat} (h : Bq d m q) (hw : w ≤ 9) (d0 : d ≠ 0) : Bq d (9 * m) ((w : Rat) * q) := by
  have h1 : Bq 1 9 ((w : Nat) : Rat) := Bq.int (i := (w : Int)) (by decide) (by simp; omega)
  have := h1.mul h
  rw [Nat.one_mul] at this
  exact this
theorem surplus_of_ok {s : Sc} (h : s.Ok) {qs : List Rat} {d m : Nat} (hl : qs.length = s.ms.length) (hq : ∀ q ∈ qs, Bq d m q) (d0 : d ≠ 0) (hd : d < 2 ^ 4000) (hm : 400 * m < 2 ^ 4000) : f_surplus_of [encS s, .tuple (qs.map encQ)] = ok (.list ((mkQ s.n (sur (s.ms.zip qs))).map encQ)) := by
  have h36 := h.len
  have h6 := h.n6
  obtain ⟨τ', e2, e3⟩ := forD_nx (g := gT (gs1 (gT (gs1 (gN 3) (gs1 (gN 4) (gs1 (gN 5) gs0)))) (gs1 (gN 6) gs0))) (b := b_surplus_of_1) (xs := (s.ms.zip qs).map fun p => PyData.tuple [encM p.1, encQ p.2]) (τ := [.d (encS s), .d (.tuple (qs.map encQ)), .o ((mkQ s.n fun _ => 0).map encQ), .u, .u, .u, .u, .u])
    (fun i τ => i ≤ 36 ∧ ∃ f v3 v4 v5 v6 v7, τ = [.d (encS s), .d (.tuple (qs.map encQ)), .o ((mkQ s.n f).map encQ), v3, v4, v5, v6, v7] ∧ f = ((s.ms.zip qs).take i).foldl sst (fun _ => 0) ∧ ∀ k, Bq d (9 * m * i) (f k)) ⟨by omega, _, _, _, _, _, _, rfl, rfl, fun k => Bq.zero⟩ (by
    rintro i x τ hx ⟨hi36, f, v3, v4, v5, v6, v7, rfl, hf, hB⟩
    rw [List.getElem?_map] at hx
    obtain ⟨p, hp, rfl⟩ := Option.map_eq_some_iff.mp hx
    have hil : i < (s.ms.zip qs).length := (List.getElem?_eq_some_iff.mp hp).1
    rw [List.length_zip] at hil
    have hpm := List.of_mem_zip (List.mem_of_getElem? hp)
    obtain ⟨r1, r2, r3, r4⟩ := h.rg p.1 hpm.1
    have hl' : p.1.l < s.n := by omega
    have bq := hq p.2 hpm.2
    have bw := Bq_w bq r4 d0
    have big : 9 * m * i ≤ 400 * m := by
      have : 9 * m * i ≤ 9 * m * 36 := Nat.mul_le_mul_left _ hi36
      omega
    have smw : Sm 4000 ((p.1.w : Rat) * p.2) := bw.sm d0 hd (by omega)
    have smf : ∀ k, Sm 4000 (f k) := fun k => (hB k).sm d0 hd (by omega)
    have sq : Sm 4000 p.2 := bq.sm d0 hd (by omega)
    have a1 := mkQ_ix f hl'
    have s1 := mkQ_set f p.1.l (f p.1.l + (p.1.w : Rat) * p.2) hl'
    have a2 := mkQ_ix (fun k => if k = p.1.l then f p.1.l + (p.1.w : Rat) * p.2 else f k) r2
    have s2 := mkQ_set (fun k => if k = p.1.l then f p.1.l + (p.1.w : Rat) * p.2 else f k) p.1.r (f p.1.r - (p.1.w : Rat) * p.2) r2
    rw [if_neg (show ¬ p.1.r = p.1.l by omega)] at a2
    have ef : (fun k => if k = p.1.r then f p.1.r - (p.1.w : Rat) * p.2 else (fun k => if k = p.1.l then f p.1.l + (p.1.w : Rat) * p.2 else f k) k) = sst f p := by
      funext k
      simp only [sst, sgn]
      by_cases k1 : k = p.1.r
      · subst k1; rw [if_pos rfl, if_neg (by omega), if_pos rfl]; grind
      · rw [if_neg k1]
        by_cases k2 : k = p.1.l
        · rw [if_pos k2, if_pos k2, k2]; grind
        · rw [if_neg k2, if_neg k2, if_neg k1]; grind
    rw [ef] at s2
    refine ⟨_, [.d (encS s), .d (.tuple (qs.map encQ)), .o ((mkQ s.n (sst f p)).map encQ), .d (iN p.1.l), .d (iN p.1.r), .d (iN p.1.w), .d (encQ p.2), .d (encQ ((p.1.w : Rat) * p.2))], rfl, .inl ?_, by omega, _, _, _, _, _, _, rfl, ?_, fun k => ?_⟩
    · have mo := multiply_ok (Sm_w r4) sq
      have ao := add_ok (smf p.1.l) smw
      have so := subtract_ok (smf p.1.r) smw
      unfold b_surplus_of_1
      simp only [iN, List.length_map, mkQ_len, encQ_w] at a1 a2 s1 s2 ⊢
      simp [runDef, initT, gSeq, gNil, gRet, gRetN, gSet, gSetO, gEx, gIf, gPar, gAsg, gFrz, frzT, gRaise, fCl, fCons, fNil, fB, fU, fN, fV, fC, fTr, fNo, fAnd, fOr, vAnd, vOr, fNoV, fIf, fTup, fLst, fFr, fCh, lft, truD, bnd, bndS, gN, gT, gs0, gs1, isiD, tyD, lenDs, absDs, minDs, maxDs, tupDs, addD, subD, negD, ltD, leD, gtD, geD, isN, notN, ixO, fOix, fOln, gApp, putO, gPut, seqD, fSq, fLs, optD, fSl, slD, ixD, atI_c0, atI_c1, atI_c2, atI_map, modD_ok, lenDs, fRg1, fRg2, mo, a1, ao, ixN_nat hl', ixN_nat r2, mkQ_len, s1, a2, so, s2, encQ_w]
    · rw [List.take_add_one, hp, hf]; simp
    · have hs : sgn p.1 k = 1 ∨ sgn p.1 k = -1 ∨ sgn p.1 k = 0 := by
        unfold sgn
        split
        · exact .inl rfl
        · split
          · exact .inr (.inl rfl)
          · exact .inr (.inr rfl)
      have : Bq d (9 * m) (sgn p.1 k * ((p.1.w : Rat) * p.2)) := by
        rcases hs with e | e | e <;> rw [e]
        · rw [Rat.one_mul]; exact bw
        · rw [show (-1 : Rat) * ((p.1.w : Rat) * p.2) = -((p.1.w : Rat) * p.2) by grind]; exact bw.neg
        · rw [Rat.zero_mul]; exact Bq.zero
      exact ((hB k).add this d0).le (by rw [Nat.mul_add]; omega))
  obtain ⟨_, f, v3, v4, v5, v6, v7, rfl, hf, _⟩ := e3
  have ef : f = sur (s.ms.zip qs) := by
    rw [hf, List.length_map, List.take_length, sst_fold]
    funext k
    grind
  subst ef
  unfold f_surplus_of g_surplus_of
  rw [← zipD_map, mkQ_zero] at e2
  simp only [encS] at e2 ⊢
  simp [runDef, initT, gSeq, gNil, gRet, gRetN, gSet, gSetO, gEx, gIf, gPar, gAsg, gFrz, frzT, gRaise, fCl, fCons, fNil, fB, fU, fN, fV, fC, fTr, fNo, fAnd, fOr, vAnd, vOr, fNoV, fIf, fTup, fLst, fFr, fCh, lft, truD, bnd, bndS, gN, gT, gs0, gs1, isiD, tyD, lenDs, absDs, minDs, maxDs, tupDs, addD, subD, negD, ltD, leD, gtD, geD, isN, notN, ixO, fOix, fOln, gApp, putO, gPut, seqD, fSq, fLs, optD, fSl, slD, ixD, atI_c0, atI_c1, atI_c2, atI_map, modD_ok, lenDs, fRg1, fRg2, fRep, kZERO, show s.n < 9223372036854775808 by omega, show s.n ≤ 100000 by omega, fZp, gFor, e2]
end LW
set_option Elab.async false
set_option linter.all false
set_option maxRecDepth 100000
set_option maxHeartbeats 4000000
/-! B2: the rows of the balance -/
namespace LW
open PySem DL LA
def rowQ (n : Nat) (A : Nat → Rat) (b : Rat) : List Rat := mkQ n A ++ [b]
def mtx (n : Nat) (A : Nat → Nat → Rat) (b : Nat → Rat) : List (List Rat) := (List.range n).map fun i => rowQ n (A i) (b i)
def encX (xss : List (List Rat)) : List (List D) := xss.map fun r => r.map encQ
theorem rowQ_len (n : Nat) (A : Nat → Rat) (b : Rat) : (rowQ n A b).length = n + 1 := by simp [rowQ, mkQ_len]
theorem rowQ_at {n : Nat} (A : Nat → Rat) (b : Rat) {j : Nat} (hj : j < n) : at_ (rowQ n A b) j = A j := by
  unfold rowQ at_
  rw [List.getD_eq_getElem?_getD, List.getElem?_append_left (by rw [mkQ_len]; exact hj), ← List.getD_eq_getElem?_getD]
  exact mkQ_at A hj
theorem rowQ_rs (n : Nat) (A : Nat → Rat) (b : Rat) : at_ (rowQ n A b) n = b := by
  unfold rowQ at_
  rw [List.getD_eq_getElem?_getD, List.getElem?_append_right (by rw [mkQ_len]; exact Nat.le_refl _), mkQ_len]
  simp
theorem rowQ_ix {n : Nat} (A : Nat → Rat) (b : Rat) {j : Nat} (hj : j < n) : L2.atI ((rowQ n A b).map encQ) (j : Int) = some (encQ (A j)) := by
  rw [atI_map, atI_nat (at_get (by rw [rowQ_len]; omega)), rowQ_at A b hj]; rfl
theorem mtx_row {n : Nat} (A : Nat → Nat → Rat) (b : Nat → Rat) {i : Nat} (hi : i < n) : (encX (mtx n A b))[i]? = some ((rowQ n (A i) (b i)).map encQ) := by
  unfold encX mtx
  simp [hi]
theorem mtx_len (n : Nat) (A : Nat → Nat → Rat) (b : Nat → Rat) : (encX (mtx n A b)).length = n := by simp [encX, mtx]
theorem rowQ_set {n : Nat} (A : Nat → Rat) (b v : Rat) {j : Nat} (hj : j < n) : ((rowQ n A b).map encQ).set j (encQ v) = (rowQ n (fun q => if q = j then v else A q) b).map encQ := by
  unfold rowQ
  rw [List.map_append, List.map_append, List.set_append_left _ _ (by rw [List.length_map, mkQ_len]; exact hj), mkQ_set A j v hj]
theorem mtx_put {n : Nat} (A : Nat → Nat → Rat) (b : Nat → Rat) {i j : Nat} (v : Rat) (hi : i < n) (hj : j < n) : (encX (mtx n A b)).set i (((rowQ n (A i) (b i)).map encQ).set j (encQ v)) = encX (mtx n (fun p q => if p = i ∧ q = j then v else A p q) b) := by
  rw [rowQ_set (A i) (b i) v hj]
  refine List.ext_getElem? fun k => ?_
  by_cases hk : k = i
  · subst hk
    rw [List.getElem?_set_self (by rw [mtx_len]; exact hi), mtx_row _ b hi]
    simp
  · rw [List.getElem?_set_ne (fun z => hk z.symm)]
    by_cases h : k < n
    · rw [mtx_row _ b h, mtx_row _ b h]
      simp [hk]
    · rw [List.getElem?_eq_none (by rw [mtx_len]; omega), List.getElem?_eq_none (by rw [mtx_len]; omega)]
def bpair (A : Nat → Nat → Rat) (x y : Nat) (w : Rat) : Nat → Nat → Rat := fun p q => if p = x ∧ q = y then A x y - w else if p = x ∧ q = x then A x x + w else A p q
theorem bal_pair {n : Nat} (A : Nat → Nat → Rat) (b : Nat → Rat) {x y w : Nat} (hx : x < n) (hy : y < n) (hxy : x ≠ y) (hw : w ≤ 9) (h1 : Sm 4000 (A x x)) (h2 : Sm 4000 (A x y)) (v0 v1 v3 v4 v8 v9 : SV) :
    b_balance_rows_2 [v0, v1, .m (encX (mtx n A b)), v3, v4, .d (iN w), .d (iN x), .d (iN y), v8, v9] = some (.nx [v0, v1, .m (encX (mtx n (bpair A x y w) b)), v3, v4, .d (iN w), .d (iN x), .d (iN y), v8, v9]) := by
  have r1 := mtx_row A b hx
  have p1 := mtx_put A b (A x x + (w : Rat)) hx hx
  obtain ⟨A', hA'⟩ : ∃ A', A' = fun p q => if p = x ∧ q = x then A x x + (w : Rat) else A p q := ⟨_, rfl⟩
  rw [← hA'] at p1
  have r2 := mtx_row A' b hx
  have e2 : A' x y = A x y := by rw [hA']; simp [hxy.symm]
  have p2 := mtx_put A' b (A x y - (w : Rat)) hx hy
  have eb : (fun p q => if p = x ∧ q = y then A x y - (w : Rat) else A' p q) = bpair A x y w := by rw [hA']; rfl
  rw [eb] at p2
  have i1 := rowQ_ix (A x) (b x) hx
  have i2 := rowQ_ix (A' x) (b x) hy
  rw [e2] at i2
  have ao := add_ok h1 (Sm_w hw)
  have so := subtract_ok h2 (Sm_w hw)
  have ax : L2.atI (encX (mtx n A b)) (x : Int) = some ((rowQ n (A x) (b x)).map encQ) := atI_nat r1
  have ax' : L2.atI (encX (mtx n A' b)) (x : Int) = some ((rowQ n (A' x) (b x)).map encQ) := atI_nat r2
  unfold b_balance_rows_2
  simp only [iN] at *
  simp [runDef, initT, gSeq, gNil, gRet, gRetN, gSet, gSetO, gEx, gIf, gPar, gAsg, gFrz, frzT, gRaise, fCl, fCons, fNil, fB, fU, fN, fV, fC, fTr, fNo, fAnd, fOr, vAnd, vOr, fNoV, fIf, fTup, fLst, fFr, fCh, lft, truD, bnd, bndS, gN, gT, gs0, gs1, isiD, tyD, lenDs, absDs, minDs, maxDs, tupDs, addD, subD, negD, ltD, leD, gtD, geD, isN, notN, ixO, fOix, fOln, gApp, putO, gPut, seqD, fSq, fLs, optD, fSl, slD, ixD, atI_c0, atI_c1, atI_c2, atI_map, modD_ok, lenDs, fRg1, fRg2, gPutM, fMix, ax, i1, encQ_w, ao, mtx_len, ixN_nat hx, ixN_nat hy, r1, rowQ_len, ixN_nat (show x < n + 1 by omega), ixN_nat (show y < n + 1 by omega), p1, ax', i2, so, r2, p2]
/-- the weighted incidences -/
def lap (ms : List Mt) (i j : Nat) : Rat := tot (ms.map fun m => (m.w : Rat) * (sgn m i * sgn m j))
def bst (A : Nat → Nat → Rat) (m : Mt) : Nat → Nat → Rat := fun i j => A i j + (m.w : Rat) * (sgn m i * sgn m j)
theorem bst_fold : ∀ (ms : List Mt) (A : Nat → Nat → Rat), ms.foldl bst A = fun i j => A i j + lap ms i j
  | [], A => by funext i j; simp only [List.foldl_nil, lap, List.map_nil, tot]; grind
  | m :: ms, A => by
    rw [List.foldl_cons, bst_fold ms]
    funext i j
    simp only [bst, lap, List.map_cons, tot]
    grind
theorem bst_pair (A : Nat → Nat → Rat) {m : Mt} (h : m.l ≠ m.r) : bpair (bpair A m.l m.r m.w) m.r m.l m.w = bst A m := by
  funext p q
  simp only [bpair, bst, sgn]
  by_cases a1 : p = m.l <;> by_cases a2 : p = m.r <;> by_cases a3 : q = m.l <;> by_cases a4 : q = m.r <;> simp [a1, a2, a3, a4, h, h.symm] <;> grind
def ind (g : List Nat) (j : Nat) : Rat := if j ∈ g then 1 else 0
/-- all rows -/
def balRows (s : Sc) (b : Nat → Rat) : List (List Rat) := mtx s.n (lap s.ms) b ++ (groups s).map fun g => rowQ s.n (ind g) 0
theorem in_grp (j : Nat) (g : List Nat) : inD (iN j) (encL g) = some (.bool (decide (j ∈ g))) := by
  have hsh : SeqAt.shaped (iN j) = true := (plInt _).sh
  have hsh2 : SeqAt.shaped (encL g) = true := (plLst (plMap (k := 0) (fun k => plInt _) g)).sh
  unfold encL at *
  show (if (SeqAt.shaped (iN j) && SeqAt.shaped (PyData.list (g.map iN))) = true then some (PyData.bool ((g.map iN).any fun z => z.eqv (iN j))) else none) = _
  rw [hsh, hsh2]
  simp only [Bool.and_self, if_true, Option.some.injEq, PyData.bool.injEq]
  rw [Bool.eq_iff_iff, List.any_eq_true, decide_eq_true_iff]
  constructor
  · rintro ⟨z, hz, he⟩
    obtain ⟨k, hk, rfl⟩ := List.mem_map.mp hz
    unfold iN at he
    rw [eqv_int] at he
    have : k = j := by have := of_decide_eq_true he; omega
    exact this ▸ hk
  · intro hj
    exact ⟨iN j, List.mem_map.mpr ⟨j, hj, rfl⟩, by unfold iN; rw [eqv_int]; simp⟩
theorem groups_len (s : Sc) : (groups s).length ≤ s.n := by
  unfold groups roots
  rw [List.length_map]
  have := List.length_filter_le (fun p => decide (root s.ms p = p)) (List.range s.n)
  rw [List.length_range] at this
  exact this
theorem sgn_abs (m : Mt) (k : Nat) : sgn m k = 1 ∨ sgn m k = -1 ∨ sgn m k = 0 := by
  unfold sgn
  split
  · exact .inl rfl
  · split
    · exact .inr (.inl rfl)
    · exact .inr (.inr rfl)
theorem Bq.sgn' {d m : Nat} {q : Rat} (h : Bq d m q) (x : Mt) (k : Nat) : Bq d m (sgn x k * q) := by
  rcases sgn_abs x k with e | e | e <;> rw [e]
  · rw [Rat.one_mul]; exact h
  · rw [show (-1 : Rat) * q = -q by grind]; exact h.neg
  · rw [Rat.zero_mul]; exact Bq.zero
theorem bw_pair {w : Nat} (hw : w ≤ 9) (m : Mt) (i j : Nat) : Bq 1 9 ((w : Rat) * (sgn m i * sgn m j)) := by
  have h1 : Bq 1 9 ((w : Nat) : Rat) := Bq.int (i := (w : Int)) (by decide) (by simp; omega)
  have h2 := (h1.sgn' m i).sgn' m j
  rw [show (w : Rat) * (sgn m i * sgn m j) = sgn m j * (sgn m i * (w : Rat)) by grind]
  exact h2
theorem lap_bq : ∀ (ms : List Mt), (∀ m ∈ ms, m.w ≤ 9) → ∀ i j, Bq 1 (9 * ms.length) (lap ms i j)
  | [], _, i, j => Bq.zero
  | m :: ms, h, i, j => by
    have := (bw_pair (h m List.mem_cons_self) m i j).add (lap_bq ms (fun m hm => h m (List.mem_cons_of_mem _ hm)) i j) (by decide)
    exact this.le (by rw [List.length_cons]; omega)
theorem balance_ok {s : Sc} (h : s.Ok) (b : Nat → Rat) : f_balance_rows [encS s, .list ((mkQ s.n b).map encQ)] = ok (.list ((balRows s b).map encR)) := by
  have h36 := h.len
  have h6 := h.n6
  obtain ⟨S, hS⟩ : ∃ S : D, S = .list ((mkQ s.n b).map encQ) := ⟨_, rfl⟩
  -- the first rows
  have e0 : ∀ v3 v4 v5 v6 v7 v8, lcM (gN 9) e_balance_rows_1 [.d (encS s), .d S, .u, v3, v4, v5, v6, v7, v8, .u] (rngD 0 s.n) = some (encX (mtx s.n (fun _ _ => 0) b)) := by
    intro v3 v4 v5 v6 v7 v8
    have gen : ∀ xs : List Nat, (∀ x ∈ xs, x < s.n) → lcM (gN 9) e_balance_rows_1 [.d (encS s), .d S, .u, v3, v4, v5, v6, v7, v8, .u] (xs.map iN) = some (xs.map fun i => (rowQ s.n (fun _ => 0) (b i)).map encQ) := by
      intro xs
      induction xs with
      | nil => intro _; rfl
      | cons x xs ih =>
        intro hx
        have hx0 := hx x List.mem_cons_self
        have ih' := ih fun y hy => hx y (List.mem_cons_of_mem _ hy)
        have e1 : e_balance_rows_1 [.d (encS s), .d S, .u, v3, v4, v5, v6, v7, v8, .d (iN x)] = ok ((rowQ s.n (fun _ => 0) (b x)).map encQ) := by
          have := mkQ_ix b hx0
          rw [hS]
          unfold e_balance_rows_1
          simp [runDef, initT, gSeq, gNil, gRet, gRetN, gSet, gSetO, gEx, gIf, gPar, gAsg, gFrz, frzT, gRaise, fCl, fCons, fNil, fB, fU, fN, fV, fC, fTr, fNo, fAnd, fOr, vAnd, vOr, fNoV, fIf, fTup, fLst, fFr, fCh, lft, truD, bnd, bndS, gN, gT, gs0, gs1, isiD, tyD, lenDs, absDs, minDs, maxDs, tupDs, addD, subD, negD, ltD, leD, gtD, geD, isN, notN, ixO, fOix, fOln, gApp, putO, gPut, seqD, fSq, fLs, optD, fSl, slD, ixD, atI_c0, atI_c1, atI_c2, atI_map, modD_ok, lenDs, fRg1, fRg2, fCat, fRep, encS, kZERO, iN, this, show s.n < 9223372036854775808 by omega, show s.n ≤ 100000 by omega, show s.n ≤ 99999 by omega, rowQ, mkQ_zero]
        rw [List.map_cons, lcM, show gN 9 (iN x) [.d (encS s), .d S, .u, v3, v4, v5, v6, v7, v8, .u] = some [.d (encS s), .d S, .u, v3, v4, v5, v6, v7, v8, .d (iN x)] from rfl, Option.bind_some, e1, ih']
        rfl
    rw [rngD_map, gen _ fun x hx => List.mem_range.mp hx]
    unfold encX mtx
    rw [List.map_map]
    rfl
  -- the matches
  obtain ⟨τ1, e1, e1'⟩ := forD_nx (g := gT (gs1 (gN 3) (gs1 (gN 4) (gs1 (gN 5) gs0)))) (b := b_balance_rows_1) (xs := s.ms.map encM) (τ := [.d (encS s), .d S, .m (encX (mtx s.n (fun _ _ => 0) b)), .u, .u, .u, .u, .u, .u, .u])
    (fun i τ => i ≤ 36 ∧ ∃ A v3 v4 v5 v6 v7 v8 v9, τ = [.d (encS s), .d S, .m (encX (mtx s.n A b)), v3, v4, v5, v6, v7, v8, v9] ∧ A = (s.ms.take i).foldl bst (fun _ _ => 0) ∧ ∀ p q, Bq 1 (9 * i) (A p q)) ⟨by omega, _, _, _, _, _, _, _, _, rfl, rfl, fun p q => Bq.zero⟩ (by
    rintro i x τ hx ⟨hi36, A, v3, v4, v5, v6, v7, v8, v9, rfl, hA, hB⟩
    rw [List.getElem?_map] at hx
    obtain ⟨m, hm, rfl⟩ := Option.map_eq_some_iff.mp hx
    have hil : i < s.ms.length := (List.getElem?_eq_some_iff.mp hm).1
    obtain ⟨r1, r2, r3, r4⟩ := h.rg m (List.mem_of_getElem? hm)
    have hl : m.l < s.n := by omega
    have hne : m.l ≠ m.r := by omega
    have smA : ∀ p q, Sm 4000 (A p q) := fun p q => (hB p q).sm (by decide) (lt4000 (by decide)) (lt4000 (by omega))
    have b1 := bal_pair A b hl r2 hne r4 (smA _ _) (smA _ _) (.d (encS s)) (.d S) (.d (iN m.l)) (.d (iN m.r)) v8 v9
    have k1 : bpair A m.l m.r (m.w : Rat) m.r m.r = A m.r m.r := by simp [bpair, hne.symm]
    have k2 : bpair A m.l m.r (m.w : Rat) m.r m.l = A m.r m.l := by simp [bpair, hne.symm]
    have b2 := bal_pair (bpair A m.l m.r m.w) b r2 hl hne.symm r4 (by rw [k1]; exact smA _ _) (by rw [k2]; exact smA _ _) (.d (encS s)) (.d S) (.d (iN m.l)) (.d (iN m.r)) v8 v9
    rw [bst_pair A hne] at b2
    refine ⟨_, [.d (encS s), .d S, .m (encX (mtx s.n (bst A m) b)), .d (iN m.l), .d (iN m.r), .d (iN m.w), .d (iN m.r), .d (iN m.l), v8, v9], rfl, .inl ?_, by omega, _, _, _, _, _, _, _, _, rfl, ?_, fun p q => ?_⟩
    · unfold b_balance_rows_1
      simp only [iN] at b1 b2 ⊢
      simp [runDef, initT, gSeq, gNil, gRet, gRetN, gSet, gSetO, gEx, gIf, gPar, gAsg, gFrz, frzT, gRaise, fCl, fCons, fNil, fB, fU, fN, fV, fC, fTr, fNo, fAnd, fOr, vAnd, vOr, fNoV, fIf, fTup, fLst, fFr, fCh, lft, truD, bnd, bndS, gN, gT, gs0, gs1, isiD, tyD, lenDs, absDs, minDs, maxDs, tupDs, addD, subD, negD, ltD, leD, gtD, geD, isN, notN, ixO, fOix, fOln, gApp, putO, gPut, seqD, fSq, fLs, optD, fSl, slD, ixD, atI_c0, atI_c1, atI_c2, atI_map, modD_ok, lenDs, fRg1, fRg2, gFor, forD, b1, b2]
    · rw [List.take_add_one, hm, hA]; simp
    · exact ((hB p q).add (bw_pair r4 m p q) (by decide)).le (by omega))
  obtain ⟨_, A, v3, v4, v5, v6, v7, v8, v9, rfl, hA, _⟩ := e1'
  have eA : A = lap s.ms := by
    rw [hA, List.length_map, List.take_length, bst_fold]
    funext i j
    grind
  subst eA
  -- the groups
  have gl := groups_len s
  obtain ⟨τ2, e2, e2'⟩ := forD_nx (g := gN 8) (b := b_balance_rows_3) (xs := (groups s).map encL) (τ := [.d (encS s), .d S, .m (encX (mtx s.n (lap s.ms) b)), v3, v4, v5, v6, v7, v8, v9])
    (fun i τ => ∃ v3 v4 v5 v6 v7 v8 v9, τ = [.d (encS s), .d S, .m (encX (mtx s.n (lap s.ms) b ++ ((groups s).take i).map fun g => rowQ s.n (ind g) 0)), v3, v4, v5, v6, v7, v8, v9]) ⟨v3, v4, v5, v6, v7, v8, v9, by simp⟩ (by
    rintro i x τ hx ⟨v3, v4, v5, v6, v7, v8, v9, rfl⟩
    rw [List.getElem?_map] at hx
    obtain ⟨g, hg, rfl⟩ := Option.map_eq_some_iff.mp hx
    have hil : i < (groups s).length := (List.getElem?_eq_some_iff.mp hg).1
    obtain ⟨xss, hxss⟩ : ∃ xss, xss = encX (mtx s.n (lap s.ms) b ++ ((groups s).take i).map fun g => rowQ s.n (ind g) 0) := ⟨_, rfl⟩
    have hxl : xss.length < 100000 := by
      rw [hxss]
      simp [encX, mtx]
      omega
    rw [← hxss]
    have ec : lcD (gN 9) fYes e_balance_rows_2 [.d (encS s), .d S, .m xss, v3, v4, v5, v6, v7, .d (encL g), .u] (rngD 0 s.n) = some ((mkQ s.n (ind g)).map encQ) := by
      rw [rngD_map]
      unfold mkQ
      rw [List.map_map]
      refine lcD_all (f := iN) (r := encQ ∘ ind g) (List.range s.n) fun p hp => ⟨_, rfl, ?_⟩
      unfold e_balance_rows_2
      by_cases hpg : p ∈ g
      · simp [runDef, initT, gSeq, gNil, gRet, gRetN, gSet, gSetO, gEx, gIf, gPar, gAsg, gFrz, frzT, gRaise, fCl, fCons, fNil, fB, fU, fN, fV, fC, fTr, fNo, fAnd, fOr, vAnd, vOr, fNoV, fIf, fTup, fLst, fFr, fCh, lft, truD, bnd, bndS, gN, gT, gs0, gs1, isiD, tyD, lenDs, absDs, minDs, maxDs, tupDs, addD, subD, negD, ltD, leD, gtD, geD, isN, notN, ixO, fOix, fOln, gApp, putO, gPut, seqD, fSq, fLs, optD, fSl, slD, ixD, atI_c0, atI_c1, atI_c2, atI_map, modD_ok, lenDs, fRg1, fRg2, in_grp, hpg, kONE, ind]
      · simp [runDef, initT, gSeq, gNil, gRet, gRetN, gSet, gSetO, gEx, gIf, gPar, gAsg, gFrz, frzT, gRaise, fCl, fCons, fNil, fB, fU, fN, fV, fC, fTr, fNo, fAnd, fOr, vAnd, vOr, fNoV, fIf, fTup, fLst, fFr, fCh, lft, truD, bnd, bndS, gN, gT, gs0, gs1, isiD, tyD, lenDs, absDs, minDs, maxDs, tupDs, addD, subD, negD, ltD, leD, gtD, geD, isN, notN, ixO, fOix, fOln, gApp, putO, gPut, seqD, fSq, fLs, optD, fSl, slD, ixD, atI_c0, atI_c1, atI_c2, atI_map, modD_ok, lenDs, fRg1, fRg2, in_grp, hpg, kZERO, ind]
    refine ⟨_, [.d (encS s), .d S, .m (xss ++ [(rowQ s.n (ind g) 0).map encQ]), v3, v4, v5, v6, v7, .d (encL g), v9], rfl, .inl ?_, v3, v4, v5, v6, v7, .d (encL g), v9, ?_⟩
    · unfold b_balance_rows_3
      simp only [encS] at ec ⊢
      simp [runDef, initT, gSeq, gNil, gRet, gRetN, gSet, gSetO, gEx, gIf, gPar, gAsg, gFrz, frzT, gRaise, fCl, fCons, fNil, fB, fU, fN, fV, fC, fTr, fNo, fAnd, fOr, vAnd, vOr, fNoV, fIf, fTup, fLst, fFr, fCh, lft, truD, bnd, bndS, gN, gT, gs0, gs1, isiD, tyD, lenDs, absDs, minDs, maxDs, tupDs, addD, subD, negD, ltD, leD, gtD, geD, isN, notN, ixO, fOix, fOln, gApp, putO, gPut, seqD, fSq, fLs, optD, fSl, slD, ixD, atI_c0, atI_c1, atI_c2, atI_map, modD_ok, lenDs, fRg1, fRg2, gAppM, fCat, fLc, rng_of (show s.n < 2 ^ 62 by omega), rngD_len, show s.n ≤ 100000 by omega, wipeT, ec, mkQ_len, show s.n ≤ 99999 by omega, hxl, kZERO, rowQ]
    · rw [List.take_add_one, hg, hxss]
      simp [encX])
  obtain ⟨w3, w4, w5, w6, w7, w8, w9, rfl⟩ := e2'
  rw [List.length_map, List.take_length] at e2
  have hg := groups_of_ok h
  unfold f_balance_rows g_balance_rows
  rw [← hS]
  simp only [encS] at e0 e1 e2 hg ⊢
  simp [runDef, initT, gSeq, gNil, gRet, gRetN, gSet, gSetO, gEx, gIf, gPar, gAsg, gFrz, frzT, gRaise, fCl, fCons, fNil, fB, fU, fN, fV, fC, fTr, fNo, fAnd, fOr, vAnd, vOr, fNoV, fIf, fTup, fLst, fFr, fCh, lft, truD, bnd, bndS, gN, gT, gs0, gs1, isiD, tyD, lenDs, absDs, minDs, maxDs, tupDs, addD, subD, negD, ltD, leD, gtD, geD, isN, notN, ixO, fOix, fOln, gApp, putO, gPut, seqD, fSq, fLs, optD, fSl, slD, ixD, atI_c0, atI_c1, atI_c2, atI_map, modD_ok, lenDs, fRg1, fRg2, gSetM, fLcM, rng_of (show s.n < 2 ^ 62 by omega), rngD_len, show s.n ≤ 100000 by omega, wipeT, e0, gFor, e1, hg, e2, gFrzM, frzMT]
  unfold encX balRows
  rw [List.map_map]
  rfl
/-! ### solved -/
theorem szA_mono (a : Nat) {k l : Nat} (h : k ≤ l) : szA a k ≤ szA a l := by
  induction l with
  | zero => rw [Nat.le_zero.mp h]; exact Nat.le_refl _
  | succ l ih =>
    by_cases e : k = l + 1
    · rw [e]; exact Nat.le_refl _
    · have := ih (by omega)
      simp only [szA]; omega
theorem szB_mono (a b : Nat) {k l : Nat} (h : k ≤ l) : szB a b k ≤ szB a b l := by
  induction l with
  | zero => rw [Nat.le_zero.mp h]; exact Nat.le_refl _
  | succ l ih =>
    by_cases e : k = l + 1
    · rw [e]; exact Nat.le_refl _
    · have := ih (by omega)
      simp only [szB]; omega
theorem solve_sz {rows : List (List Rat)} {n a b e E K : Nat} (hl : ∀ r ∈ rows, r.length = n + 1) (he : e ≠ 0) (hE : e ≤ 2 ^ E) (hb : Sz0 n a b e rows) (hK : (stc rows n).2.length ≤ K) : ∃ D, D ≠ 0 ∧ D ≤ 2 ^ szA a K ∧ ∀ j, Bq (D * e) (2 ^ szB a b K) (at_ (LA.solve rows n) j) := by
  have I := erun_inv hl n (Nat.le_refl n)
  obtain ⟨d, d0, dl, _, S2⟩ := (stc_sz hl he hb n (Nat.le_refl n)).ex
  refine ⟨d, d0, Nat.le_trans dl (pow_le (szA_mono a hK)), fun j => ?_⟩
  by_cases hx : ∃ q ∈ elim rows n, q.1 = j
  · obtain ⟨q, hq, rfl⟩ := hx
    have := put_own n (elim rows n) (List.replicate n 0) (List.length_replicate ..) I.pw q hq (I.lt q hq)
    rw [show at_ (LA.solve rows n) q.1 = at_ q.2 n from this]
    exact (S2 q hq).rs.le (pow_le (szB_mono a b hK))
  · have := put_other n (elim rows n) (List.replicate n 0) j fun e he hz => hx ⟨e, he, hz⟩
    rw [show at_ (LA.solve rows n) j = at_ (List.replicate n 0) j from this]
    have z : at_ (List.replicate n 0) j = 0 := by
      unfold at_
      rw [List.getD_eq_getElem?_getD, List.getElem?_replicate]
      split <;> rfl
    rw [z]
    exact Bq.zero
theorem balRows_len (s : Sc) (b : Nat → Rat) : ∀ r ∈ balRows s b, r.length = s.n + 1 := by
  intro r hr
  rcases List.mem_append.mp hr with h | h
  · obtain ⟨i, _, rfl⟩ := List.mem_map.mp h
    exact rowQ_len ..
  · obtain ⟨g, _, rfl⟩ := List.mem_map.mp h
    exact rowQ_len ..
theorem bal_sz0 {s : Sc} (h : s.Ok) {b : Nat → Rat} {e B : Nat} (hb : ∀ k, Bq e (2 ^ B) (b k)) : Sz0 s.n 9 B e (balRows s b) := by
  have h36 := h.len
  refine ⟨1, by decide, by decide, fun r hr => ?_⟩
  rcases List.mem_append.mp hr with h' | h'
  · obtain ⟨i, _, rfl⟩ := List.mem_map.mp h'
    refine ⟨fun j hj => ?_, ?_⟩
    · rw [rowQ_at _ _ hj]
      exact (lap_bq s.ms (fun m hm => (h.rg m hm).2.2.2) i j).le (by omega)
    · rw [rowQ_rs, Nat.one_mul]; exact hb i
  · obtain ⟨g, _, rfl⟩ := List.mem_map.mp h'
    refine ⟨fun j hj => ?_, ?_⟩
    · rw [rowQ_at _ _ hj]
      unfold ind
      split
      · exact Bq.int (d := 1) (i := 1) (by decide) (by decide)
      · exact Bq.zero
    · rw [rowQ_rs]; exact Bq.zero
theorem szok9 {B E k : Nat} (h : B + E ≤ 2900) (hk : k < 6) : SzOk 9 B E k := by
  have : k = 0 ∨ k = 1 ∨ k = 2 ∨ k = 3 ∨ k = 4 ∨ k = 5 := by omega
  unfold SzOk
  rcases this with rfl | rfl | rfl | rfl | rfl | rfl <;> simp only [szA, szB] <;> omega
/-- the solution of the balance -/
def bal (s : Sc) (b : Nat → Rat) : Nat → Rat := at_ (LA.solve (balRows s b) s.n)
theorem bal_list (s : Sc) (b : Nat → Rat) : LA.solve (balRows s b) s.n = mkQ s.n (bal s b) := by
  have hl := solve_len (balRows s b) s.n
  refine List.ext_getElem? fun i => ?_
  by_cases hi : i < s.n
  · rw [at_get (by rw [hl]; exact hi)]
    unfold mkQ
    simp [hi]
    rfl
  · rw [List.getElem?_eq_none (by omega), List.getElem?_eq_none (by rw [mkQ_len]; omega)]
theorem bal_solve {s : Sc} (h : s.Ok) {b : Nat → Rat} {e E B : Nat} (he : e ≠ 0) (hE : e ≤ 2 ^ E) (hb : ∀ k, Bq e (2 ^ B) (b k)) (hz : B + E ≤ 2900) :
    f_solve [.list ((balRows s b).map encR), .int (s.n : Nat)] = ok (encR (mkQ s.n (bal s b))) ∧ ∃ D, D ≠ 0 ∧ D ≤ 2 ^ 639 ∧ ∀ j, Bq (D * e) (2 ^ (B + 630)) (bal s b j) := by
  have h6 := h.n6
  have gl := groups_len s
  have hlen : (balRows s b).length < 1000 := by
    unfold balRows mtx
    simp
    omega
  have hK : ∀ c, c ≤ s.n → (stc (balRows s b) c).2.length ≤ 6 := fun c hc => by
    have := (stc_len (balRows s b) c).2
    omega
  have r := solve_data (balRows_len s b) (by omega) hlen he hE (bal_sz0 h hb) hK fun k hk => szok9 hz hk
  rw [bal_list] at r
  refine ⟨r, ?_⟩
  obtain ⟨D, D0, Dl, hD⟩ := solve_sz (balRows_len s b) he hE (bal_sz0 h hb) (hK s.n (Nat.le_refl _))
  have a6 : szA 9 6 = 639 := rfl
  have b6 : szB 9 B 6 = B + 630 := by simp only [szA, szB]; omega
  rw [a6] at Dl
  rw [b6] at hD
  exact ⟨D, D0, Dl, hD⟩
theorem sur_bq : ∀ (zs : Zs) {d m : Nat}, (∀ p ∈ zs, p.1.w ≤ 9 ∧ Bq d m p.2) → d ≠ 0 → ∀ k, Bq d (9 * m * zs.length) (sur zs k)
  | [], d, m, _, _, k => Bq.zero
  | z :: zs, d, m, h, d0, k => by
    have h1 := h z List.mem_cons_self
    have := ((Bq_w h1.2 h1.1 d0).sgn' z.1 k).add (sur_bq zs (fun p hp => h p (List.mem_cons_of_mem _ hp)) d0 k) d0
    exact this.le (by rw [List.length_cons, Nat.mul_add]; omega)
/-- the strengths -/
def fit (s : Sc) (qs : List Rat) : Nat → Rat := bal s (sur (s.ms.zip qs))
theorem fitted_ok {s : Sc} (h : s.Ok) {qs : List Rat} {d m E B : Nat} (hl : qs.length = s.ms.length) (hq : ∀ q ∈ qs, Bq d m q) (d0 : d ≠ 0) (hE : d ≤ 2 ^ E) (hm : 400 * m ≤ 2 ^ B) (hz : B + E ≤ 2900) :
    f_fitted [encS s, .tuple (qs.map encQ)] = ok (.tuple ((mkQ s.n (fit s qs)).map encQ)) ∧ ∃ D, D ≠ 0 ∧ D ≤ 2 ^ 639 ∧ ∀ j, Bq (D * d) (2 ^ (B + 630)) (fit s qs j) := by
  have h36 := h.len
  have p4 : ∀ {x : Nat}, x ≤ 2900 → (2 : Nat) ^ x < 2 ^ 4000 := fun hx => Nat.pow_lt_pow_right (by decide) (by omega)
  have so := surplus_of_ok h hl hq d0 (Nat.lt_of_le_of_lt hE (p4 (by omega))) (Nat.lt_of_le_of_lt hm (p4 (by omega)))
  have hb : ∀ k, Bq d (2 ^ B) (sur (s.ms.zip qs) k) := fun k => by
    refine (sur_bq (s.ms.zip qs) (m := m) (fun p hp => ?_) d0 k).le ?_
    · have := List.of_mem_zip hp
      exact ⟨(h.rg p.1 this.1).2.2.2, hq p.2 this.2⟩
    · rw [List.length_zip]
      have : 9 * m * min s.ms.length qs.length ≤ 9 * m * 36 := Nat.mul_le_mul_left _ (by omega)
      omega
  obtain ⟨r, R⟩ := bal_solve h d0 hE hb hz
  refine ⟨?_, R⟩
  have bo := balance_ok h (sur (s.ms.zip qs))
  unfold f_fitted g_fitted
  have hn := encS_n s
  simp only [encS] at so bo hn ⊢
  simp only [encR] at r
  simp [runDef, initT, gSeq, gNil, gRet, gRetN, gSet, gSetO, gEx, gIf, gPar, gAsg, gFrz, frzT, gRaise, fCl, fCons, fNil, fB, fU, fN, fV, fC, fTr, fNo, fAnd, fOr, vAnd, vOr, fNoV, fIf, fTup, fLst, fFr, fCh, lft, truD, bnd, bndS, gN, gT, gs0, gs1, isiD, tyD, lenDs, absDs, minDs, maxDs, tupDs, addD, subD, negD, ltD, leD, gtD, geD, isN, notN, ixO, fOix, fOln, gApp, putO, gPut, seqD, fSq, fLs, optD, fSl, slD, ixD, atI_c0, atI_c1, atI_c2, atI_map, modD_ok, lenDs, fRg1, fRg2, so, bo, r, fit]
end LW
set_option Elab.async false
set_option linter.all false
set_option maxRecDepth 100000
set_option maxHeartbeats 4000000
/-! E3: one denominator for all right sides -/
namespace LW
open LA
/-- the next denominator -/
def nxt (st : Es) (c d : Nat) : Nat := match st.1.find? (fun r => decide (at_ r c ≠ 0)) with
  | none => d
  | some p => d * (at_ p c * (d : Rat)).num.natAbs
def dsq (rows : List (List Rat)) (d : Nat) : Nat → Nat
  | 0 => d
  | c + 1 => nxt (stc rows c) c (dsq rows d c)
/-- alike in the coefficients -/
def CoR (n : Nat) (r r' : List Rat) : Prop := r.length = r'.length ∧ ∀ j, j < n → at_ r j = at_ r' j
inductive Co1 (n : Nat) : List (List Rat) → List (List Rat) → Prop
  | nil : Co1 n [] []
  | cons {r r' : List Rat} {l l' : List (List Rat)} : CoR n r r' → Co1 n l l' → Co1 n (r :: l) (r' :: l')
theorem Co1.find {n c : Nat} (hc : c < n) {l l' : List (List Rat)} (h : Co1 n l l') : (l.find? (fun r => decide (at_ r c ≠ 0)) = none ∧ l'.find? (fun r => decide (at_ r c ≠ 0)) = none) ∨
    ∃ p p', l.find? (fun r => decide (at_ r c ≠ 0)) = some p ∧ l'.find? (fun r => decide (at_ r c ≠ 0)) = some p' ∧ CoR n p p' ∧ Co1 n (l.erase p) (l'.erase p') := by
  induction h with
  | nil => exact .inl ⟨rfl, rfl⟩
  | @cons r r' l l' h t ih =>
    by_cases e : at_ r c = 0
    · have e' : at_ r' c = 0 := by rw [← h.2 c hc]; exact e
      rcases ih with ⟨h1, h2⟩ | ⟨p, p', h1, h2, h3, h4⟩
      · left; rw [List.find?_cons_of_neg (by simp [e]), List.find?_cons_of_neg (by simp [e'])]; exact ⟨h1, h2⟩
      · right
        have hp : at_ p c ≠ 0 := by have := List.find?_some h1; simpa using this
        have hp' : at_ p' c ≠ 0 := by have := List.find?_some h2; simpa using this
        refine ⟨p, p', by rw [List.find?_cons_of_neg (by simp [e])]; exact h1, by rw [List.find?_cons_of_neg (by simp [e'])]; exact h2, h3, ?_⟩
        rw [List.erase_cons_tail (by simp; rintro rfl; exact hp e), List.erase_cons_tail (by simp; rintro rfl; exact hp' e')]
        exact .cons h h4
    · have e' : at_ r' c ≠ 0 := by rw [← h.2 c hc]; exact e
      right
      refine ⟨r, r', by simp [List.find?_cons, e], by simp [List.find?_cons, e'], h, ?_⟩
      rw [List.erase_cons_head, List.erase_cons_head]
      exact t
theorem Co1.map {n : Nat} {g g' : List Rat → List Rat} (hg : ∀ r r', CoR n r r' → CoR n (g r) (g' r')) {l l' : List (List Rat)} (h : Co1 n l l') : Co1 n (l.map g) (l'.map g') := by
  induction h with
  | nil => exact .nil
  | cons a t ih => exact .cons (hg _ _ a) ih
theorem CoR.nrm {n c : Nat} (hc : c < n) {p p' : List Rat} (h : CoR n p p') : CoR n (nrm p c) (nrm p' c) := ⟨by rw [nrm_len, nrm_len]; exact h.1, fun j hj => by rw [at_nrm, at_nrm, h.2 j hj, h.2 c hc]⟩
theorem CoR.clr {n c m : Nat} (hc : c < n) {r r' p p' : List Rat} (h : CoR n r r') (hp : CoR n p p') (l1 : r.length = m) (l2 : p.length = m) : CoR n (clr r p c) (clr r' p' c) := by
  refine ⟨?_, fun j hj => ?_⟩
  · rw [clr_len (by omega), clr_len (by rw [← h.1, ← hp.1]; omega)]; exact hp.1
  · rw [at_clr (by omega), at_clr (by rw [← h.1, ← hp.1]; omega), h.2 j hj, h.2 c hc, hp.2 j hj]
theorem Co1.mapL {n c m : Nat} (hc : c < n) {p p' : List Rat} (hp : CoR n p p') (l2 : p.length = m) {l l' : List (List Rat)} (h : Co1 n l l') (hl : ∀ r ∈ l, r.length = m) : Co1 n (l.map fun r => LA.clr r p c) (l'.map fun r => LA.clr r p' c) := by
  induction h with
  | nil => exact .nil
  | cons a t ih => exact .cons (a.clr hc hp (hl _ List.mem_cons_self) l2) (ih fun r hr => hl r (List.mem_cons_of_mem _ hr))
theorem stc_co {n : Nat} {rows rows' : List (List Rat)} (hl : ∀ r ∈ rows, r.length = n + 1) (h : Co1 n rows rows') : ∀ c, c ≤ n → Co1 n (stc rows c).1 (stc rows' c).1
  | 0, _ => h
  | c + 1, hc => by
    have ih := stc_co hl h c (by omega)
    have I := erun_inv hl c (by omega)
    rw [stc_succ, stc_succ]
    unfold estep
    rcases ih.find (c := c) (by omega) with ⟨h1, h2⟩ | ⟨p, p', h1, h2, h3, h4⟩
    · rw [h1, h2]; exact ih
    · rw [h1, h2]
      have lp : p.length = n + 1 := I.l1 p (List.mem_of_find?_eq_some h1)
      exact h4.mapL (m := n + 1) (by omega) (h3.nrm (by omega)) (by rw [nrm_len]; exact lp) fun r hr => I.l1 r (List.mem_of_mem_erase hr)
theorem dsq_co {n : Nat} {rows rows' : List (List Rat)} (hl : ∀ r ∈ rows, r.length = n + 1) (h : Co1 n rows rows') (d : Nat) : ∀ c, c ≤ n → dsq rows d c = dsq rows' d c
  | 0, _ => rfl
  | c + 1, hc => by
    have ih := dsq_co hl h d c (by omega)
    simp only [dsq]
    rw [ih]
    unfold nxt
    rcases (stc_co hl h c (by omega)).find (c := c) (by omega) with ⟨h1, h2⟩ | ⟨p, p', h1, h2, h3, _⟩
    · rw [h1, h2]
    · rw [h1, h2]
      simp only
      rw [h3.2 c (by omega)]
theorem bq_num {d m : Nat} {q : Rat} (h : Bq d m q) (d0 : d ≠ 0) : Bq d (q * (d : Rat)).num.natAbs q ∧ (q * (d : Rat)).num.natAbs ≤ m ∧ ∃ z : Int, q = (z : Rat) / (d : Rat) ∧ z.natAbs = (q * (d : Rat)).num.natAbs := by
  obtain ⟨z, e, hz⟩ := h.ex
  have e1 : q * (d : Rat) = (z : Rat) := by
    have := cast_ne d0
    rw [e]
    generalize (d : Rat) = x at *
    generalize (z : Rat) = y at *
    grind
  have e2 : (q * (d : Rat)).num = z := by rw [e1]; rfl
  rw [e2]
  exact ⟨Bq.mk' e (Nat.le_refl _), hz, z, e, rfl⟩
theorem BR.pivotK {n d e m r c : Nat} {p : List Rat} (h : BR n d e m r p) (hd : d ≠ 0) (he : e ≠ 0) (hc : c < n) (h0 : at_ p c ≠ 0) : ∃ k : Nat, k = (at_ p c * (d : Rat)).num.natAbs ∧ k ≠ 0 ∧ k ≤ m ∧ BR n (d * k) e (m * d) (r * d) (nrm p c) ∧
    ∀ row : List Rat, row.length = p.length → BR n d e m r row → BR n (d * k) e (2 * m * m) (2 * m * r) (clr row (nrm p c) c) := by
  obtain ⟨_, hP, P, eP, hPk⟩ := bq_num (h.co c hc) hd
  rw [← hPk] at hP
  have hP0 : P ≠ 0 := fun z => h0 (by rw [eP, z]; grind)
  have d0 := cast_ne hd
  have e0 := cast_ne he
  have P0 := icast_ne hP0
  obtain ⟨s, hs1, hs2⟩ : ∃ s : Int, s.natAbs = 1 ∧ ((P.natAbs : Nat) : Int) = s * P := by
    rcases Int.lt_or_gt_of_ne hP0 with hn | hn
    · exact ⟨-1, rfl, by omega⟩
    · exact ⟨1, rfl, by omega⟩
  have ss : (s : Rat) * (s : Rat) = 1 := by
    have : s = 1 ∨ s = -1 := by omega
    rcases this with rfl | rfl <;> simp <;> grind
  have s0 : (s : Rat) ≠ 0 := fun z => by rw [z] at ss; grind
  have k0 : P.natAbs ≠ 0 := by omega
  have kc : ((P.natAbs : Nat) : Rat) = (s : Rat) * (P : Rat) := by
    have := congrArg (fun z : Int => (z : Rat)) hs2
    rw [Rat.intCast_mul] at this
    exact this
  have am : ∀ (z : Int) {b : Nat}, z.natAbs ≤ b → (s * z).natAbs ≤ b := fun z b hz => by rw [Int.natAbs_mul, hs1, Nat.one_mul]; exact hz
  refine ⟨P.natAbs, hPk, k0, hP, ⟨fun j hj => ?_, ?_⟩, fun row hl hr => ⟨fun j hj => ?_, ?_⟩⟩
  · obtain ⟨Q, eQ, hQ⟩ := (h.co j hj).ex
    refine Bq.mk' (z := s * (Q * d)) ?_ (am _ (by rw [Int.natAbs_mul, Int.natAbs_natCast]; exact Nat.mul_le_mul_right d hQ))
    rw [at_nrm, eQ, eP, Rat.natCast_mul, kc, Rat.intCast_mul, Rat.intCast_mul, Rat.intCast_natCast]
    exact fid1 _ _ _ _ d0 P0 s0
  · obtain ⟨Q, eQ, hQ⟩ := h.rs.ex
    refine Bq.mk' (z := s * (Q * d)) ?_ (am _ (by rw [Int.natAbs_mul, Int.natAbs_natCast]; exact Nat.mul_le_mul_right d hQ))
    rw [at_nrm, eQ, eP, Rat.natCast_mul, Rat.natCast_mul, Rat.natCast_mul, kc, Rat.intCast_mul, Rat.intCast_mul, Rat.intCast_natCast]
    exact fid2 _ _ _ _ _ d0 P0 s0 e0
  · obtain ⟨Q, eQ, hQ⟩ := (h.co j hj).ex
    obtain ⟨U, eU, hU⟩ := (hr.co j hj).ex
    obtain ⟨V, eV, hV⟩ := (hr.co c hc).ex
    refine Bq.mk' (z := s * (U * P - V * Q)) ?_ (am _ (natAbs_sub2 U P V Q hU hP hV hQ))
    rw [at_clr (by rw [nrm_len]; exact hl), at_nrm, eQ, eP, eU, eV, Rat.natCast_mul, kc, Rat.intCast_mul, Rat.intCast_sub, Rat.intCast_mul, Rat.intCast_mul]
    exact fid3 _ _ _ _ _ _ d0 P0 s0
  · obtain ⟨Q, eQ, hQ⟩ := h.rs.ex
    obtain ⟨U, eU, hU⟩ := hr.rs.ex
    obtain ⟨V, eV, hV⟩ := (hr.co c hc).ex
    refine Bq.mk' (z := s * (U * P - V * Q)) ?_ (am _ (natAbs_sub2 U P V Q hU hP hV hQ))
    rw [at_clr (by rw [nrm_len]; exact hl), at_nrm, eQ, eP, eU, eV, Rat.natCast_mul, Rat.natCast_mul, Rat.natCast_mul, kc, Rat.intCast_mul, Rat.intCast_sub, Rat.intCast_mul, Rat.intCast_mul]
    exact fid4 _ _ _ _ _ _ _ d0 P0 s0 e0
structure SzD (n a b e d : Nat) (st : Es) : Prop where
  d0 : d ≠ 0
  dl : d ≤ 2 ^ szA a st.2.length
  s1 : ∀ r ∈ st.1, BR n d e (2 ^ szA a st.2.length) (2 ^ szB a b st.2.length) r
  s2 : ∀ p ∈ st.2, BR n d e (2 ^ szA a st.2.length) (2 ^ szB a b st.2.length) p.2
theorem SzD.step {orig : List (List Rat)} {n c a b e d : Nat} {st : Es} (he : e ≠ 0) (hc : c < n) (I : Inv orig n c st) (S : SzD n a b e d st) : SzD n a b e (nxt st c d) (estep st c) := by
  unfold estep nxt
  cases hf : st.1.find? (fun r => decide (at_ r c ≠ 0)) with
  | none => exact S
  | some p =>
    have hp : p ∈ st.1 := List.mem_of_find?_eq_some hf
    have hp0 : at_ p c ≠ 0 := by have := List.find?_some hf; simpa using this
    obtain ⟨d0, dl, S1, S2⟩ := S
    obtain ⟨k, hk, k0, kl, B1, B2⟩ := (S1 p hp).pivotK d0 he hc hp0
    have el : (((st.2.map fun x => (x.1, clr x.2 (nrm p c) c)) ++ [(c, nrm p c)]) : List (Nat × List Rat)).length = st.2.length + 1 := by simp
    simp only
    rw [← hk]
    refine ⟨Nat.mul_ne_zero d0 k0, ?_, ?_, ?_⟩
    · show d * k ≤ 2 ^ szA a (List.length _)
      rw [el]
      have h1 : d * k ≤ 2 ^ szA a st.2.length * 2 ^ szA a st.2.length := Nat.mul_le_mul dl kl
      rw [← Nat.pow_add] at h1
      exact Nat.le_trans h1 (pow_le (by simp only [szA]; omega))
    · intro r hr
      show BR n (d * k) e (2 ^ szA a (List.length _)) (2 ^ szB a b (List.length _)) r
      rw [el]
      obtain ⟨r', hr', rfl⟩ := List.mem_map.mp hr
      have hm := List.mem_of_mem_erase hr'
      refine (B2 r' (by rw [I.l1 r' hm, I.l1 p hp]) (S1 r' hm)).le ?_ ?_
      · simp only [szA]
        rw [show 2 * szA a st.2.length + 1 = 1 + szA a st.2.length + szA a st.2.length by omega, Nat.pow_add, Nat.pow_add]
        exact Nat.le_refl _
      · simp only [szB]
        rw [show szA a st.2.length + szB a b st.2.length + 1 = 1 + szA a st.2.length + szB a b st.2.length by omega, Nat.pow_add, Nat.pow_add]
        exact Nat.le_refl _
    · intro q hq
      show BR n (d * k) e (2 ^ szA a (List.length _)) (2 ^ szB a b (List.length _)) q.2
      rw [el]
      rcases List.mem_append.mp hq with h | h
      · obtain ⟨q', hq', rfl⟩ := List.mem_map.mp h
        refine (B2 q'.2 (by rw [I.l2 q' hq', I.l1 p hp]) (S2 q' hq')).le ?_ ?_
        · simp only [szA]
          rw [show 2 * szA a st.2.length + 1 = 1 + szA a st.2.length + szA a st.2.length by omega, Nat.pow_add, Nat.pow_add]
          exact Nat.le_refl _
        · simp only [szB]
          rw [show szA a st.2.length + szB a b st.2.length + 1 = 1 + szA a st.2.length + szB a b st.2.length by omega, Nat.pow_add, Nat.pow_add]
          exact Nat.le_refl _
      · rw [List.mem_singleton.mp h]
        refine B1.le ?_ ?_
        · have h1 : 2 ^ szA a st.2.length * d ≤ 2 ^ szA a st.2.length * 2 ^ szA a st.2.length := Nat.mul_le_mul_left _ dl
          rw [← Nat.pow_add] at h1
          exact Nat.le_trans h1 (pow_le (by simp only [szA]; omega))
        · have h1 : 2 ^ szB a b st.2.length * d ≤ 2 ^ szB a b st.2.length * 2 ^ szA a st.2.length := Nat.mul_le_mul_left _ dl
          rw [← Nat.pow_add] at h1
          exact Nat.le_trans h1 (pow_le (by simp only [szB]; omega))
theorem stc_szD {rows : List (List Rat)} {n a b e d : Nat} (hl : ∀ r ∈ rows, r.length = n + 1) (he : e ≠ 0) (d0 : d ≠ 0) (dl : d ≤ 2 ^ a) (hb : ∀ r ∈ rows, BR n d e (2 ^ a) (2 ^ b) r) : ∀ c, c ≤ n → SzD n a b e (dsq rows d c) (stc rows c)
  | 0, _ => ⟨d0, dl, hb, fun p hp => nomatch hp⟩
  | c + 1, hc => by
    rw [stc_succ]
    exact (stc_szD hl he d0 dl hb c (by omega)).step he (by omega) (erun_inv hl c (by omega))
/-! ### the balance -/
/-- the one denominator of a schedule -/
def dS (s : Sc) : Nat := dsq (balRows s fun _ => 0) 1 s.n
theorem bal_co (s : Sc) (b b' : Nat → Rat) : Co1 s.n (balRows s b) (balRows s b') := by
  have row : ∀ (A : Nat → Rat) (x y : Rat), CoR s.n (rowQ s.n A x) (rowQ s.n A y) := fun A x y => ⟨by rw [rowQ_len, rowQ_len], fun j hj => by rw [rowQ_at _ _ hj, rowQ_at _ _ hj]⟩
  unfold balRows mtx
  have h1 : ∀ xs : List Nat, Co1 s.n (xs.map fun i => rowQ s.n (lap s.ms i) (b i)) (xs.map fun i => rowQ s.n (lap s.ms i) (b' i)) := fun xs => by
    induction xs with
    | nil => exact .nil
    | cons x xs ih => exact .cons (row _ _ _) ih
  have h2 : ∀ gs : List (List Nat), Co1 s.n (gs.map fun g => rowQ s.n (ind g) 0) (gs.map fun g => rowQ s.n (ind g) 0) := fun gs => by
    induction gs with
    | nil => exact .nil
    | cons x xs ih => exact .cons (row _ _ _) ih
  have app : ∀ {l l' m m' : List (List Rat)}, Co1 s.n l l' → Co1 s.n m m' → Co1 s.n (l ++ m) (l' ++ m') := by
    intro l l' m m' h h'
    induction h with
    | nil => exact h'
    | cons a t ih => exact .cons a ih
  exact app (h1 _) (h2 _)
theorem dS_ok {s : Sc} (h : s.Ok) : dS s ≠ 0 ∧ dS s ≤ 2 ^ 639 := by
  have h6 := h.n6
  obtain ⟨d, d0, dl, hr⟩ := bal_sz0 h (b := fun _ => 0) (e := 1) (B := 0) fun k => Bq.zero
  have hr1 : ∀ r ∈ balRows s fun _ => 0, BR s.n 1 1 (2 ^ 9) (2 ^ 0) r := by
    have h36 := h.len
    intro r hr
    rcases List.mem_append.mp hr with h' | h'
    · obtain ⟨i, _, rfl⟩ := List.mem_map.mp h'
      refine ⟨fun j hj => ?_, ?_⟩
      · rw [rowQ_at _ _ hj]
        exact (lap_bq s.ms (fun m hm => (h.rg m hm).2.2.2) i j).le (by omega)
      · rw [rowQ_rs]; exact Bq.zero
    · obtain ⟨g, _, rfl⟩ := List.mem_map.mp h'
      refine ⟨fun j hj => ?_, ?_⟩
      · rw [rowQ_at _ _ hj]
        unfold ind
        split
        · exact Bq.int (d := 1) (i := 1) (by decide) (by decide)
        · exact Bq.zero
      · rw [rowQ_rs]; exact Bq.zero
  have S := stc_szD (balRows_len s fun _ => 0) (by decide) (by decide) (by decide) hr1 s.n (Nat.le_refl _)
  refine ⟨S.d0, Nat.le_trans S.dl (pow_le ?_)⟩
  have := (stc_len (balRows s fun _ => 0) s.n).2
  exact Nat.le_trans (szA_mono 9 (show (stc (balRows s fun _ => 0) s.n).2.length ≤ 6 by omega)) (by decide)
theorem bal_dS {s : Sc} (h : s.Ok) {b : Nat → Rat} {e B : Nat} (he : e ≠ 0) (hb : ∀ k, Bq e (2 ^ B) (b k)) : ∀ j, Bq (dS s * e) (2 ^ (B + 630)) (bal s b j) := by
  have h6 := h.n6
  have h36 := h.len
  have hr1 : ∀ r ∈ balRows s b, BR s.n 1 e (2 ^ 9) (2 ^ B) r := by
    intro r hr
    rcases List.mem_append.mp hr with h' | h'
    · obtain ⟨i, _, rfl⟩ := List.mem_map.mp h'
      refine ⟨fun j hj => ?_, ?_⟩
      · rw [rowQ_at _ _ hj]
        exact (lap_bq s.ms (fun m hm => (h.rg m hm).2.2.2) i j).le (by omega)
      · rw [rowQ_rs, Nat.one_mul]; exact hb i
    · obtain ⟨g, _, rfl⟩ := List.mem_map.mp h'
      refine ⟨fun j hj => ?_, ?_⟩
      · rw [rowQ_at _ _ hj]
        unfold ind
        split
        · exact Bq.int (d := 1) (i := 1) (by decide) (by decide)
        · exact Bq.zero
      · rw [rowQ_rs]; exact Bq.zero
  have S := stc_szD (balRows_len s b) he (by decide) (by decide) hr1 s.n (Nat.le_refl _)
  rw [dsq_co (balRows_len s b) (bal_co s b fun _ => 0) 1 s.n (Nat.le_refl _)] at S
  have I := erun_inv (balRows_len s b) s.n (Nat.le_refl _)
  have hK : (stc (balRows s b) s.n).2.length ≤ 6 := by have := (stc_len (balRows s b) s.n).2; omega
  have b6 : szB 9 B 6 = B + 630 := by simp only [szA, szB]; omega
  intro j
  unfold bal
  by_cases hx : ∃ q ∈ elim (balRows s b) s.n, q.1 = j
  · obtain ⟨q, hq, rfl⟩ := hx
    have := put_own s.n (elim (balRows s b) s.n) (List.replicate s.n 0) (List.length_replicate ..) I.pw q hq (I.lt q hq)
    rw [show at_ (LA.solve (balRows s b) s.n) q.1 = at_ q.2 s.n from this, ← b6]
    exact (S.s2 q hq).rs.le (pow_le (szB_mono 9 B hK))
  · have := put_other s.n (elim (balRows s b) s.n) (List.replicate s.n 0) j fun e he hz => hx ⟨e, he, hz⟩
    rw [show at_ (LA.solve (balRows s b) s.n) j = at_ (List.replicate s.n 0) j from this]
    have z : at_ (List.replicate s.n 0) j = 0 := by
      unfold at_
      rw [List.getD_eq_getElem?_getD, List.getElem?_replicate]
      split <;> rfl
    rw [z]
    exact Bq.zero
end LW
set_option Elab.async false
set_option linter.all false
set_option maxRecDepth 100000
set_option maxHeartbeats 4000000
/-! S1: strengths (plain) -/
namespace LW
open LA
/-- matches within n players -/
def MsOk (n : Nat) (ms : List Mt) : Prop := ∀ m ∈ ms, m.l < n ∧ m.r < n ∧ m.l ≠ m.r ∧ 1 ≤ m.w
theorem Sc.Ok.msok {s : Sc} (h : s.Ok) : MsOk s.n s.ms := fun m hm => by
  obtain ⟨a, b, c, _⟩ := h.rg m hm
  exact ⟨by omega, b, by omega, c⟩
def ZsOk (n : Nat) (zs : Zs) : Prop := ∀ p ∈ zs, p.1.l < n ∧ p.1.r < n ∧ p.1.l ≠ p.1.r ∧ 1 ≤ p.1.w
theorem zsok_zip {n : Nat} {ms : List Mt} (h : MsOk n ms) (qs : List Rat) : ZsOk n (ms.zip qs) := fun p hp => h p.1 (List.of_mem_zip hp).1
/-- the differences of x -/
def gr (ms : List Mt) (x : Nat → Rat) : Zs := ms.map fun m => (m, x m.l - x m.r)
theorem gr_ok {n : Nat} {ms : List Mt} (h : MsOk n ms) (x : Nat → Rat) : ZsOk n (gr ms x) := fun p hp => by
  obtain ⟨m, hm, rfl⟩ := List.mem_map.mp hp
  exact h m hm
theorem sgn_sum {n : Nat} {m : Mt} (h1 : m.l < n) (h2 : m.r < n) (h3 : m.l ≠ m.r) (x : Nat → Rat) : sm n (fun j => sgn m j * x j) = x m.l - x m.r := by
  have e : sm n (fun j => sgn m j * x j) = sm n (fun j => if j = m.l then x m.l else 0) - sm n (fun j => if j = m.r then x m.r else 0) := by
    rw [← sm_sub]
    refine sm_congr fun j _ => ?_
    simp only [sgn]
    by_cases a : j = m.l
    · rw [if_pos a, if_pos a, if_neg (by omega), a]; grind
    · rw [if_neg a, if_neg a]
      by_cases b : j = m.r
      · rw [if_pos b, if_pos b, b]; grind
      · rw [if_neg b, if_neg b]; grind
  rw [e, sm_one m.l h1 (fun j _ hne => if_neg hne), sm_one m.r h2 (fun j _ hne => if_neg hne), if_pos rfl, if_pos rfl]
theorem sm_tot {α : Type} (n : Nat) (f : α → Nat → Rat) : ∀ xs : List α, sm n (fun j => tot (xs.map fun a => f a j)) = tot (xs.map fun a => sm n (f a))
  | [] => sm_zero fun _ _ => rfl
  | a :: xs => by
    simp only [List.map_cons, tot]
    rw [sm_add, sm_tot n f xs]
theorem tot_congr {α : Type} {f g : α → Rat} {xs : List α} (h : ∀ a ∈ xs, f a = g a) : tot (xs.map f) = tot (xs.map g) := by rw [List.map_congr_left h]
theorem tot_mul {α : Type} (c : Rat) (f : α → Rat) : ∀ xs : List α, tot (xs.map fun a => c * f a) = c * tot (xs.map f)
  | [] => by simp only [List.map_nil, tot]; grind
  | a :: xs => by simp only [List.map_cons, tot]; rw [tot_mul c f xs]; grind
theorem tot_add {α : Type} (f g : α → Rat) : ∀ xs : List α, tot (xs.map fun a => f a + g a) = tot (xs.map f) + tot (xs.map g)
  | [] => by simp only [List.map_nil, tot]; grind
  | a :: xs => by simp only [List.map_cons, tot]; rw [tot_add f g xs]; grind
theorem tot_sub {α : Type} (f g : α → Rat) : ∀ xs : List α, tot (xs.map fun a => f a - g a) = tot (xs.map f) - tot (xs.map g)
  | [] => by simp only [List.map_nil, tot]; grind
  | a :: xs => by simp only [List.map_cons, tot]; rw [tot_sub f g xs]; grind
theorem tot_zero {α : Type} {f : α → Rat} {xs : List α} (h : ∀ a ∈ xs, f a = 0) : tot (xs.map f) = 0 := by
  induction xs with
  | nil => rfl
  | cons a xs ih => simp only [List.map_cons, tot]; rw [ih fun b hb => h b (List.mem_cons_of_mem _ hb), h a List.mem_cons_self]; grind
theorem tot_nonneg {α : Type} {f : α → Rat} {xs : List α} (h : ∀ a ∈ xs, 0 ≤ f a) : 0 ≤ tot (xs.map f) := by
  induction xs with
  | nil => exact Rat.le_refl
  | cons a xs ih => simp only [List.map_cons, tot]; have := ih fun b hb => h b (List.mem_cons_of_mem _ hb); have := h a List.mem_cons_self; grind
theorem tot_nonneg_zero {α : Type} {f : α → Rat} {xs : List α} (h : ∀ a ∈ xs, 0 ≤ f a) (e : tot (xs.map f) = 0) : ∀ a ∈ xs, f a = 0 := by
  induction xs with
  | nil => intro a ha; cases ha
  | cons b xs ih =>
    simp only [List.map_cons, tot] at e
    have h1 := tot_nonneg fun b hb => h b (List.mem_cons_of_mem _ hb)
    have h2 := h b List.mem_cons_self
    intro a ha
    rcases List.mem_cons.mp ha with rfl | ha
    · grind
    · exact ih (fun b hb => h b (List.mem_cons_of_mem _ hb)) (by grind) a ha
/-- the balance of x is the surplus of its differences -/
theorem lap_sum {n : Nat} {ms : List Mt} (h : MsOk n ms) (i : Nat) (x : Nat → Rat) : sm n (fun j => lap ms i j * x j) = sur (gr ms x) i := by
  have e : sm n (fun j => lap ms i j * x j) = sm n (fun j => tot (ms.map fun m => (m.w : Rat) * (sgn m i * sgn m j) * x j)) := by
    refine sm_congr fun j _ => ?_
    simp only [lap]
    rw [show tot (ms.map fun m => (m.w : Rat) * (sgn m i * sgn m j)) * x j = x j * tot (ms.map fun m => (m.w : Rat) * (sgn m i * sgn m j)) by grind, ← tot_mul]
    exact tot_congr fun m _ => by grind
  rw [e, sm_tot n (fun m j => (m.w : Rat) * (sgn m i * sgn m j) * x j)]
  simp only [sur, gr, List.map_map]
  refine tot_congr fun m hm => ?_
  obtain ⟨a, b, c, _⟩ := h m hm
  show _ = sgn m i * ((m.w : Rat) * (x m.l - x m.r))
  rw [← sgn_sum a b c x, show sgn m i * ((m.w : Rat) * sm n fun j => sgn m j * x j) = (sgn m i * (m.w : Rat)) * sm n fun j => sgn m j * x j by grind, ← sm_mul]
  exact sm_congr fun j _ => by grind
/-- summed by parts -/
theorem green {n : Nat} {zs : Zs} (h : ZsOk n zs) (y : Nat → Rat) : sm n (fun i => y i * sur zs i) = tot (zs.map fun p => (p.1.w : Rat) * p.2 * (y p.1.l - y p.1.r)) := by
  have e : sm n (fun i => y i * sur zs i) = sm n (fun i => tot (zs.map fun p => (p.1.w : Rat) * p.2 * (sgn p.1 i * y i))) := by
    refine sm_congr fun i _ => ?_
    simp only [sur]
    rw [← tot_mul]
    exact tot_congr fun p _ => by grind
  rw [e, sm_tot n (fun (p : Mt × Rat) i => (p.1.w : Rat) * p.2 * (sgn p.1 i * y i))]
  refine tot_congr fun p hp => ?_
  obtain ⟨a, b, c, _⟩ := h p hp
  rw [sm_mul, sgn_sum a b c]
theorem w_pos {w : Nat} (h : 1 ≤ w) : (0 : Rat) < (w : Rat) := by
  have : (0 : Rat) < ((w : Nat) : Rat) := by
    rw [show (0 : Rat) = ((0 : Nat) : Rat) from rfl]
    exact Rat.natCast_lt_natCast.mpr (by omega)
  exact this
theorem sq_nonneg (a : Rat) : 0 ≤ a * a := by
  rcases Rat.le_total (a := 0) (b := a) with h | h
  · exact Rat.mul_nonneg h h
  · have h' : 0 ≤ -a := by grind
    have := Rat.mul_nonneg h' h'
    grind
theorem sq_zero {a : Rat} (h : a * a = 0) : a = 0 := by
  rcases Rat.mul_eq_zero.mp h with h | h <;> exact h
/-- no surplus: no differences -/
theorem flat_of {n : Nat} {ms : List Mt} (h : MsOk n ms) {x : Nat → Rat} (h0 : ∀ i, i < n → sur (gr ms x) i = 0) : ∀ m ∈ ms, x m.l = x m.r := by
  have g := green (gr_ok h x) x
  rw [sm_zero fun i hi => by rw [h0 i hi]; grind] at g
  simp only [gr, List.map_map] at g
  intro m hm
  have hp : ∀ m ∈ ms, 0 ≤ (m.w : Rat) * (x m.l - x m.r) * (x m.l - x m.r) := fun m hm => by
    have := Rat.mul_nonneg (Rat.le_of_lt (w_pos (h m hm).2.2.2)) (sq_nonneg (x m.l - x m.r))
    grind
  have z := tot_nonneg_zero hp g.symm m hm
  have w0 := w_pos (h m hm).2.2.2
  have : (x m.l - x m.r) * (x m.l - x m.r) = 0 := by
    have z' : (m.w : Rat) * ((x m.l - x m.r) * (x m.l - x m.r)) = 0 := by grind
    rcases Rat.mul_eq_zero.mp z' with e | e
    · grind
    · exact e
  have := sq_zero this
  grind
/-- no differences: constant in each component -/
theorem flat_root {ms : List Mt} {x : Nat → Rat} (h : ∀ m ∈ ms, x m.l = x m.r) (p : Nat) : x p = x (root ms p) := by
  have := (root_inv ms).cl (fun q => x q = x p) (fun m hm => by rw [h m hm]) p
  exact (this.mp rfl).symm
/-- sums over one component -/
def csum (ms : List Mt) (n k : Nat) (b : Nat → Rat) : Rat := sm n fun i => if root ms i = k then b i else 0
theorem csum_const (ms : List Mt) (n k : Nat) (c : Rat) : csum ms n k (fun _ => c) = c * csum ms n k (fun _ => 1) := by
  unfold csum
  rw [← sm_mul]
  exact sm_congr fun i _ => by split <;> grind
theorem csum_one_pos {ms : List Mt} {n k : Nat} (hk : k < n) (hr : root ms k = k) : csum ms n k (fun _ => 1) ≠ 0 := by
  intro h
  have := sm_nonneg_zero (n := n) (f := fun i => if root ms i = k then (1 : Rat) else 0) (fun j _ => by split <;> decide) h k hk
  simp [hr] at this
theorem csum_split {ms : List Mt} {n : Nat} (y b : Nat → Rat) (h : ∀ k, csum ms n k b = 0) : sm n (fun i => y (root ms i) * b i) = 0 := by
  have e : sm n (fun i => y (root ms i) * b i) = sm n (fun i => sm n (fun k => y k * (if root ms i = k then b i else 0))) := by
    refine sm_congr fun i hi => ?_
    have hr : root ms i < n := by have := (root_inv ms).le i; omega
    rw [sm_one (root ms i) hr fun j _ hne => by rw [if_neg fun z => hne z.symm]; grind, if_pos rfl]
  rw [e, sm_swap]
  refine sm_zero fun k _ => ?_
  rw [sm_mul]
  have := h k
  unfold csum at this
  rw [this]; grind
/-- the surpluses add up to zero in each component -/
theorem sur_csum {n : Nat} {ms : List Mt} {zs : Zs} (h : ZsOk n zs) (hm : ∀ p ∈ zs, p.1 ∈ ms) (k : Nat) : csum ms n k (sur zs) = 0 := by
  have g := green h (fun i => if root ms i = k then (1 : Rat) else 0)
  have e : csum ms n k (sur zs) = sm n (fun i => (if root ms i = k then (1 : Rat) else 0) * sur zs i) := by
    unfold csum
    exact sm_congr fun i _ => by split <;> grind
  rw [e, g]
  refine tot_zero fun p hp => ?_
  rw [(root_inv ms).ed p.1 (hm p hp)]
  grind
theorem ind_grp {s : Sc} {k j : Nat} (hj : j < s.n) : ind (grp s k) j = if root s.ms j = k then 1 else 0 := by
  unfold ind grp
  by_cases h : root s.ms j = k
  · rw [if_pos (by rw [List.mem_filter]; exact ⟨List.mem_range.mpr hj, decide_eq_true h⟩), if_pos h]
  · rw [if_neg (by rw [List.mem_filter]; intro z; exact h (of_decide_eq_true z.2)), if_neg h]
theorem ind_sum {s : Sc} (k : Nat) (x : Nat → Rat) : sm s.n (fun j => ind (grp s k) j * x j) = csum s.ms s.n k x := by
  unfold csum
  refine sm_congr fun j hj => ?_
  rw [ind_grp hj]
  split <;> grind
/-- what the balance solves -/
structure BalOk (s : Sc) (b x : Nat → Rat) : Prop where
  bl : ∀ i, i < s.n → sur (gr s.ms x) i = b i
  gs : ∀ k, csum s.ms s.n k x = 0
theorem span_form {s : Sc} (b : Nat → Rat) {f : Nat → Rat} (h : Span (balRows s b) f) : ∃ y z : Nat → Rat, (∀ j, j < s.n → f j = sm s.n (fun i => y i * lap s.ms i j) + z (root s.ms j)) ∧ f s.n = sm s.n (fun i => y i * b i) := by
  induction h with
  | zero => exact ⟨fun _ => 0, fun _ => 0, fun j _ => by rw [sm_zero fun i _ => by grind]; grind, (sm_zero fun i _ => by grind).symm⟩
  | @add f r a hr _ ih =>
    obtain ⟨y, z, h1, h2⟩ := ih
    rcases List.mem_append.mp hr with hr | hr
    · obtain ⟨i0, hi0, rfl⟩ := List.mem_map.mp hr
      have hi0 := List.mem_range.mp hi0
      have up : ∀ g : Nat → Rat, sm s.n (fun i => (if i = i0 then y i + a else y i) * g i) = sm s.n (fun i => y i * g i) + a * g i0 := fun g => by
        have e : sm s.n (fun i => (if i = i0 then y i + a else y i) * g i) = sm s.n (fun i => y i * g i) + sm s.n (fun i => if i = i0 then a * g i else 0) := by
          rw [← sm_add]
          exact sm_congr fun i _ => by split <;> grind
        rw [e, sm_one i0 hi0 fun j _ hne => if_neg hne, if_pos rfl]
      refine ⟨fun i => if i = i0 then y i + a else y i, z, fun j hj => ?_, ?_⟩
      · show f j + a * at_ (rowQ s.n (lap s.ms i0) (b i0)) j = _
        rw [rowQ_at _ _ hj, h1 j hj, up fun i => lap s.ms i j]; grind
      · show f s.n + a * at_ (rowQ s.n (lap s.ms i0) (b i0)) s.n = _
        rw [rowQ_rs, h2, up b]
    · obtain ⟨g, hg, rfl⟩ := List.mem_map.mp hr
      obtain ⟨k, _, rfl⟩ := List.mem_map.mp hg
      refine ⟨y, fun q => if q = k then z q + a else z q, fun j hj => ?_, ?_⟩
      · show f j + a * at_ (rowQ s.n (ind (grp s k)) 0) j = _
        rw [rowQ_at _ _ hj, h1 j hj, ind_grp hj]
        split <;> grind
      · show f s.n + a * at_ (rowQ s.n (ind (grp s k)) 0) s.n = _
        rw [rowQ_rs, h2]; grind
theorem lap_symm (ms : List Mt) (i j : Nat) : lap ms i j = lap ms j i := tot_congr fun m _ => by grind
theorem root_lt {n : Nat} (ms : List Mt) {j : Nat} (h : j < n) : root ms j < n := by have := (root_inv ms).le j; omega
theorem bal_ok {s : Sc} (h : MsOk s.n s.ms) {b : Nat → Rat} (hb : ∀ k, csum s.ms s.n k b = 0) : BalOk s b (bal s b) := by
  have R := root_inv s.ms
  have key := solve_ok (balRows_len s b) (fun f hf h0 => by
    obtain ⟨y, z, h1, h2⟩ := span_form b hf
    have e1 : ∀ j, j < s.n → sur (gr s.ms y) j + z (root s.ms j) = 0 := fun j hj => by
      rw [← lap_sum h j y, ← h0 j hj, h1 j hj]
      congr 1
      exact sm_congr fun i _ => by rw [lap_symm]; grind
    have e2 : ∀ k, k < s.n → root s.ms k = k → z k = 0 := fun k hk hr => by
      have c := sur_csum (gr_ok h y) (fun p hp => by obtain ⟨m, hm, rfl⟩ := List.mem_map.mp hp; exact hm) k
      have e : csum s.ms s.n k (sur (gr s.ms y)) = csum s.ms s.n k (fun _ => -z k) := by
        unfold csum
        refine sm_congr fun j hj => ?_
        by_cases hjk : root s.ms j = k
        · rw [if_pos hjk, if_pos hjk]; have := e1 j hj; rw [hjk] at this; grind
        · rw [if_neg hjk, if_neg hjk]
      rw [e, csum_const] at c
      rcases Rat.mul_eq_zero.mp c with c | c
      · grind
      · exact absurd c (csum_one_pos hk hr)
    have e3 : ∀ j, j < s.n → sur (gr s.ms y) j = 0 := fun j hj => by
      have := e1 j hj
      rw [e2 (root s.ms j) (root_lt _ hj) (R.id j)] at this
      grind
    have fl := flat_root (flat_of h e3)
    rw [h2, ← csum_split y b hb]
    exact sm_congr fun i _ => by rw [← fl i])
  refine ⟨fun i hi => ?_, fun k => ?_⟩
  · have := key (rowQ s.n (lap s.ms i) (b i)) (List.mem_append.mpr (.inl (List.mem_map.mpr ⟨i, List.mem_range.mpr hi, rfl⟩)))
    unfold Sat at this
    rw [rowQ_rs] at this
    rw [← this, ← lap_sum h i]
    exact sm_congr fun j hj => by rw [rowQ_at _ _ hj]; rfl
  · by_cases hk : k < s.n ∧ root s.ms k = k
    · have := key (rowQ s.n (ind (grp s k)) 0) (List.mem_append.mpr (.inr (List.mem_map.mpr ⟨grp s k, List.mem_map.mpr ⟨k, List.mem_filter.mpr ⟨List.mem_range.mpr hk.1, decide_eq_true hk.2⟩, rfl⟩, rfl⟩)))
      unfold Sat at this
      rw [rowQ_rs] at this
      rw [← this, ← ind_sum]
      exact sm_congr fun j hj => by rw [rowQ_at _ _ hj]; rfl
    · unfold csum
      refine sm_zero fun j hj => if_neg fun e => hk ?_
      rw [← e]
      exact ⟨root_lt _ hj, R.id j⟩
/-- one solution only -/
theorem bal_uniq {s : Sc} (h : MsOk s.n s.ms) {b x y : Nat → Rat} (hx : BalOk s b x) (hy : BalOk s b y) : ∀ p, p < s.n → x p = y p := by
  have R := root_inv s.ms
  have e0 : ∀ i, i < s.n → sur (gr s.ms fun j => x j - y j) i = 0 := fun i hi => by
    have e : sur (gr s.ms fun j => x j - y j) i = sur (gr s.ms x) i - sur (gr s.ms y) i := by
      simp only [sur, gr, List.map_map]
      rw [← tot_sub]
      exact tot_congr fun m _ => by simp only [Function.comp]; grind
    rw [e, hx.bl i hi, hy.bl i hi]; grind
  have fl := flat_root (flat_of h e0)
  intro p hp
  have hk := root_lt (n := s.n) s.ms hp
  have e1 : csum s.ms s.n (root s.ms p) (fun j => x j - y j) = csum s.ms s.n (root s.ms p) x - csum s.ms s.n (root s.ms p) y := by
    unfold csum
    rw [← sm_sub]
    exact sm_congr fun j _ => by split <;> grind
  rw [hx.gs, hy.gs] at e1
  have e2 : csum s.ms s.n (root s.ms p) (fun j => x j - y j) = csum s.ms s.n (root s.ms p) (fun _ => x p - y p) := by
    unfold csum
    refine sm_congr fun j _ => ?_
    by_cases e : root s.ms j = root s.ms p
    · rw [if_pos e, if_pos e]; have a := fl j; have b := fl p; rw [e] at a; grind
    · rw [if_neg e, if_neg e]
  rw [e2, csum_const] at e1
  have : (x p - y p) * csum s.ms s.n (root s.ms p) (fun _ => 1) = 0 := by grind
  rcases Rat.mul_eq_zero.mp this with e | e
  · grind
  · exact absurd e (csum_one_pos hk (R.id p))
theorem fit_ok {s : Sc} (h : MsOk s.n s.ms) (qs : List Rat) : BalOk s (sur (s.ms.zip qs)) (fit s qs) := bal_ok h fun k => sur_csum (zsok_zip h qs) (fun p hp => (List.of_mem_zip hp).1) k
end LW
set_option Elab.async false
set_option linter.all false
set_option maxRecDepth 100000
set_option maxHeartbeats 4000000
/-! R1: resistances (plain) -/
namespace LW
open LA
theorem sur_gr_sub (ms : List Mt) (x y : Nat → Rat) (i : Nat) : sur (gr ms fun j => x j - y j) i = sur (gr ms x) i - sur (gr ms y) i := by
  simp only [sur, gr, List.map_map]
  rw [← tot_sub]
  exact tot_congr fun m _ => by simp only [Function.comp]; grind
theorem sur_gr_add (ms : List Mt) (x y : Nat → Rat) (i : Nat) : sur (gr ms fun j => x j + y j) i = sur (gr ms x) i + sur (gr ms y) i := by
  simp only [sur, gr, List.map_map]
  rw [← tot_add]
  exact tot_congr fun m _ => by simp only [Function.comp]; grind
theorem sur_gr_mul (ms : List Mt) (c : Rat) (x : Nat → Rat) (i : Nat) : sur (gr ms fun j => c * x j) i = c * sur (gr ms x) i := by
  simp only [sur, gr, List.map_map]
  rw [← tot_mul]
  exact tot_congr fun m _ => by simp only [Function.comp]; grind
/-- potentials with the same surplus differ by a constant in each component -/
theorem uniq_diff {n : Nat} {ms : List Mt} (h : MsOk n ms) {x y : Nat → Rat} (e : ∀ i, i < n → sur (gr ms x) i = sur (gr ms y) i) {p q : Nat} (hr : root ms p = root ms q) : x p - x q = y p - y q := by
  have fl := flat_root (ms := ms) (x := fun j => x j - y j) (flat_of h (x := fun j => x j - y j) fun i hi => by rw [sur_gr_sub, e i hi]; grind)
  have a := fl p
  have b := fl q
  rw [hr] at a
  grind
/-- the energy of two potentials -/
def en (ms : List Mt) (x y : Nat → Rat) : Rat := tot (ms.map fun m => (m.w : Rat) * (x m.l - x m.r) * (y m.l - y m.r))
theorem en_green {n : Nat} {ms : List Mt} (h : MsOk n ms) (x y : Nat → Rat) : sm n (fun i => y i * sur (gr ms x) i) = en ms x y := by
  rw [green (gr_ok h x) y]
  simp only [gr, List.map_map, en]
  rfl
theorem en_comm (ms : List Mt) (x y : Nat → Rat) : en ms x y = en ms y x := tot_congr fun m _ => by grind
theorem en_nonneg {n : Nat} {ms : List Mt} (h : MsOk n ms) (x : Nat → Rat) : 0 ≤ en ms x x := tot_nonneg fun m hm => by
  have := Rat.mul_nonneg (Rat.le_of_lt (w_pos (h m hm).2.2.2)) (sq_nonneg (x m.l - x m.r))
  grind
theorem en_zero {n : Nat} {ms : List Mt} (h : MsOk n ms) {x : Nat → Rat} (e : en ms x x = 0) : ∀ m ∈ ms, x m.l = x m.r := by
  intro m hm
  have z := tot_nonneg_zero (f := fun m : Mt => (m.w : Rat) * (x m.l - x m.r) * (x m.l - x m.r)) (fun m hm => by
    have := Rat.mul_nonneg (Rat.le_of_lt (w_pos (h m hm).2.2.2)) (sq_nonneg (x m.l - x m.r))
    grind) e m hm
  have w0 := w_pos (h m hm).2.2.2
  have z' : (m.w : Rat) * ((x m.l - x m.r) * (x m.l - x m.r)) = 0 := by grind
  rcases Rat.mul_eq_zero.mp z' with e | e
  · grind
  · have := sq_zero e; grind
/-- one in at a, one out at b -/
def dl (a b i : Nat) : Rat := (if i = a then 1 else 0) - (if i = b then 1 else 0)
theorem dl_sum {n a b : Nat} (ha : a < n) (hb : b < n) (x : Nat → Rat) : sm n (fun i => x i * dl a b i) = x a - x b := by
  have e : sm n (fun i => x i * dl a b i) = sm n (fun i => if i = a then x a else 0) - sm n (fun i => if i = b then x b else 0) := by
    rw [← sm_sub]
    refine sm_congr fun i _ => ?_
    unfold dl
    by_cases h1 : i = a <;> by_cases h2 : i = b <;> simp [h1, h2] <;> grind
  rw [e, sm_one a ha fun j _ hne => if_neg hne, sm_one b hb fun j _ hne => if_neg hne, if_pos rfl, if_pos rfl]
theorem dl_csum {ms : List Mt} {n a b : Nat} (ha : a < n) (hb : b < n) (hr : root ms a = root ms b) (k : Nat) : csum ms n k (dl a b) = 0 := by
  have := dl_sum ha hb fun i => if root ms i = k then (1 : Rat) else 0
  unfold csum
  have e : sm n (fun i => if root ms i = k then dl a b i else 0) = sm n (fun i => (if root ms i = k then (1 : Rat) else 0) * dl a b i) := sm_congr fun i _ => by split <;> grind
  rw [e, this, hr]; grind
/-- the potential of a over b -/
def pot (s : Sc) (a b : Nat) : Nat → Rat := bal s (dl a b)
structure Con (s : Sc) (x y : Nat) : Prop where
  a : x < s.n
  b : y < s.n
  r : root s.ms x = root s.ms y
theorem pot_ok {s : Sc} (h : MsOk s.n s.ms) {a b : Nat} (c : Con s a b) : ∀ i, i < s.n → sur (gr s.ms (pot s a b)) i = dl a b i := (bal_ok h (dl_csum c.a c.b c.r)).bl
/-- the resistance -/
def res (s : Sc) (a b : Nat) : Rat := pot s a b a - pot s a b b
theorem res_of {s : Sc} (h : MsOk s.n s.ms) {a b : Nat} (c : Con s a b) {x : Nat → Rat} (hx : ∀ i, i < s.n → sur (gr s.ms x) i = dl a b i) : res s a b = x a - x b := by
  unfold res
  exact uniq_diff h (fun i hi => by rw [pot_ok h c i hi, hx i hi]) c.r
theorem res_en {s : Sc} (h : MsOk s.n s.ms) {a b : Nat} (c : Con s a b) : res s a b = en s.ms (pot s a b) (pot s a b) := by
  rw [← en_green h]
  unfold res
  rw [← dl_sum c.a c.b (pot s a b)]
  exact sm_congr fun i hi => by rw [pot_ok h c i hi]
theorem res_nonneg {s : Sc} (h : MsOk s.n s.ms) {a b : Nat} (c : Con s a b) : 0 ≤ res s a b := by rw [res_en h c]; exact en_nonneg h _
theorem Con.symm {s : Sc} {a b : Nat} (c : Con s a b) : Con s b a := ⟨c.b, c.a, c.r.symm⟩
theorem Con.trans {s : Sc} {a b d : Nat} (c : Con s a b) (c' : Con s b d) : Con s a d := ⟨c.a, c'.b, c.r.trans c'.r⟩
theorem res_symm {s : Sc} (h : MsOk s.n s.ms) {a b : Nat} (c : Con s a b) : res s b a = res s a b := by
  rw [res_of h c.symm (x := fun j => -1 * pot s a b j) (fun i hi => by rw [sur_gr_mul, pot_ok h c i hi]; unfold dl; grind)]
  unfold res; grind
theorem res_self (s : Sc) (a : Nat) : res s a a = 0 := by unfold res; grind
theorem res_zero {s : Sc} (h : MsOk s.n s.ms) {a b : Nat} (c : Con s a b) (e : res s a b = 0) : a = b := by
  rw [res_en h c] at e
  have fl := en_zero h e
  have z : sur (gr s.ms (pot s a b)) a = 0 := by
    simp only [sur, gr, List.map_map]
    exact tot_zero fun m hm => by simp only [Function.comp]; rw [fl m hm]; grind
  rw [pot_ok h c a c.a] at z
  unfold dl at z
  by_cases hab : a = b
  · exact hab
  · rw [if_pos rfl, if_neg hab] at z; grind
/-- what is above M -/
def ab (M t : Rat) : Rat := if M ≤ t then t - M else 0
theorem ab_lip (M s t : Rat) : (ab M s - ab M t) * (ab M s - ab M t) ≤ (s - t) * (ab M s - ab M t) := by
  unfold ab
  by_cases h1 : M ≤ s <;> by_cases h2 : M ≤ t
  · rw [if_pos h1, if_pos h2]; grind
  · rw [if_pos h1, if_neg h2]
    have a : 0 ≤ s - M := by grind
    have b : 0 ≤ M - t := by grind
    have := Rat.mul_nonneg a b
    grind
  · rw [if_neg h1, if_pos h2]
    have a : 0 ≤ t - M := by grind
    have b : 0 ≤ M - s := by grind
    have := Rat.mul_nonneg a b
    grind
  · rw [if_neg h1, if_neg h2]; grind
theorem tot_le {α : Type} {f g : α → Rat} {xs : List α} (h : ∀ a ∈ xs, f a ≤ g a) : tot (xs.map f) ≤ tot (xs.map g) := by
  have := tot_nonneg (f := fun a => g a - f a) (xs := xs) fun a ha => by have := h a ha; grind
  rw [tot_sub] at this
  grind
/-- nothing is above the place where it comes in -/
theorem pot_max {n : Nat} {ms : List Mt} (h : MsOk n ms) {a b : Nat} (ha : a < n) (hb : b < n) {x : Nat → Rat} (hx : ∀ i, i < n → sur (gr ms x) i = dl a b i) {p : Nat} (hr : root ms p = root ms a) : x p ≤ x a := by
  obtain ⟨u, hu⟩ : ∃ u : Nat → Rat, u = fun i => ab (x a) (x i) := ⟨_, rfl⟩
  have e1 : en ms x u = u a - u b := by
    rw [← en_green h x u, ← dl_sum ha hb u]
    exact sm_congr fun i hi => by rw [hx i hi]
  have ua : u a = 0 := by rw [hu]; show ab (x a) (x a) = 0; unfold ab; rw [if_pos Rat.le_refl]; grind
  have ub : 0 ≤ u b := by
    rw [hu]; show 0 ≤ ab (x a) (x b); unfold ab
    split
    · grind
    · exact Rat.le_refl
  have e2 : en ms u u ≤ en ms x u := tot_le fun m hm => by
    have l := ab_lip (x a) (x m.l) (x m.r)
    have := Rat.mul_nonneg (Rat.le_of_lt (w_pos (h m hm).2.2.2)) (show 0 ≤ (x m.l - x m.r) * (u m.l - u m.r) - (u m.l - u m.r) * (u m.l - u m.r) by rw [hu]; simp only; grind)
    grind
  have e3 : en ms u u = 0 := by
    have := en_nonneg h u
    grind
  have fl := flat_root (en_zero h e3)
  have : u p = 0 := by rw [fl p, hr, ← fl a, ua]
  rw [hu] at this
  simp only [ab] at this
  split at this
  · grind
  · grind
theorem res_tri {s : Sc} (h : MsOk s.n s.ms) {a b d : Nat} (c : Con s a b) (c' : Con s b d) : res s a d ≤ res s a b + res s b d := by
  have e := res_of h (c.trans c') (x := fun j => pot s a b j + pot s b d j) (fun i hi => by rw [sur_gr_add, pot_ok h c i hi, pot_ok h c' i hi]; unfold dl; grind)
  have m1 : pot s b d a ≤ pot s b d b := pot_max h c'.a c'.b (pot_ok h c') c.r
  have m2 := pot_max h c.b c.a (x := fun j => -1 * pot s a b j) (fun i hi => by rw [sur_gr_mul, pot_ok h c i hi]; unfold dl; grind) (p := d) c'.r.symm
  rw [e]
  unfold res
  grind
/-! ### leverages -/
theorem con_match {s : Sc} (h : s.Ok) {m : Mt} (hm : m ∈ s.ms) : Con s m.l m.r := by
  obtain ⟨a, b, _⟩ := h.rg m hm
  exact ⟨by omega, b, (root_inv s.ms).ed m hm⟩
def lev (s : Sc) (m : Mt) : Rat := (m.w : Rat) * res s m.l m.r
theorem res_pos {s : Sc} (h : s.Ok) {m : Mt} (hm : m ∈ s.ms) : 0 < res s m.l m.r := by
  have c := con_match h hm
  have h1 := res_nonneg h.msok c
  rcases Rat.le_iff_lt_or_eq.mp h1 with h2 | h2
  · exact h2
  · have := res_zero h.msok c h2.symm
    have := (h.rg m hm).1
    omega
theorem en_split {n : Nat} {ms : List Mt} (h : MsOk n ms) (x : Nat → Rat) {m : Mt} (hm : m ∈ ms) : ∃ a b, ms = a ++ m :: b ∧ en ms x x = (m.w : Rat) * (x m.l - x m.r) * (x m.l - x m.r) + en (a ++ b) x x := by
  obtain ⟨a, b, rfl⟩ := List.append_of_mem hm
  refine ⟨a, b, rfl, ?_⟩
  unfold en
  rw [List.map_append, tot_append, List.map_cons, tot, List.map_append, tot_append]
  grind
theorem lev_pos {s : Sc} (h : s.Ok) {m : Mt} (hm : m ∈ s.ms) : 0 < lev s m := Rat.mul_pos (w_pos (h.msok m hm).2.2.2) (res_pos h hm)
theorem msok_sub {n : Nat} {ms ms' : List Mt} (h : MsOk n ms) (hs : ∀ m ∈ ms', m ∈ ms) : MsOk n ms' := fun m hm => h m (hs m hm)
theorem lev_le {s : Sc} (h : s.Ok) {m : Mt} (hm : m ∈ s.ms) : lev s m ≤ 1 := by
  have c := con_match h hm
  obtain ⟨a, b, e1, e2⟩ := en_split h.msok (pot s m.l m.r) hm
  have e3 := res_en h.msok c
  have p := res_pos h hm
  have nn := en_nonneg (msok_sub h.msok (ms' := a ++ b) (fun x hx => by rw [e1]; rcases List.mem_append.mp hx with h | h <;> simp [h])) (pot s m.l m.r)
  have hR : pot s m.l m.r m.l - pot s m.l m.r m.r = res s m.l m.r := rfl
  rw [e2, hR] at e3
  have : lev s m * res s m.l m.r ≤ 1 * res s m.l m.r := by unfold lev; grind
  exact Rat.le_of_mul_le_mul_right this p
theorem lev_one {s : Sc} (h : s.Ok) {m : Mt} (hm : m ∈ s.ms) (e : lev s m = 1) {a b : List Mt} (hs : s.ms = a ++ m :: b) : root (a ++ b) m.l ≠ root (a ++ b) m.r := by
  intro hr
  have c := con_match h hm
  have e2 : en s.ms (pot s m.l m.r) (pot s m.l m.r) = (m.w : Rat) * (pot s m.l m.r m.l - pot s m.l m.r m.r) * (pot s m.l m.r m.l - pot s m.l m.r m.r) + en (a ++ b) (pot s m.l m.r) (pot s m.l m.r) := by
    unfold en
    rw [hs, List.map_append, tot_append, List.map_cons, tot, List.map_append, tot_append]
    grind
  have e3 := res_en h.msok c
  have hR : pot s m.l m.r m.l - pot s m.l m.r m.r = res s m.l m.r := rfl
  rw [hR] at e2
  have hmo := msok_sub h.msok (ms' := a ++ b) (fun x hx => by rw [hs]; rcases List.mem_append.mp hx with h | h <;> simp [h])
  have z : en (a ++ b) (pot s m.l m.r) (pot s m.l m.r) = 0 := by
    have : (m.w : Rat) * res s m.l m.r = 1 := e
    grind
  have fl := flat_root (en_zero hmo z)
  have p := res_pos h hm
  have : res s m.l m.r = 0 := by
    unfold res
    rw [fl m.l, hr, ← fl m.r]; grind
  grind
theorem lev_bridge {s : Sc} (h : s.Ok) {m : Mt} (hm : m ∈ s.ms) {a b : List Mt} (hs : s.ms = a ++ m :: b) (hr : root (a ++ b) m.l ≠ root (a ++ b) m.r) : lev s m = 1 := by
  have c := con_match h hm
  have w0 := w_pos (h.msok m hm).2.2.2
  have hne : m.l ≠ m.r := (h.msok m hm).2.2.1
  have e := res_of h.msok c (x := fun p => if root (a ++ b) p = root (a ++ b) m.l then 1 / (m.w : Rat) else 0) (fun i hi => by
    have hz : ∀ x ∈ a ++ b, root (a ++ b) x.l = root (a ++ b) x.r := (root_inv (a ++ b)).ed
    have e1 : ∀ xs : List Mt, (∀ x ∈ xs, x ∈ a ++ b) → tot (xs.map fun m' => sgn m' i * ((m'.w : Rat) * ((if root (a ++ b) m'.l = root (a ++ b) m.l then 1 / (m.w : Rat) else 0) - (if root (a ++ b) m'.r = root (a ++ b) m.l then 1 / (m.w : Rat) else 0)))) = 0 := fun xs hx => tot_zero fun m' hm' => by rw [hz m' (hx m' hm')]; grind
    simp only [sur, gr, List.map_map, Function.comp_def]
    rw [hs, List.map_append, tot_append, List.map_cons, tot, e1 a fun x hx => List.mem_append.mpr (.inl hx), e1 b fun x hx => List.mem_append.mpr (.inr hx)]
    rw [if_pos rfl, if_neg fun z => hr z.symm]
    unfold sgn dl
    by_cases h1 : i = m.l
    · rw [if_pos h1, if_pos h1, if_neg (by omega)]; grind
    · rw [if_neg h1, if_neg h1]
      by_cases h2 : i = m.r
      · rw [if_pos h2, if_pos h2]; grind
      · rw [if_neg h2, if_neg h2]; grind)
  rw [if_pos rfl, if_neg fun z => hr z.symm] at e
  unfold lev
  rw [e]
  grind
end LW
set_option Elab.async false
set_option linter.all false
set_option maxRecDepth 100000
set_option maxHeartbeats 4000000
/-! R2: bridges, the sum of the leverages -/
namespace LW
open LA
theorem root_uniq {ms ms' : List Mt} {f g : Nat → Nat} (hf : RootI ms f) (hg : RootI ms' g) (h : ∀ m, m ∈ ms ↔ m ∈ ms') : f = g := by
  funext p
  have a : f (g p) = f p := (hg.cl (fun q => f q = f p) (fun m hm => by rw [hf.ed m ((h m).mpr hm)]) p).mp rfl
  have b : g (f p) = g p := (hf.cl (fun q => g q = g p) (fun m hm => by rw [hg.ed m ((h m).mp hm)]) p).mp rfl
  have c := hf.le (g p)
  have d := hg.le (f p)
  omega
theorem root_perm {ms ms' : List Mt} (h : ∀ m, m ∈ ms ↔ m ∈ ms') : root ms = root ms' := root_uniq (root_inv ms) (root_inv ms') h
theorem root_add (a b : List Mt) (m : Mt) : root (a ++ m :: b) = gst (root (a ++ b)) m := root_uniq (root_inv _) ((root_inv (a ++ b)).step m) fun x => by
  simp only [List.mem_append, List.mem_cons, List.mem_singleton, List.not_mem_nil, or_false]
  constructor
  · rintro (h | h | h)
    · exact .inl (.inl h)
    · exact .inr h
    · exact .inl (.inr h)
  · rintro ((h | h) | h)
    · exact .inl h
    · exact .inr (.inr h)
    · exact .inr (.inl h)
/-- the number of components -/
def nr (n : Nat) (f : Nat → Nat) : Nat := (List.range n).countP fun p => decide (f p = p)
theorem groups_nr (s : Sc) : (groups s).length = nr s.n (root s.ms) := by
  unfold groups roots nr
  rw [List.length_map, List.countP_eq_length_filter]
theorem bridge_iff {n : Nat} {a b : List Mt} {m : Mt} (h1 : m.l < n) (h2 : m.r < n) : nr n (root (a ++ m :: b)) < nr n (root (a ++ b)) ↔ root (a ++ b) m.l ≠ root (a ++ b) m.r := by
  rw [root_add]
  have R := root_inv (a ++ b)
  generalize root (a ++ b) = f at *
  constructor
  · intro h e
    have : gst f m = f := by
      funext p
      unfold gst
      rw [e, Nat.max_self, Nat.min_self]
      split
      · rename_i z; exact z.symm
      · rfl
    rw [this] at h
    omega
  · intro e
    obtain ⟨hi, hhi⟩ : ∃ hi, hi = max (f m.l) (f m.r) := ⟨_, rfl⟩
    obtain ⟨lo, hlo⟩ : ∃ lo, lo = min (f m.l) (f m.r) := ⟨_, rfl⟩
    have hne : lo < hi := by omega
    have fhi : f hi = hi := by
      rcases Nat.le_total (f m.l) (f m.r) with hl | hl
      · rw [hhi, Nat.max_eq_right hl]; exact R.id _
      · rw [hhi, Nat.max_eq_left hl]; exact R.id _
    have hin : hi < n := by
      have := R.le m.l
      have := R.le m.r
      omega
    refine countP_lt' (fun p hp => ?_) (List.mem_range.mpr hin) ?_ ?_
    · have hp := of_decide_eq_true hp
      unfold gst at hp
      rw [← hhi, ← hlo] at hp
      split at hp
      · rename_i z
        have := R.le p
        refine decide_eq_true ?_
        omega
      · exact decide_eq_true hp
    · refine decide_eq_false fun z => ?_
      unfold gst at z
      rw [← hhi, ← hlo, if_pos fhi] at z
      omega
    · exact decide_eq_true fhi
theorem nr_le {n : Nat} {a b : List Mt} {m : Mt} (h1 : m.l < n) (h2 : m.r < n) : nr n (root (a ++ m :: b)) ≤ nr n (root (a ++ b)) := by
  by_cases e : root (a ++ b) m.l = root (a ++ b) m.r
  · rw [root_add]
    generalize root (a ++ b) = f at *
    have : gst f m = f := by
      funext p
      unfold gst
      rw [e, Nat.max_self, Nat.min_self]
      split
      · rename_i z; exact z.symm
      · rfl
    rw [this]
    exact Nat.le_refl _
  · exact Nat.le_of_lt ((bridge_iff h1 h2).mpr e)
/-! ### the sum of the leverages -/
/-- the size of the component of root k -/
def csz (s : Sc) (k : Nat) : Rat := csum s.ms s.n k fun _ => 1
/-- one in at j, out alike in its component -/
def du (s : Sc) (j i : Nat) : Rat := (if i = j then 1 else 0) - (if root s.ms i = root s.ms j then 1 / csz s (root s.ms j) else 0)
theorem du_csum {s : Sc} {j : Nat} (hj : j < s.n) (k : Nat) : csum s.ms s.n k (du s j) = 0 := by
  have hz : csz s (root s.ms j) ≠ 0 := csum_one_pos (root_lt _ hj) ((root_inv _).id j)
  have e : csum s.ms s.n k (du s j) = sm s.n (fun i => if i = j then (if root s.ms j = k then 1 else 0) else 0) - (if root s.ms j = k then 1 / csz s (root s.ms j) else 0) * csz s k := by
    unfold csz csum
    rw [← sm_mul, ← sm_sub]
    refine sm_congr fun i _ => ?_
    unfold du
    by_cases h1 : root s.ms i = k
    · rw [if_pos h1, if_pos h1]
      by_cases h2 : i = j
      · rw [if_pos h2, if_pos h2, h2]
        rw [h2] at h1
        rw [if_pos rfl, if_pos h1, if_pos h1]
        unfold csz csum
        grind
      · rw [if_neg h2, if_neg h2, h1]
        by_cases h3 : k = root s.ms j
        · rw [if_pos h3, if_pos h3.symm]
          unfold csz csum
          grind
        · rw [if_neg h3, if_neg fun z => h3 z.symm]; grind
    · rw [if_neg h1, if_neg h1]
      by_cases h2 : i = j
      · rw [h2] at h1
        rw [if_pos h2, if_neg h1]; grind
      · rw [if_neg h2]; grind
  rw [e, sm_one j hj fun i _ hne => if_neg hne, if_pos rfl]
  by_cases h : root s.ms j = k
  · rw [if_pos h, if_pos h, ← h]
    generalize csz s (root s.ms j) = z at *
    grind
  · rw [if_neg h, if_neg h]; grind
def gf (s : Sc) (j : Nat) : Nat → Rat := bal s (du s j)
theorem gf_ok {s : Sc} (h : MsOk s.n s.ms) {j : Nat} (hj : j < s.n) : ∀ i, i < s.n → sur (gr s.ms (gf s j)) i = du s j i := (bal_ok h (du_csum hj)).bl
theorem foster {s : Sc} (h : s.Ok) : tot (s.ms.map (lev s)) = (s.n : Rat) - (nr s.n (root s.ms) : Rat) := by
  have R := root_inv s.ms
  have mo := h.msok
  -- a leverage by the columns
  have e1 : ∀ m ∈ s.ms, lev s m = sm s.n fun j => sm s.n fun i => (m.w : Rat) * (sgn m i * sgn m j) * gf s j i := fun m hm => by
    have c := con_match h hm
    obtain ⟨a1, a2, a3, _⟩ := mo m hm
    have er := res_of mo c (x := fun i => gf s m.l i - gf s m.r i) (fun i hi => by
      rw [sur_gr_sub, gf_ok mo c.a i hi, gf_ok mo c.b i hi]
      unfold du dl
      rw [c.r]; grind)
    have s1 : ∀ j, sm s.n (fun i => (m.w : Rat) * (sgn m i * sgn m j) * gf s j i) = (m.w : Rat) * (sgn m j * (gf s j m.l - gf s j m.r)) := fun j => by
      have := sgn_sum a1 a2 a3 (gf s j)
      rw [← this, ← sm_mul, ← sm_mul]
      exact sm_congr fun i _ => by grind
    have s2 : sm s.n (fun j => (m.w : Rat) * (sgn m j * (gf s j m.l - gf s j m.r))) = (m.w : Rat) * ((gf s m.l m.l - gf s m.l m.r) - (gf s m.r m.l - gf s m.r m.r)) := by
      have := sgn_sum a1 a2 a3 (fun j => gf s j m.l - gf s j m.r)
      rw [← this, ← sm_mul]
    rw [sm_congr fun j _ => s1 j, s2]
    unfold lev
    rw [er]
    grind
  have e2 : tot (s.ms.map (lev s)) = sm s.n fun j => sm s.n fun i => lap s.ms i j * gf s j i := by
    rw [tot_congr e1, ← sm_tot s.n (fun m j => sm s.n fun i => (m.w : Rat) * (sgn m i * sgn m j) * gf s j i)]
    refine sm_congr fun j _ => ?_
    rw [← sm_tot s.n (fun m i => (m.w : Rat) * (sgn m i * sgn m j) * gf s j i)]
    refine sm_congr fun i _ => ?_
    unfold lap
    rw [show tot (s.ms.map fun m => (m.w : Rat) * (sgn m i * sgn m j)) * gf s j i = gf s j i * tot (s.ms.map fun m => (m.w : Rat) * (sgn m i * sgn m j)) by grind, ← tot_mul]
    exact tot_congr fun m _ => by grind
  have e3 : tot (s.ms.map (lev s)) = sm s.n fun j => du s j j := by
    rw [e2]
    refine sm_congr fun j hj => ?_
    rw [← gf_ok mo hj j hj, ← lap_sum mo j]
    exact sm_congr fun i _ => by rw [lap_symm]
  have e4 : sm s.n (fun j => du s j j) = sm s.n (fun _ => 1) - sm s.n (fun j => 1 / csz s (root s.ms j)) := by
    rw [← sm_sub]
    exact sm_congr fun j _ => by unfold du; rw [if_pos rfl, if_pos rfl]
  have e5 : sm s.n (fun j => 1 / csz s (root s.ms j)) = sm s.n fun k => if root s.ms k = k then 1 else 0 := by
    have a : sm s.n (fun j => 1 / csz s (root s.ms j)) = sm s.n (fun j => sm s.n (fun k => (1 / csz s k) * (if root s.ms j = k then 1 else 0))) := by
      refine sm_congr fun j hj => ?_
      rw [sm_one (root s.ms j) (root_lt _ hj) fun k _ hne => by rw [if_neg fun z => hne z.symm]; grind, if_pos rfl]
      grind
    rw [a, sm_swap]
    refine sm_congr fun k hk => ?_
    rw [sm_mul]
    show 1 / csz s k * csz s k = _
    by_cases e : root s.ms k = k
    · rw [if_pos e]
      have := csum_one_pos hk e
      have hz : csz s k ≠ 0 := this
      generalize csz s k = z at *
      grind
    · rw [if_neg e]
      have hz : csz s k = 0 := by
        unfold csz csum
        refine sm_zero fun j hj => if_neg fun z => e ?_
        rw [← z]; exact R.id j
      rw [hz]; grind
  have e6 : ∀ n : Nat, sm n (fun _ => (1 : Rat)) = (n : Rat) := fun n => by
    induction n with
    | zero => rfl
    | succ n ih => rw [sm, ih, Rat.natCast_add]; rfl
  have e7 : ∀ n : Nat, sm n (fun k => if root s.ms k = k then (1 : Rat) else 0) = (nr n (root s.ms) : Rat) := fun n => by
    unfold nr
    induction n with
    | zero => rfl
    | succ n ih =>
      rw [sm, ih, List.range_succ, List.countP_append]
      by_cases e : root s.ms n = n
      · rw [if_pos e, Rat.natCast_add]
        simp [e]
      · rw [if_neg e]
        simp [e]
        grind
  rw [e3, e4, e5, e6, e7]
end LW
set_option Elab.async false
set_option linter.all false
set_option maxRecDepth 100000
set_option maxHeartbeats 4000000
/-! P1: products, differences, totals on data -/
namespace LW
open PySem DL LA
theorem tot_sum (xs : List Rat) : xs.sum = tot xs := by
  induction xs with
  | nil => rfl
  | cons x xs ih => rw [List.sum_cons, ih, tot]
abbrev BL (d m : Nat) (qs : List Rat) : Prop := ∀ q ∈ qs, Bq d m q
theorem Bq.scale {d m k : Nat} {q : Rat} (h : Bq d m q) (hk : k ≠ 0) (hd : d ≠ 0) : Bq (k * d) (k * m) q := by
  obtain ⟨z, e, hz⟩ := h.ex
  refine Bq.mk' (z := k * z) ?_ (by rw [Int.natAbs_mul, Int.natAbs_natCast]; exact Nat.mul_le_mul_left _ hz)
  rw [e, Rat.natCast_mul, Rat.intCast_mul, Rat.intCast_natCast]
  have a := cast_ne hk
  have b := cast_ne hd
  generalize (k : Rat) = K at *
  generalize (d : Rat) = E at *
  generalize (z : Rat) = Z at *
  grind
theorem Bq.tot {d m : Nat} (h0 : d ≠ 0) {qs : List Rat} (h : BL d m qs) : Bq d (qs.length * m) (tot qs) := by rw [← tot_sum]; exact Bq.sum h0 qs h
theorem total_tot {d m : Nat} {qs : List Rat} (hd : d ≠ 0) (h : BL d m qs) (hd2 : d < 2 ^ 4000) (hm : m < 2 ^ 4000) (hm2 : qs.length * m < 2 ^ 4000) : f_total [.list (qs.map encQ)] = ok (encQ (tot qs)) := by
  rw [total_bq qs hd h hd2 hm hm2, tot_sum]
theorem law_total_ok (qs : List Rat) (h1 : ∀ q ∈ qs, Sm 4000 q) (h2 : ∀ i, Sm 4000 (qs.take i).sum) : f__law_total [.list (qs.map encQ)] = ok (encQ qs.sum) := by
  let I : Nat → Ta → Prop := fun i τ => ∃ v : SV, τ = [.d (.list (qs.map encQ)), .d (encQ (qs.take i).sum), v]
  have step := forD_nx (g := gN 2) (b := b__law_total_1) (xs := qs.map encQ) (τ := [.d (.list (qs.map encQ)), .d (.tuple [.int 0, .int 1]), .u]) I ⟨.u, rfl⟩ ?_
  · obtain ⟨τ', e1, v, rfl⟩ := step
    rw [List.length_map, List.take_length] at e1
    unfold f__law_total g__law_total
    simp [runDef, initT, gSeq, gNil, gRet, gRetN, gSet, gSetO, gEx, gIf, gPar, gAsg, gFrz, frzT, gRaise, fCl, fCons, fNil, fB, fU, fN, fV, fC, fTr, fNo, fAnd, fOr, vAnd, vOr, fNoV, fIf, fTup, fLst, fFr, fCh, lft, truD, bnd, bndS, gN, gT, gs0, gs1, isiD, tyD, lenDs, absDs, minDs, maxDs, tupDs, addD, subD, negD, ltD, leD, gtD, geD, isN, notN, ixO, fOix, fOln, gApp, putO, gPut, seqD, fSq, fLs, optD, fSl, slD, ixD, atI_c0, atI_c1, atI_c2, atI_map, modD_ok, lenDs, fRg1, fRg2, gFor, e1]
  · rintro i x τ hx ⟨v, rfl⟩
    rw [List.getElem?_map] at hx
    obtain ⟨q, hq, rfl⟩ := Option.map_eq_some_iff.mp hx
    refine ⟨_, [.d (.list (qs.map encQ)), .d (encQ (qs.take (i + 1)).sum), .d (encQ q)], rfl, .inl ?_, _, rfl⟩
    have ha := law_plus_ok (h2 i) (h1 q (List.mem_of_getElem? hq))
    rw [← take_sum hq] at ha
    unfold b__law_total_1
    simp [runDef, initT, gSeq, gNil, gRet, gRetN, gSet, gSetO, gEx, gIf, gPar, gAsg, gFrz, frzT, gRaise, fCl, fCons, fNil, fB, fU, fN, fV, fC, fTr, fNo, fAnd, fOr, vAnd, vOr, fNoV, fIf, fTup, fLst, fFr, fCh, lft, truD, bnd, bndS, gN, gT, gs0, gs1, isiD, tyD, lenDs, absDs, minDs, maxDs, tupDs, addD, subD, negD, ltD, leD, gtD, geD, isN, notN, ixO, fOix, fOln, gApp, putO, gPut, seqD, fSq, fLs, optD, fSl, slD, ixD, atI_c0, atI_c1, atI_c2, atI_map, modD_ok, lenDs, fRg1, fRg2, ha]
theorem law_total_tot {d m : Nat} {qs : List Rat} (hd : d ≠ 0) (h : BL d m qs) (hd2 : d < 2 ^ 4000) (hm : m < 2 ^ 4000) (hm2 : qs.length * m < 2 ^ 4000) : f__law_total [.list (qs.map encQ)] = ok (encQ (tot qs)) := by
  rw [← tot_sum]
  refine law_total_ok qs (fun q hq => (h q hq).sm hd hd2 hm) fun i => ?_
  refine ((Bq.sum hd (qs.take i) fun q hq => h q (List.mem_of_mem_take hq)).le ?_).sm hd hd2 hm2
  rw [List.length_take]
  exact Nat.mul_le_mul_right _ (Nat.min_le_right _ _)
/-! ### inner products -/
theorem zip3D_map {α β γ : Type} (f : α → D) (g : β → D) (k : γ → D) : ∀ (xs : List α) (ys : List β) (zs : List γ), zip3D (xs.map f) (ys.map g) (zs.map k) = (xs.zip (ys.zip zs)).map fun p => .tuple [f p.1, g p.2.1, k p.2.2]
  | [], ys, zs => by simp [zip3D]
  | x :: xs, [], zs => by simp [zip3D]
  | x :: xs, y :: ys, [] => by simp [zip3D]
  | x :: xs, y :: ys, z :: zs => by
    have ih := zip3D_map f g k xs ys zs
    simp [zip3D, ih]
/-- the parts of the inner product -/
def ipl (ms : List Mt) (one other : List Rat) : List Rat := (ms.zip (one.zip other)).map fun p => (p.1.w : Rat) * (p.2.1 * p.2.2)
def ip (ms : List Mt) (one other : List Rat) : Rat := tot (ipl ms one other)
theorem ipl_bq {ms : List Mt} {one other : List Rat} {d m d' m' : Nat} (hw : ∀ x ∈ ms, x.w ≤ 9) (h : BL d m one) (h' : BL d' m' other) (d0 : d ≠ 0) (d0' : d' ≠ 0) : BL (d * d') (9 * (m * m')) (ipl ms one other) := by
  intro q hq
  obtain ⟨p, hp, rfl⟩ := List.mem_map.mp hq
  have h1 := List.of_mem_zip hp
  have h2 := List.of_mem_zip h1.2
  exact Bq_w ((h _ h2.1).mul (h' _ h2.2)) (hw _ h1.1) (Nat.mul_ne_zero d0 d0')
structure IpSz (d m d' m' : Nat) : Prop where
  d0 : d ≠ 0
  d0' : d' ≠ 0
  b1 : d * d' < 2 ^ 4000
  b2 : 400 * (m * m') < 2 ^ 4000
  b3 : m < 2 ^ 4000
  b4 : m' < 2 ^ 4000
theorem IpSz.dl {d m d' m' : Nat} (h : IpSz d m d' m') : d < 2 ^ 4000 := Nat.lt_of_le_of_lt (Nat.le_mul_of_pos_right d (Nat.pos_of_ne_zero h.d0')) h.b1
theorem IpSz.dl' {d m d' m' : Nat} (h : IpSz d m d' m') : d' < 2 ^ 4000 := Nat.lt_of_le_of_lt (Nat.le_mul_of_pos_left d' (Nat.pos_of_ne_zero h.d0)) h.b1
theorem product_ok {s : Sc} (h : s.Ok) {one other : List Rat} {d m d' m' : Nat} (h1 : BL d m one) (h2 : BL d' m' other) (z : IpSz d m d' m') : f_product_of [encS s, .tuple (one.map encQ), .tuple (other.map encQ)] = ok (encQ (ip s.ms one other)) := by
  have h36 := h.len
  have hb := ipl_bq (ms := s.ms) (fun x hx => (h.rg x hx).2.2.2) h1 h2 z.d0 z.d0'
  have hln : (ipl s.ms one other).length ≤ 36 := by
    unfold ipl
    rw [List.length_map, List.length_zip]
    omega
  obtain ⟨τ', e2, e3⟩ := forD_nx (g := gT (gs1 (gN 4) (gs1 (gN 5) (gs1 (gN 6) gs0)))) (b := b_product_of_1) (xs := (s.ms.zip (one.zip other)).map fun p => PyData.tuple [encM p.1, encQ p.2.1, encQ p.2.2]) (τ := [.d (encS s), .d (.tuple (one.map encQ)), .d (.tuple (other.map encQ)), .o [], .u, .u, .u])
    (fun i τ => ∃ v4 v5 v6, τ = [.d (encS s), .d (.tuple (one.map encQ)), .d (.tuple (other.map encQ)), .o (((ipl s.ms one other).take i).map encQ), v4, v5, v6]) ⟨_, _, _, rfl⟩ (by
    rintro i x τ hx ⟨v4, v5, v6, rfl⟩
    rw [List.getElem?_map] at hx
    obtain ⟨p, hp, rfl⟩ := Option.map_eq_some_iff.mp hx
    have hpm := List.of_mem_zip (List.mem_of_getElem? hp)
    have hqm := List.of_mem_zip hpm.2
    have hw := (h.rg p.1 hpm.1).2.2.2
    have b1 := h1 _ hqm.1
    have b2 := h2 _ hqm.2
    have m1 := multiply_ok (b1.sm z.d0 z.dl z.b3) (b2.sm z.d0' z.dl' z.b4)
    have m2 := multiply_ok (Sm_w hw) ((b1.mul b2).sm (Nat.mul_ne_zero z.d0 z.d0') z.b1 (by have := z.b2; omega))
    have hi : (ipl s.ms one other)[i]? = some ((p.1.w : Rat) * (p.2.1 * p.2.2)) := by unfold ipl; rw [List.getElem?_map, hp]; rfl
    have hil : i < (ipl s.ms one other).length := (List.getElem?_eq_some_iff.mp hi).1
    refine ⟨_, _, rfl, .inl ?_, .d (encM p.1), .d (encQ p.2.1), .d (encQ p.2.2), rfl⟩
    rw [List.take_add_one, hi]
    obtain ⟨acc, hacc⟩ : ∃ acc, acc = (ipl s.ms one other).take i := ⟨_, rfl⟩
    have hal : acc.length < 100000 := by rw [hacc, List.length_take]; omega
    rw [← hacc]
    unfold b_product_of_1
    simp only [encM] at *
    simp [runDef, initT, gSeq, gNil, gRet, gRetN, gSet, gSetO, gEx, gIf, gPar, gAsg, gFrz, frzT, gRaise, fCl, fCons, fNil, fB, fU, fN, fV, fC, fTr, fNo, fAnd, fOr, vAnd, vOr, fNoV, fIf, fTup, fLst, fFr, fCh, lft, truD, bnd, bndS, gN, gT, gs0, gs1, isiD, tyD, lenDs, absDs, minDs, maxDs, tupDs, addD, subD, negD, ltD, leD, gtD, geD, isN, notN, ixO, fOix, fOln, gApp, putO, gPut, seqD, fSq, fLs, optD, fSl, slD, ixD, atI_c0, atI_c1, atI_c2, atI_map, modD_ok, lenDs, fRg1, fRg2, encQ_w, m1, m2, hal])
  obtain ⟨v4, v5, v6, rfl⟩ := e3
  rw [List.length_map, ← show (ipl s.ms one other).length = (s.ms.zip (one.zip other)).length by unfold ipl; rw [List.length_map], List.take_length, ← zip3D_map] at e2
  have ht := total_tot (Nat.mul_ne_zero z.d0 z.d0') hb z.b1 (by have := z.b2; omega) (by
    have : (ipl s.ms one other).length * (9 * (m * m')) ≤ 36 * (9 * (m * m')) := Nat.mul_le_mul_right _ hln
    have := z.b2
    omega)
  unfold f_product_of g_product_of
  simp only [encS] at e2 ⊢
  simp [runDef, initT, gSeq, gNil, gRet, gRetN, gSet, gSetO, gEx, gIf, gPar, gAsg, gFrz, frzT, gRaise, fCl, fCons, fNil, fB, fU, fN, fV, fC, fTr, fNo, fAnd, fOr, vAnd, vOr, fNoV, fIf, fTup, fLst, fFr, fCh, lft, truD, bnd, bndS, gN, gT, gs0, gs1, isiD, tyD, lenDs, absDs, minDs, maxDs, tupDs, addD, subD, negD, ltD, leD, gtD, geD, isN, notN, ixO, fOix, fOln, gApp, putO, gPut, seqD, fSq, fLs, optD, fSl, slD, ixD, atI_c0, atI_c1, atI_c2, atI_map, modD_ok, lenDs, fRg1, fRg2, fZ3, gFor, e2, ht, ip]
theorem law_inner_ok {s : Sc} (h : s.Ok) {one other : List Rat} {d m d' m' : Nat} (h1 : BL d m one) (h2 : BL d' m' other) (z : IpSz d m d' m') : f__law_inner [encS s, .tuple (one.map encQ), .tuple (other.map encQ)] = ok (encQ (ip s.ms one other)) := by
  have h36 := h.len
  have hb := ipl_bq (ms := s.ms) (fun x hx => (h.rg x hx).2.2.2) h1 h2 z.d0 z.d0'
  have hln : (ipl s.ms one other).length ≤ 36 := by
    unfold ipl
    rw [List.length_map, List.length_zip]
    omega
  obtain ⟨τ', e2, e3⟩ := forD_nx (g := gT (gs1 (gN 4) (gs1 (gN 5) (gs1 (gN 6) gs0)))) (b := b__law_inner_1) (xs := (s.ms.zip (one.zip other)).map fun p => PyData.tuple [encM p.1, encQ p.2.1, encQ p.2.2]) (τ := [.d (encS s), .d (.tuple (one.map encQ)), .d (.tuple (other.map encQ)), .o [], .u, .u, .u])
    (fun i τ => ∃ v4 v5 v6, τ = [.d (encS s), .d (.tuple (one.map encQ)), .d (.tuple (other.map encQ)), .o (((ipl s.ms one other).take i).map encQ), v4, v5, v6]) ⟨_, _, _, rfl⟩ (by
    rintro i x τ hx ⟨v4, v5, v6, rfl⟩
    rw [List.getElem?_map] at hx
    obtain ⟨p, hp, rfl⟩ := Option.map_eq_some_iff.mp hx
    have hpm := List.of_mem_zip (List.mem_of_getElem? hp)
    have hqm := List.of_mem_zip hpm.2
    have hw := (h.rg p.1 hpm.1).2.2.2
    have b1 := h1 _ hqm.1
    have b2 := h2 _ hqm.2
    have m1 := law_times_ok (b1.sm z.d0 z.dl z.b3) (b2.sm z.d0' z.dl' z.b4)
    have m2 := law_times_ok (Sm_w hw) ((b1.mul b2).sm (Nat.mul_ne_zero z.d0 z.d0') z.b1 (by have := z.b2; omega))
    have hi : (ipl s.ms one other)[i]? = some ((p.1.w : Rat) * (p.2.1 * p.2.2)) := by unfold ipl; rw [List.getElem?_map, hp]; rfl
    have hil : i < (ipl s.ms one other).length := (List.getElem?_eq_some_iff.mp hi).1
    refine ⟨_, _, rfl, .inl ?_, .d (encM p.1), .d (encQ p.2.1), .d (encQ p.2.2), rfl⟩
    rw [List.take_add_one, hi]
    obtain ⟨acc, hacc⟩ : ∃ acc, acc = (ipl s.ms one other).take i := ⟨_, rfl⟩
    have hal : acc.length < 100000 := by rw [hacc, List.length_take]; omega
    rw [← hacc]
    unfold b__law_inner_1
    simp only [encM] at *
    simp [runDef, initT, gSeq, gNil, gRet, gRetN, gSet, gSetO, gEx, gIf, gPar, gAsg, gFrz, frzT, gRaise, fCl, fCons, fNil, fB, fU, fN, fV, fC, fTr, fNo, fAnd, fOr, vAnd, vOr, fNoV, fIf, fTup, fLst, fFr, fCh, lft, truD, bnd, bndS, gN, gT, gs0, gs1, isiD, tyD, lenDs, absDs, minDs, maxDs, tupDs, addD, subD, negD, ltD, leD, gtD, geD, isN, notN, ixO, fOix, fOln, gApp, putO, gPut, seqD, fSq, fLs, optD, fSl, slD, ixD, atI_c0, atI_c1, atI_c2, atI_map, modD_ok, lenDs, fRg1, fRg2, encQ_w, m1, m2, hal])
  obtain ⟨v4, v5, v6, rfl⟩ := e3
  rw [List.length_map, ← show (ipl s.ms one other).length = (s.ms.zip (one.zip other)).length by unfold ipl; rw [List.length_map], List.take_length, ← zip3D_map] at e2
  have ht := law_total_tot (Nat.mul_ne_zero z.d0 z.d0') hb z.b1 (by have := z.b2; omega) (by
    have : (ipl s.ms one other).length * (9 * (m * m')) ≤ 36 * (9 * (m * m')) := Nat.mul_le_mul_right _ hln
    have := z.b2
    omega)
  unfold f__law_inner g__law_inner
  simp only [encS] at e2 ⊢
  simp [runDef, initT, gSeq, gNil, gRet, gRetN, gSet, gSetO, gEx, gIf, gPar, gAsg, gFrz, frzT, gRaise, fCl, fCons, fNil, fB, fU, fN, fV, fC, fTr, fNo, fAnd, fOr, vAnd, vOr, fNoV, fIf, fTup, fLst, fFr, fCh, lft, truD, bnd, bndS, gN, gT, gs0, gs1, isiD, tyD, lenDs, absDs, minDs, maxDs, tupDs, addD, subD, negD, ltD, leD, gtD, geD, isN, notN, ixO, fOix, fOln, gApp, putO, gPut, seqD, fSq, fLs, optD, fSl, slD, ixD, atI_c0, atI_c1, atI_c2, atI_map, modD_ok, lenDs, fRg1, fRg2, fZ3, gFor, e2, ht, ip]
/-! ### the law's surpluses -/
theorem law_surplus_ok {s : Sc} (h : s.Ok) {qs : List Rat} {d m : Nat} (hl : qs.length = s.ms.length) (hq : BL d m qs) (d0 : d ≠ 0) (hd : d < 2 ^ 4000) (hm : 400 * m < 2 ^ 4000) : f__law_surplus [encS s, .tuple (qs.map encQ)] = ok (.list ((mkQ s.n (sur (s.ms.zip qs))).map encQ)) := by
  have h36 := h.len
  have h6 := h.n6
  obtain ⟨τ', e2, e3⟩ := forD_nx (g := gT (gs1 (gN 3) (gs1 (gN 4) gs0))) (b := b__law_surplus_1) (xs := (s.ms.zip qs).map fun p => PyData.tuple [encM p.1, encQ p.2]) (τ := [.d (encS s), .d (.tuple (qs.map encQ)), .o ((mkQ s.n fun _ => 0).map encQ), .u, .u, .u])
    (fun i τ => i ≤ 36 ∧ ∃ f v3 v4 v5, τ = [.d (encS s), .d (.tuple (qs.map encQ)), .o ((mkQ s.n f).map encQ), v3, v4, v5] ∧ f = ((s.ms.zip qs).take i).foldl sst (fun _ => 0) ∧ ∀ k, Bq d (9 * m * i) (f k)) ⟨by omega, _, _, _, _, rfl, rfl, fun k => Bq.zero⟩ (by
    rintro i x τ hx ⟨hi36, f, v3, v4, v5, rfl, hf, hB⟩
    rw [List.getElem?_map] at hx
    obtain ⟨p, hp, rfl⟩ := Option.map_eq_some_iff.mp hx
    have hil : i < (s.ms.zip qs).length := (List.getElem?_eq_some_iff.mp hp).1
    rw [List.length_zip] at hil
    have hpm := List.of_mem_zip (List.mem_of_getElem? hp)
    obtain ⟨r1, r2, r3, r4⟩ := h.rg p.1 hpm.1
    have hl' : p.1.l < s.n := by omega
    have bq := hq p.2 hpm.2
    have bw := Bq_w bq r4 d0
    have big : 9 * m * i ≤ 400 * m := by
      have : 9 * m * i ≤ 9 * m * 36 := Nat.mul_le_mul_left _ hi36
      omega
    have smw : Sm 4000 ((p.1.w : Rat) * p.2) := bw.sm d0 hd (by omega)
    have smf : ∀ k, Sm 4000 (f k) := fun k => (hB k).sm d0 hd (by omega)
    have sq : Sm 4000 p.2 := bq.sm d0 hd (by omega)
    have a1 := mkQ_ix f hl'
    have s1 := mkQ_set f p.1.l (f p.1.l + (p.1.w : Rat) * p.2) hl'
    have a2 := mkQ_ix (fun k => if k = p.1.l then f p.1.l + (p.1.w : Rat) * p.2 else f k) r2
    have s2 := mkQ_set (fun k => if k = p.1.l then f p.1.l + (p.1.w : Rat) * p.2 else f k) p.1.r (f p.1.r - (p.1.w : Rat) * p.2) r2
    rw [if_neg (show ¬ p.1.r = p.1.l by omega)] at a2
    have ef : (fun k => if k = p.1.r then f p.1.r - (p.1.w : Rat) * p.2 else (fun k => if k = p.1.l then f p.1.l + (p.1.w : Rat) * p.2 else f k) k) = sst f p := by
      funext k
      simp only [sst, sgn]
      by_cases k1 : k = p.1.r
      · subst k1; rw [if_pos rfl, if_neg (by omega), if_pos rfl]; grind
      · rw [if_neg k1]
        by_cases k2 : k = p.1.l
        · rw [if_pos k2, if_pos k2, k2]; grind
        · rw [if_neg k2, if_neg k2, if_neg k1]; grind
    rw [ef] at s2
    refine ⟨_, [.d (encS s), .d (.tuple (qs.map encQ)), .o ((mkQ s.n (sst f p)).map encQ), .d (encM p.1), .d (encQ p.2), .d (encQ ((p.1.w : Rat) * p.2))], rfl, .inl ?_, by omega, _, _, _, _, rfl, ?_, fun k => ?_⟩
    · have mo := law_times_ok (Sm_w r4) sq
      have ao := law_plus_ok (smf p.1.l) smw
      have so := law_minus_ok (smf p.1.r) smw
      unfold b__law_surplus_1
      simp only [encM, List.length_map, mkQ_len, encQ_w] at a1 a2 s1 s2 ⊢
      simp [runDef, initT, gSeq, gNil, gRet, gRetN, gSet, gSetO, gEx, gIf, gPar, gAsg, gFrz, frzT, gRaise, fCl, fCons, fNil, fB, fU, fN, fV, fC, fTr, fNo, fAnd, fOr, vAnd, vOr, fNoV, fIf, fTup, fLst, fFr, fCh, lft, truD, bnd, bndS, gN, gT, gs0, gs1, isiD, tyD, lenDs, absDs, minDs, maxDs, tupDs, addD, subD, negD, ltD, leD, gtD, geD, isN, notN, ixO, fOix, fOln, gApp, putO, gPut, seqD, fSq, fLs, optD, fSl, slD, ixD, atI_c0, atI_c1, atI_c2, atI_map, modD_ok, lenDs, fRg1, fRg2, mo, a1, ao, ixN_nat hl', ixN_nat r2, mkQ_len, s1, a2, so, s2, encQ_w]
    · rw [List.take_add_one, hp, hf]; simp
    · exact ((hB k).add (bw.sgn' p.1 k) d0).le (by rw [Nat.mul_add]; omega))
  obtain ⟨_, f, v3, v4, v5, rfl, hf, _⟩ := e3
  have ef : f = sur (s.ms.zip qs) := by
    rw [hf, List.length_map, List.take_length, sst_fold]
    funext k
    grind
  subst ef
  have hz0 : (PyData.tuple [.int 0, .int 1] : D) = encQ 0 := rfl
  unfold f__law_surplus g__law_surplus
  rw [← zipD_map, mkQ_zero] at e2
  simp only [encS] at e2 ⊢
  simp [runDef, initT, gSeq, gNil, gRet, gRetN, gSet, gSetO, gEx, gIf, gPar, gAsg, gFrz, frzT, gRaise, fCl, fCons, fNil, fB, fU, fN, fV, fC, fTr, fNo, fAnd, fOr, vAnd, vOr, fNoV, fIf, fTup, fLst, fFr, fCh, lft, truD, bnd, bndS, gN, gT, gs0, gs1, isiD, tyD, lenDs, absDs, minDs, maxDs, tupDs, addD, subD, negD, ltD, leD, gtD, geD, isN, notN, ixO, fOix, fOln, gApp, putO, gPut, seqD, fSq, fLs, optD, fSl, slD, ixD, atI_c0, atI_c1, atI_c2, atI_map, modD_ok, lenDs, fRg1, fRg2, fRep, hz0, show s.n < 9223372036854775808 by omega, show s.n ≤ 100000 by omega, fZp, gFor, e2]
/-! ### differences -/
def grq (ms : List Mt) (x : Nat → Rat) : List Rat := ms.map fun m => x m.l - x m.r
theorem gr_zip (x : Nat → Rat) : ∀ ms : List Mt, ms.zip (grq ms x) = gr ms x
  | [] => rfl
  | m :: ms => by
    have ih := gr_zip x ms
    simp only [grq, gr, List.map_cons, List.zip_cons_cons] at *
    rw [ih]
theorem grq_len (ms : List Mt) (x : Nat → Rat) : (grq ms x).length = ms.length := by simp [grq]
theorem grq_bq {ms : List Mt} {x : Nat → Rat} {d m : Nat} (h : ∀ j, Bq d m (x j)) (d0 : d ≠ 0) : BL d (2 * m) (grq ms x) := by
  intro q hq
  obtain ⟨a, _, rfl⟩ := List.mem_map.mp hq
  exact ((h a.l).sub (h a.r) d0).le (by omega)
theorem differences_of_ok {s : Sc} (h : s.Ok) {x : Nat → Rat} (hx : ∀ j, Sm 4000 (x j)) (k : Bool) : f_differences_of [encS s, (if k then .tuple ((mkQ s.n x).map encQ) else .list ((mkQ s.n x).map encQ))] = ok (.tuple ((grq s.ms x).map encQ)) := by
  have h36 := h.len
  have e1 : ∀ V : D, (∀ p, p < s.n → ixD V (.int (p : Nat)) = some (encQ (x p))) → lcD (gT (gs1 (gN 2) (gs1 (gN 3) (gs1 (gN 4) gs0)))) fYes e_differences_of_1 [.d (encS s), .d V, .u, .u, .u] (s.ms.map encM) = some ((grq s.ms x).map encQ) := by
    intro V hV
    unfold grq
    rw [List.map_map]
    refine lcD_all (f := encM) s.ms fun m hm => ⟨_, rfl, ?_⟩
    obtain ⟨r1, r2, _⟩ := h.rg m hm
    have a1 := hV m.l (by omega)
    have a2 := hV m.r r2
    have so := subtract_ok (hx m.l) (hx m.r)
    unfold e_differences_of_1
    simp [fCl, fCons, fNil, fB, fV, bnd, lft, a1, a2, so]
  have ix : ∀ p, p < s.n → L2.atI ((mkQ s.n x).map encQ) (p : Int) = some (encQ (x p)) := fun p hp => mkQ_ix x hp
  cases k with
  | true =>
    have := e1 (.tuple ((mkQ s.n x).map encQ)) ix
    unfold f_differences_of g_differences_of
    simp only [encS] at this ⊢
    simp [runDef, initT, gSeq, gNil, gRet, gRetN, gSet, gSetO, gEx, gIf, gPar, gAsg, gFrz, frzT, gRaise, fCl, fCons, fNil, fB, fU, fN, fV, fC, fTr, fNo, fAnd, fOr, vAnd, vOr, fNoV, fIf, fTup, fLst, fFr, fCh, lft, truD, bnd, bndS, gN, gT, gs0, gs1, isiD, tyD, lenDs, absDs, minDs, maxDs, tupDs, addD, subD, negD, ltD, leD, gtD, geD, isN, notN, ixO, fOix, fOln, gApp, putO, gPut, seqD, fSq, fLs, optD, fSl, slD, ixD, atI_c0, atI_c1, atI_c2, atI_map, modD_ok, lenDs, fRg1, fRg2, fLc, show s.ms.length ≤ 100000 by omega, wipeT, this]
  | false =>
    have := e1 (.list ((mkQ s.n x).map encQ)) ix
    unfold f_differences_of g_differences_of
    simp only [encS] at this ⊢
    simp [runDef, initT, gSeq, gNil, gRet, gRetN, gSet, gSetO, gEx, gIf, gPar, gAsg, gFrz, frzT, gRaise, fCl, fCons, fNil, fB, fU, fN, fV, fC, fTr, fNo, fAnd, fOr, vAnd, vOr, fNoV, fIf, fTup, fLst, fFr, fCh, lft, truD, bnd, bndS, gN, gT, gs0, gs1, isiD, tyD, lenDs, absDs, minDs, maxDs, tupDs, addD, subD, negD, ltD, leD, gtD, geD, isN, notN, ixO, fOix, fOln, gApp, putO, gPut, seqD, fSq, fLs, optD, fSl, slD, ixD, atI_c0, atI_c1, atI_c2, atI_map, modD_ok, lenDs, fRg1, fRg2, fLc, show s.ms.length ≤ 100000 by omega, wipeT, this]
def subL (one other : List Rat) : List Rat := List.zipWith (fun a b => a - b) one other
theorem subL_len {one other : List Rat} (h : one.length = other.length) : (subL one other).length = one.length := by
  unfold subL; rw [List.length_zipWith]; omega
theorem subL_bq {one other : List Rat} {d m m' : Nat} (h1 : BL d m one) (h2 : BL d m' other) (d0 : d ≠ 0) : BL d (m + m') (subL one other) := by
  intro q hq
  unfold subL at hq
  rw [← List.map_uncurry_zip_eq_zipWith] at hq
  obtain ⟨p, hp, rfl⟩ := List.mem_map.mp hq
  have := List.of_mem_zip hp
  exact (h1 _ this.1).sub (h2 _ this.2) d0
theorem minus_ok {one other : List Rat} (h1 : ∀ q ∈ one, Sm 4000 q) (h2 : ∀ q ∈ other, Sm 4000 q) (hl : one.length ≤ 1000) : f_minus [.tuple (one.map encQ), .tuple (other.map encQ)] = ok (.tuple ((subL one other).map encQ)) := by
  have e1 : lcD (gT (gs1 (gN 2) (gs1 (gN 3) gs0))) fYes e_minus_1 [.d (.tuple (one.map encQ)), .d (.tuple (other.map encQ)), .u, .u] (zipD (one.map encQ) (other.map encQ)) = some ((subL one other).map encQ) := by
    rw [zipD_map, show (subL one other).map encQ = (one.zip other).map (fun p => encQ (p.1 - p.2)) by unfold subL; rw [List.zip, List.map_zipWith, List.map_zipWith]]
    refine lcD_all (f := fun p : Rat × Rat => PyData.tuple [encQ p.1, encQ p.2]) (one.zip other) fun p hp => ⟨_, rfl, ?_⟩
    have := List.of_mem_zip hp
    have so := subtract_ok (h1 _ this.1) (h2 _ this.2)
    unfold e_minus_1
    simp [runDef, initT, gSeq, gNil, gRet, gRetN, gSet, gSetO, gEx, gIf, gPar, gAsg, gFrz, frzT, gRaise, fCl, fCons, fNil, fB, fU, fN, fV, fC, fTr, fNo, fAnd, fOr, vAnd, vOr, fNoV, fIf, fTup, fLst, fFr, fCh, lft, truD, bnd, bndS, gN, gT, gs0, gs1, isiD, tyD, lenDs, absDs, minDs, maxDs, tupDs, addD, subD, negD, ltD, leD, gtD, geD, isN, notN, ixO, fOix, fOln, gApp, putO, gPut, seqD, fSq, fLs, optD, fSl, slD, ixD, atI_c0, atI_c1, atI_c2, atI_map, modD_ok, lenDs, fRg1, fRg2, so]
  have hz : (zipD (one.map encQ) (other.map encQ)).length ≤ 100000 := by
    unfold zipD
    rw [List.length_zipWith, List.length_map]
    omega
  unfold f_minus g_minus
  simp [runDef, initT, gSeq, gNil, gRet, gRetN, gSet, gSetO, gEx, gIf, gPar, gAsg, gFrz, frzT, gRaise, fCl, fCons, fNil, fB, fU, fN, fV, fC, fTr, fNo, fAnd, fOr, vAnd, vOr, fNoV, fIf, fTup, fLst, fFr, fCh, lft, truD, bnd, bndS, gN, gT, gs0, gs1, isiD, tyD, lenDs, absDs, minDs, maxDs, tupDs, addD, subD, negD, ltD, leD, gtD, geD, isN, notN, ixO, fOix, fOln, gApp, putO, gPut, seqD, fSq, fLs, optD, fSl, slD, ixD, atI_c0, atI_c1, atI_c2, atI_map, modD_ok, lenDs, fRg1, fRg2, fZp, fLc, hz, wipeT, e1]
theorem law_apart_ok {one other : List Rat} (h1 : ∀ q ∈ one, Sm 4000 q) (h2 : ∀ q ∈ other, Sm 4000 q) (hl : one.length ≤ 1000) : f__law_apart [.tuple (one.map encQ), .tuple (other.map encQ)] = ok (.tuple ((subL one other).map encQ)) := by
  have e1 : lcD (gT (gs1 (gN 2) (gs1 (gN 3) gs0))) fYes e__law_apart_1 [.d (.tuple (one.map encQ)), .d (.tuple (other.map encQ)), .u, .u] (zipD (one.map encQ) (other.map encQ)) = some ((subL one other).map encQ) := by
    rw [zipD_map, show (subL one other).map encQ = (one.zip other).map (fun p => encQ (p.1 - p.2)) by unfold subL; rw [List.zip, List.map_zipWith, List.map_zipWith]]
    refine lcD_all (f := fun p : Rat × Rat => PyData.tuple [encQ p.1, encQ p.2]) (one.zip other) fun p hp => ⟨_, rfl, ?_⟩
    have := List.of_mem_zip hp
    have so := law_minus_ok (h1 _ this.1) (h2 _ this.2)
    unfold e__law_apart_1
    simp [runDef, initT, gSeq, gNil, gRet, gRetN, gSet, gSetO, gEx, gIf, gPar, gAsg, gFrz, frzT, gRaise, fCl, fCons, fNil, fB, fU, fN, fV, fC, fTr, fNo, fAnd, fOr, vAnd, vOr, fNoV, fIf, fTup, fLst, fFr, fCh, lft, truD, bnd, bndS, gN, gT, gs0, gs1, isiD, tyD, lenDs, absDs, minDs, maxDs, tupDs, addD, subD, negD, ltD, leD, gtD, geD, isN, notN, ixO, fOix, fOln, gApp, putO, gPut, seqD, fSq, fLs, optD, fSl, slD, ixD, atI_c0, atI_c1, atI_c2, atI_map, modD_ok, lenDs, fRg1, fRg2, so]
  have hz : (zipD (one.map encQ) (other.map encQ)).length ≤ 100000 := by
    unfold zipD
    rw [List.length_zipWith, List.length_map]
    omega
  unfold f__law_apart g__law_apart
  simp [runDef, initT, gSeq, gNil, gRet, gRetN, gSet, gSetO, gEx, gIf, gPar, gAsg, gFrz, frzT, gRaise, fCl, fCons, fNil, fB, fU, fN, fV, fC, fTr, fNo, fAnd, fOr, vAnd, vOr, fNoV, fIf, fTup, fLst, fFr, fCh, lft, truD, bnd, bndS, gN, gT, gs0, gs1, isiD, tyD, lenDs, absDs, minDs, maxDs, tupDs, addD, subD, negD, ltD, leD, gtD, geD, isN, notN, ixO, fOix, fOln, gApp, putO, gPut, seqD, fSq, fLs, optD, fSl, slD, ixD, atI_c0, atI_c1, atI_c2, atI_map, modD_ok, lenDs, fRg1, fRg2, fZp, fLc, hz, wipeT, e1]
/-! ### parts -/
/-- margins with a common denominator d below 2^E, their numbers below 2^B / 400 -/
structure Mg (s : Sc) (d m E B : Nat) (qs : List Rat) : Prop where
  ln : qs.length = s.ms.length
  bl : BL d m qs
  d0 : d ≠ 0
  dE : d ≤ 2 ^ E
  mB : 400 * m ≤ 2 ^ B
theorem p4000 {x : Nat} (h : x < 4000) : (2 : Nat) ^ x < 2 ^ 4000 := Nat.pow_lt_pow_right (by decide) h
theorem Mg.dl {s : Sc} {d m E B : Nat} {qs : List Rat} (h : Mg s d m E B qs) (hE : E < 4000) : d < 2 ^ 4000 := Nat.lt_of_le_of_lt h.dE (p4000 hE)
theorem Mg.ml {s : Sc} {d m E B : Nat} {qs : List Rat} (h : Mg s d m E B qs) (hB : B < 4000) : 400 * m < 2 ^ 4000 := Nat.lt_of_le_of_lt h.mB (p4000 hB)
theorem Mg.sm {s : Sc} {d m E B : Nat} {qs : List Rat} (h : Mg s d m E B qs) (hE : E < 4000) (hB : B < 4000) : ∀ q ∈ qs, Sm 4000 q := fun q hq => (h.bl q hq).sm h.d0 (h.dl hE) (by have := h.ml hB; omega)
/-- the gradient part, the cyclic part -/
def grad (s : Sc) (qs : List Rat) : List Rat := grq s.ms (fit s qs)
def cyc' (s : Sc) (qs : List Rat) : List Rat := subL qs (grad s qs)
theorem fit_sz {s : Sc} (h : s.Ok) {qs : List Rat} {d m E B : Nat} (g : Mg s d m E B qs) (hz : B + E ≤ 2900) : f_fitted [encS s, .tuple (qs.map encQ)] = ok (.tuple ((mkQ s.n (fit s qs)).map encQ)) ∧ ∃ k, k ≠ 0 ∧ k ≤ 2 ^ 639 ∧ (∀ j, Bq (k * d) (2 ^ (B + 630)) (fit s qs j)) ∧
    Mg s (k * d) (2 * 2 ^ (B + 630)) (639 + E) (B + 640) (grad s qs) ∧ Mg s (k * d) (k * m + 2 * 2 ^ (B + 630)) (639 + E) (B + 641) (cyc' s qs) := by
  obtain ⟨e, k, k0, kl, hk⟩ := fitted_ok h g.ln g.bl g.d0 g.dE g.mB hz
  have kd0 := Nat.mul_ne_zero k0 g.d0
  have g1 : BL (k * d) (2 * 2 ^ (B + 630)) (grad s qs) := grq_bq hk kd0
  have hl : (grad s qs).length = s.ms.length := grq_len ..
  refine ⟨e, k, k0, kl, hk, ⟨hl, g1, kd0, mul_pow kl g.dE, ?_⟩, ⟨?_, subL_bq (fun q hq => (g.bl q hq).scale k0 g.d0) g1 kd0, kd0, mul_pow kl g.dE, ?_⟩⟩
  · have e1 : 2 ^ (B + 640) = 1024 * 2 ^ (B + 630) := by rw [show B + 640 = 10 + (B + 630) by omega]; exact Nat.pow_add 2 10 (B + 630)
    rw [e1]
    generalize 2 ^ (B + 630) = X
    omega
  · rw [show (cyc' s qs).length = qs.length from subL_len (by rw [hl, g.ln])]; exact g.ln
  · have h1 : k * (400 * m) ≤ 2 ^ (639 + B) := mul_pow kl g.mB
    have h2 : 400 * (k * m + 2 * 2 ^ (B + 630)) = k * (400 * m) + 800 * 2 ^ (B + 630) := by
      rw [Nat.mul_add, Nat.mul_left_comm 400 k m]; omega
    have e1 : 2 ^ (B + 641) = 2048 * 2 ^ (B + 630) := by rw [show B + 641 = 11 + (B + 630) by omega]; exact Nat.pow_add 2 11 (B + 630)
    have e2 : 2 ^ (639 + B) = 512 * 2 ^ (B + 630) := by rw [show 639 + B = 9 + (B + 630) by omega]; exact Nat.pow_add 2 9 (B + 630)
    rw [h2, e1]
    rw [e2] at h1
    generalize k * (400 * m) = Y at *
    generalize 2 ^ (B + 630) = X at *
    omega
theorem gradient_of_ok {s : Sc} (h : s.Ok) {qs : List Rat} {d m E B : Nat} (g : Mg s d m E B qs) (hz : B + E ≤ 2900) : f_gradient_of [encS s, .tuple (qs.map encQ)] = ok (.tuple ((grad s qs).map encQ)) := by
  obtain ⟨e, k, k0, kl, hk, g1, _⟩ := fit_sz h g hz
  have sf : ∀ j, Sm 4000 (fit s qs j) := fun j => (hk j).sm g1.d0 (g1.dl (by omega)) (p4000 (by omega))
  have := differences_of_ok h sf true
  rw [if_pos rfl] at this
  unfold f_gradient_of g_gradient_of
  simp [runDef, initT, gSeq, gNil, gRet, gRetN, gSet, gSetO, gEx, gIf, gPar, gAsg, gFrz, frzT, gRaise, fCl, fCons, fNil, fB, fU, fN, fV, fC, fTr, fNo, fAnd, fOr, vAnd, vOr, fNoV, fIf, fTup, fLst, fFr, fCh, lft, truD, bnd, bndS, gN, gT, gs0, gs1, isiD, tyD, lenDs, absDs, minDs, maxDs, tupDs, addD, subD, negD, ltD, leD, gtD, geD, isN, notN, ixO, fOix, fOln, gApp, putO, gPut, seqD, fSq, fLs, optD, fSl, slD, ixD, atI_c0, atI_c1, atI_c2, atI_map, modD_ok, lenDs, fRg1, fRg2, e, this, grad]
theorem gradient_part_ok {s : Sc} (h : s.Ok) {qs : List Rat} {d m E B : Nat} (g : Mg s d m E B qs) (hz : B + E ≤ 2900) : f_gradient_part [encS s, .tuple (qs.map encQ)] = ok (.tuple ((grad s qs).map encQ)) := by
  unfold f_gradient_part g_gradient_part
  simp [runDef, initT, gSeq, gNil, gRet, gRetN, gSet, gSetO, gEx, gIf, gPar, gAsg, gFrz, frzT, gRaise, fCl, fCons, fNil, fB, fU, fN, fV, fC, fTr, fNo, fAnd, fOr, vAnd, vOr, fNoV, fIf, fTup, fLst, fFr, fCh, lft, truD, bnd, bndS, gN, gT, gs0, gs1, isiD, tyD, lenDs, absDs, minDs, maxDs, tupDs, addD, subD, negD, ltD, leD, gtD, geD, isN, notN, ixO, fOix, fOln, gApp, putO, gPut, seqD, fSq, fLs, optD, fSl, slD, ixD, atI_c0, atI_c1, atI_c2, atI_map, modD_ok, lenDs, fRg1, fRg2, check_margins_ok h g.ln, gradient_of_ok h g hz]
theorem cyclic_part_ok {s : Sc} (h : s.Ok) {qs : List Rat} {d m E B : Nat} (g : Mg s d m E B qs) (hz : B + E ≤ 2900) : f_cyclic_part [encS s, .tuple (qs.map encQ)] = ok (.tuple ((cyc' s qs).map encQ)) := by
  obtain ⟨_, k, k0, kl, hk, g1, _⟩ := fit_sz h g hz
  have h36 := h.len
  have := minus_ok (g.sm (by omega) (by omega)) (g1.sm (by omega) (by omega)) (by rw [g.ln]; omega)
  unfold f_cyclic_part g_cyclic_part
  simp [runDef, initT, gSeq, gNil, gRet, gRetN, gSet, gSetO, gEx, gIf, gPar, gAsg, gFrz, frzT, gRaise, fCl, fCons, fNil, fB, fU, fN, fV, fC, fTr, fNo, fAnd, fOr, vAnd, vOr, fNoV, fIf, fTup, fLst, fFr, fCh, lft, truD, bnd, bndS, gN, gT, gs0, gs1, isiD, tyD, lenDs, absDs, minDs, maxDs, tupDs, addD, subD, negD, ltD, leD, gtD, geD, isN, notN, ixO, fOix, fOln, gApp, putO, gPut, seqD, fSq, fLs, optD, fSl, slD, ixD, atI_c0, atI_c1, atI_c2, atI_map, modD_ok, lenDs, fRg1, fRg2, check_margins_ok h g.ln, gradient_of_ok h g hz, this, cyc']
theorem strengths_ok {s : Sc} (h : s.Ok) {qs : List Rat} {d m E B : Nat} (g : Mg s d m E B qs) (hz : B + E ≤ 2900) : f_strengths [encS s, .tuple (qs.map encQ)] = ok (.tuple ((mkQ s.n (fit s qs)).map encQ)) := by
  obtain ⟨e, _⟩ := fit_sz h g hz
  unfold f_strengths g_strengths
  simp [runDef, initT, gSeq, gNil, gRet, gRetN, gSet, gSetO, gEx, gIf, gPar, gAsg, gFrz, frzT, gRaise, fCl, fCons, fNil, fB, fU, fN, fV, fC, fTr, fNo, fAnd, fOr, vAnd, vOr, fNoV, fIf, fTup, fLst, fFr, fCh, lft, truD, bnd, bndS, gN, gT, gs0, gs1, isiD, tyD, lenDs, absDs, minDs, maxDs, tupDs, addD, subD, negD, ltD, leD, gtD, geD, isN, notN, ixO, fOix, fOln, gApp, putO, gPut, seqD, fSq, fLs, optD, fSl, slD, ixD, atI_c0, atI_c1, atI_c2, atI_map, modD_ok, lenDs, fRg1, fRg2, check_margins_ok h g.ln, e]
theorem surplus_ok {s : Sc} (h : s.Ok) {qs : List Rat} {d m E B : Nat} (g : Mg s d m E B qs) (hE : E < 4000) (hB : B < 4000) : f_surplus [encS s, .tuple (qs.map encQ)] = ok (.list ((mkQ s.n (sur (s.ms.zip qs))).map encQ)) := by
  unfold f_surplus g_surplus
  simp [runDef, initT, gSeq, gNil, gRet, gRetN, gSet, gSetO, gEx, gIf, gPar, gAsg, gFrz, frzT, gRaise, fCl, fCons, fNil, fB, fU, fN, fV, fC, fTr, fNo, fAnd, fOr, vAnd, vOr, fNoV, fIf, fTup, fLst, fFr, fCh, lft, truD, bnd, bndS, gN, gT, gs0, gs1, isiD, tyD, lenDs, absDs, minDs, maxDs, tupDs, addD, subD, negD, ltD, leD, gtD, geD, isN, notN, ixO, fOix, fOln, gApp, putO, gPut, seqD, fSq, fLs, optD, fSl, slD, ixD, atI_c0, atI_c1, atI_c2, atI_map, modD_ok, lenDs, fRg1, fRg2, check_margins_ok h g.ln, surplus_of_ok h g.ln g.bl g.d0 (g.dl hE) (g.ml hB)]
theorem energy_ok {s : Sc} (h : s.Ok) {qs : List Rat} (hl : qs.length = s.ms.length) {d m : Nat} (hq : BL d m qs) (z : IpSz d m d m) : f_energy [encS s, .tuple (qs.map encQ)] = ok (encQ (ip s.ms qs qs)) := by
  unfold f_energy g_energy
  simp [runDef, initT, gSeq, gNil, gRet, gRetN, gSet, gSetO, gEx, gIf, gPar, gAsg, gFrz, frzT, gRaise, fCl, fCons, fNil, fB, fU, fN, fV, fC, fTr, fNo, fAnd, fOr, vAnd, vOr, fNoV, fIf, fTup, fLst, fFr, fCh, lft, truD, bnd, bndS, gN, gT, gs0, gs1, isiD, tyD, lenDs, absDs, minDs, maxDs, tupDs, addD, subD, negD, ltD, leD, gtD, geD, isN, notN, ixO, fOix, fOln, gApp, putO, gPut, seqD, fSq, fLs, optD, fSl, slD, ixD, atI_c0, atI_c1, atI_c2, atI_map, modD_ok, lenDs, fRg1, fRg2, check_margins_ok h hl, product_ok h hq hq z]
theorem inner_product_ok {s : Sc} (h : s.Ok) {one other : List Rat} (hl : one.length = s.ms.length) (hl' : other.length = s.ms.length) {d m d' m' : Nat} (h1 : BL d m one) (h2 : BL d' m' other) (z : IpSz d m d' m') : f_inner_product [encS s, .tuple (one.map encQ), .tuple (other.map encQ)] = ok (encQ (ip s.ms one other)) := by
  unfold f_inner_product g_inner_product
  simp [runDef, initT, gSeq, gNil, gRet, gRetN, gSet, gSetO, gEx, gIf, gPar, gAsg, gFrz, frzT, gRaise, fCl, fCons, fNil, fB, fU, fN, fV, fC, fTr, fNo, fAnd, fOr, vAnd, vOr, fNoV, fIf, fTup, fLst, fFr, fCh, lft, truD, bnd, bndS, gN, gT, gs0, gs1, isiD, tyD, lenDs, absDs, minDs, maxDs, tupDs, addD, subD, negD, ltD, leD, gtD, geD, isN, notN, ixO, fOix, fOln, gApp, putO, gPut, seqD, fSq, fLs, optD, fSl, slD, ixD, atI_c0, atI_c1, atI_c2, atI_map, modD_ok, lenDs, fRg1, fRg2, check_margins_ok h hl, check_margins_ok h hl', product_ok h h1 h2 z]
theorem ipsz {s : Sc} {d m E B d' m' E' B' : Nat} {qs qs' : List Rat} (g : Mg s d m E B qs) (g' : Mg s d' m' E' B' qs') (h1 : E + E' < 4000) (h2 : B + B' < 4000) : IpSz d m d' m' where
  d0 := g.d0
  d0' := g'.d0
  b1 := Nat.lt_of_le_of_lt (mul_pow g.dE g'.dE) (p4000 h1)
  b2 := by
    have a : 400 * m * (400 * m') ≤ 2 ^ (B + B') := mul_pow g.mB g'.mB
    have b : 400 * m * (400 * m') = 400 * (400 * (m * m')) := by rw [Nat.mul_assoc, Nat.mul_left_comm m 400 m']
    have c := p4000 h2
    omega
  b3 := by have := g.ml (B := B) (by omega); omega
  b4 := by have := g'.ml (B := B') (by omega); omega
theorem dm_mg {s : Sc} {qs : List Rat} (hl : qs.length = s.ms.length) (hb : ∀ q ∈ qs, Dm q) : Mg s 6 120 3 16 qs := ⟨hl, hb, by decide, by decide, by decide⟩
end LW
set_option Elab.async false
set_option linter.all false
set_option maxRecDepth 100000
set_option maxHeartbeats 4000000
/-! P2: margins that are none; comparisons -/
namespace LW
open PySem DL LA
def encT (r : List Rat) : D := .tuple (r.map encQ)
theorem encT_pl (r : List Rat) : Pl 2 (encT r) := plTup (plMap encQ_pl r)
theorem encT_eqv (a b : List Rat) : PyData.eqv (encT a) (encT b) = decide (a = b) := by
  unfold encT
  rw [PyData.eqv, eqvAll_map encQ_eqv]
theorem eqD_R (a b : List Rat) : eqD (.list (a.map encQ)) (.list (b.map encQ)) = some (.bool (decide (a = b))) := by
  have := eqD_of (encR_pl a) (encR_pl b)
  rw [encR_eqv] at this
  exact this
theorem neD_R (a b : List Rat) : neD (.list (a.map encQ)) (.list (b.map encQ)) = some (.bool (!decide (a = b))) := by
  have := neD_of (encR_pl a) (encR_pl b)
  rw [encR_eqv] at this
  exact this
theorem eqD_T (a b : List Rat) : eqD (.tuple (a.map encQ)) (.tuple (b.map encQ)) = some (.bool (decide (a = b))) := by
  have := eqD_of (encT_pl a) (encT_pl b)
  rw [encT_eqv] at this
  exact this
theorem neD_T (a b : List Rat) : neD (.tuple (a.map encQ)) (.tuple (b.map encQ)) = some (.bool (!decide (a = b))) := by
  have := neD_of (encT_pl a) (encT_pl b)
  rw [encT_eqv] at this
  exact this
theorem eqD_Q (a b : Rat) : eqD (encQ a) (encQ b) = some (.bool (decide (a = b))) := by rw [eqD_of (encQ_pl a) (encQ_pl b), encQ_eqv]
theorem neD_Q (a b : Rat) : neD (encQ a) (encQ b) = some (.bool (!decide (a = b))) := by rw [neD_of (encQ_pl a) (encQ_pl b), encQ_eqv]
theorem Q0 : (PyData.tuple [.int 0, .int 1] : D) = encQ 0 := rfl
theorem Q1 : (PyData.tuple [.int 1, .int 1] : D) = encQ 1 := rfl
/-! ### no rational numbers -/
inductive BadQ : D → Prop
  | b1 : BadQ (.tuple [.int 2, .int 4])
  | b2 : BadQ (.tuple [.int 1, .int 0])
  | b3 : BadQ (.tuple [.int 1, .int (-2)])
  | b4 (i : Int) : BadQ (.int i)
  | b5 : BadQ (.tuple [.int 0, .int 2])
  | b6 : BadQ (.tuple [.none, .int 1])
  | b7 : BadQ (.tuple [.int 1])
  | b8 : BadQ (.tuple [.int 2, .int 2])
  | b9 : BadQ .none
theorem bad_rational {x : D} (h : BadQ x) : f_is_rational [x] = ok (.bool false) := by
  unfold f_is_rational g_is_rational
  cases h <;> simp [runDef, initT, gSeq, gNil, gRet, gRetN, gSet, gSetO, gEx, gIf, gPar, gAsg, gFrz, frzT, gRaise, fCl, fCons, fNil, fB, fU, fN, fV, fC, fTr, fNo, fAnd, fOr, vAnd, vOr, fNoV, fIf, fTup, fLst, fFr, fCh, lft, truD, bnd, bndS, gN, gT, gs0, gs1, isiD, tyD, lenDs, absDs, minDs, maxDs, tupDs, addD, subD, negD, ltD, leD, gtD, geD, isN, notN, ixO, fOix, fOln, gApp, putO, gPut, seqD, fSq, fLs, optD, fSl, slD, ixD, atI_c0, atI_c1, atI_c2, atI_map, modD_ok, lenDs, fRg1, fRg2, is_integer_int, is_integer_non, kb_tuple_tuple, kb_int_tuple, kb_non_tuple, gcd_ok, eqD_int, neD_int] <;> decide
theorem law_whole_int (i : Int) : f__law_whole [.int i] = ok (.bool true) := by
  unfold f__law_whole g__law_whole
  simp [runDef, initT, gSeq, gNil, gRet, gRetN, gSet, gSetO, gEx, gIf, gPar, gAsg, gFrz, frzT, gRaise, fCl, fCons, fNil, fB, fU, fN, fV, fC, fTr, fNo, fAnd, fOr, vAnd, vOr, fNoV, fIf, fTup, fLst, fFr, fCh, lft, truD, bnd, bndS, gN, gT, gs0, gs1, isiD, tyD, lenDs, absDs, minDs, maxDs, tupDs, addD, subD, negD, ltD, leD, gtD, geD, isN, notN, ixO, fOix, fOln, gApp, putO, gPut, seqD, fSq, fLs, optD, fSl, slD, ixD, atI_c0, atI_c1, atI_c2, atI_map, modD_ok, lenDs, fRg1, fRg2, kb_int_int, kb_int_bool]
theorem law_whole_non : f__law_whole [.none] = ok (.bool false) := by
  unfold f__law_whole g__law_whole
  simp [runDef, initT, gSeq, gNil, gRet, gRetN, gSet, gSetO, gEx, gIf, gPar, gAsg, gFrz, frzT, gRaise, fCl, fCons, fNil, fB, fU, fN, fV, fC, fTr, fNo, fAnd, fOr, vAnd, vOr, fNoV, fIf, fTup, fLst, fFr, fCh, lft, truD, bnd, bndS, gN, gT, gs0, gs1, isiD, tyD, lenDs, absDs, minDs, maxDs, tupDs, addD, subD, negD, ltD, leD, gtD, geD, isN, notN, ixO, fOix, fOln, gApp, putO, gPut, seqD, fSq, fLs, optD, fSl, slD, ixD, atI_c0, atI_c1, atI_c2, atI_map, modD_ok, lenDs, fRg1, fRg2, kb_non_int, kb_non_bool]
/-- what no schedule s has as margins -/
inductive BadM (s : Sc) : D → Prop
  | non : BadM s .none
  | lst (xs : List D) : BadM s (.list xs)
  | len (xs : List D) : xs.length ≠ s.ms.length → BadM s (.tuple xs)
  | bad (qs : List Rat) (x : D) : qs.length + 1 = s.ms.length → BadQ x → BadM s (.tuple (qs.map encQ ++ [x]))
theorem lcD_append {g : D → Ta → Option Ta} {t : Ta → R Bool} {e : Ta → R D} {τ : Ta} : ∀ (xs ys as bs : List D), lcD g t e τ xs = some as → lcD g t e τ ys = some bs → lcD g t e τ (xs ++ ys) = some (as ++ bs)
  | [], ys, as, bs, h, h' => by cases h; exact h'
  | x :: xs, ys, as, bs, h, h' => by
    rw [List.cons_append, lcD]
    rw [lcD] at h
    cases hg : g x τ with
    | none => rw [hg] at h; cases h
    | some τ1 =>
      rw [hg, Option.bind_some] at h
      rw [Option.bind_some]
      cases ht : t τ1 with
      | none => rw [ht] at h; cases h
      | some r =>
        rw [ht] at h
        cases r with
        | error n => cases h
        | ok b =>
          cases b with
          | false => exact lcD_append xs ys as bs h h'
          | true =>
            simp only at h ⊢
            cases he : e τ1 with
            | none => rw [he] at h; cases h
            | some r =>
              rw [he] at h
              cases r with
              | error n => cases h
              | ok d =>
                simp only at h ⊢
                obtain ⟨cs, e1, rfl⟩ := Option.map_eq_some_iff.mp h
                rw [lcD_append xs ys cs bs e1 h']
                rfl
theorem bad_margins {s : Sc} (h : s.Ok) {v : D} (hv : BadM s v) : f_is_margins [encS s, v] = ok (.bool false) := by
  have h36 := h.len
  unfold f_is_margins g_is_margins encS
  cases hv with
  | non => simp [runDef, initT, gSeq, gNil, gRet, gRetN, gSet, gSetO, gEx, gIf, gPar, gAsg, gFrz, frzT, gRaise, fCl, fCons, fNil, fB, fU, fN, fV, fC, fTr, fNo, fAnd, fOr, vAnd, vOr, fNoV, fIf, fTup, fLst, fFr, fCh, lft, truD, bnd, bndS, gN, gT, gs0, gs1, isiD, tyD, lenDs, absDs, minDs, maxDs, tupDs, addD, subD, negD, ltD, leD, gtD, geD, isN, notN, ixO, fOix, fOln, gApp, putO, gPut, seqD, fSq, fLs, optD, fSl, slD, ixD, atI_c0, atI_c1, atI_c2, atI_map, modD_ok, lenDs, fRg1, fRg2, kb_non_tuple]
  | lst xs => simp [runDef, initT, gSeq, gNil, gRet, gRetN, gSet, gSetO, gEx, gIf, gPar, gAsg, gFrz, frzT, gRaise, fCl, fCons, fNil, fB, fU, fN, fV, fC, fTr, fNo, fAnd, fOr, vAnd, vOr, fNoV, fIf, fTup, fLst, fFr, fCh, lft, truD, bnd, bndS, gN, gT, gs0, gs1, isiD, tyD, lenDs, absDs, minDs, maxDs, tupDs, addD, subD, negD, ltD, leD, gtD, geD, isN, notN, ixO, fOix, fOln, gApp, putO, gPut, seqD, fSq, fLs, optD, fSl, slD, ixD, atI_c0, atI_c1, atI_c2, atI_map, modD_ok, lenDs, fRg1, fRg2, kb_list_tuple]
  | len xs hl =>
    simp [runDef, initT, gSeq, gNil, gRet, gRetN, gSet, gSetO, gEx, gIf, gPar, gAsg, gFrz, frzT, gRaise, fCl, fCons, fNil, fB, fU, fN, fV, fC, fTr, fNo, fAnd, fOr, vAnd, vOr, fNoV, fIf, fTup, fLst, fFr, fCh, lft, truD, bnd, bndS, gN, gT, gs0, gs1, isiD, tyD, lenDs, absDs, minDs, maxDs, tupDs, addD, subD, negD, ltD, leD, gtD, geD, isN, notN, ixO, fOix, fOln, gApp, putO, gPut, seqD, fSq, fLs, optD, fSl, slD, ixD, atI_c0, atI_c1, atI_c2, atI_map, modD_ok, lenDs, fRg1, fRg2, kb_tuple_tuple, neD_int, show ¬ ((xs.length : Int) = s.ms.length) by omega]
  | bad qs x hl hx =>
    have e1 : lcD (gN 2) t_is_margins_1 e_is_margins_1 [.d (encS s), .d (.tuple (qs.map encQ ++ [x])), .u] (qs.map encQ) = some [] := by
      refine lcD_none qs fun q hq => ⟨_, rfl, ?_⟩
      unfold t_is_margins_1
      simp [runDef, initT, gSeq, gNil, gRet, gRetN, gSet, gSetO, gEx, gIf, gPar, gAsg, gFrz, frzT, gRaise, fCl, fCons, fNil, fB, fU, fN, fV, fC, fTr, fNo, fAnd, fOr, vAnd, vOr, fNoV, fIf, fTup, fLst, fFr, fCh, lft, truD, bnd, bndS, gN, gT, gs0, gs1, isiD, tyD, lenDs, absDs, minDs, maxDs, tupDs, addD, subD, negD, ltD, leD, gtD, geD, isN, notN, ixO, fOix, fOln, gApp, putO, gPut, seqD, fSq, fLs, optD, fSl, slD, ixD, atI_c0, atI_c1, atI_c2, atI_map, modD_ok, lenDs, fRg1, fRg2, is_rational_ok]
    have e2 : lcD (gN 2) t_is_margins_1 e_is_margins_1 [.d (encS s), .d (.tuple (qs.map encQ ++ [x])), .u] [x] = some [x] := by
      simp [lcD, gN, t_is_margins_1, e_is_margins_1, runDef, initT, gSeq, gNil, gRet, gRetN, gSet, gSetO, gEx, gIf, gPar, gAsg, gFrz, frzT, gRaise, fCl, fCons, fNil, fB, fU, fN, fV, fC, fTr, fNo, fAnd, fOr, vAnd, vOr, fNoV, fIf, fTup, fLst, fFr, fCh, lft, truD, bnd, bndS, gN, gT, gs0, gs1, isiD, tyD, lenDs, absDs, minDs, maxDs, tupDs, addD, subD, negD, ltD, leD, gtD, geD, isN, notN, ixO, fOix, fOln, gApp, putO, gPut, seqD, fSq, fLs, optD, fSl, slD, ixD, atI_c0, atI_c1, atI_c2, atI_map, modD_ok, lenDs, fRg1, fRg2, bad_rational hx]
    have e3 := lcD_append _ _ _ _ e1 e2
    simp only [encS] at e3
    simp [runDef, initT, gSeq, gNil, gRet, gRetN, gSet, gSetO, gEx, gIf, gPar, gAsg, gFrz, frzT, gRaise, fCl, fCons, fNil, fB, fU, fN, fV, fC, fTr, fNo, fAnd, fOr, vAnd, vOr, fNoV, fIf, fTup, fLst, fFr, fCh, lft, truD, bnd, bndS, gN, gT, gs0, gs1, isiD, tyD, lenDs, absDs, minDs, maxDs, tupDs, addD, subD, negD, ltD, leD, gtD, geD, isN, notN, ixO, fOix, fOln, gApp, putO, gPut, seqD, fSq, fLs, optD, fSl, slD, ixD, atI_c0, atI_c1, atI_c2, atI_map, modD_ok, lenDs, fRg1, fRg2, kb_tuple_tuple, neD_int, show ((qs.length : Int) + 1 = s.ms.length) by omega, fLc, show qs.length ≤ 99999 by omega, wipeT, e3]
theorem bad_check {s : Sc} (h : s.Ok) {v : D} (hv : BadM s v) : f_check_margins [encS s, v] = er "InvalidMargins" := by
  unfold f_check_margins g_check_margins
  simp [runDef, initT, gSeq, gNil, gRet, gRetN, gSet, gSetO, gEx, gIf, gPar, gAsg, gFrz, frzT, gRaise, fCl, fCons, fNil, fB, fU, fN, fV, fC, fTr, fNo, fAnd, fOr, vAnd, vOr, fNoV, fIf, fTup, fLst, fFr, fCh, lft, truD, bnd, bndS, gN, gT, gs0, gs1, isiD, tyD, lenDs, absDs, minDs, maxDs, tupDs, addD, subD, negD, ltD, leD, gtD, geD, isN, notN, ixO, fOix, fOln, gApp, putO, gPut, seqD, fSq, fLs, optD, fSl, slD, ixD, atI_c0, atI_c1, atI_c2, atI_map, modD_ok, lenDs, fRg1, fRg2, check_schedule_ok h, bad_margins h hv]
theorem lim_good (q : Rat) (v0 v1 : SV) : b__law_is_margins_1 [v0, v1, .d (encQ q)] = some (.nx [v0, v1, .d (encQ q)]) := by
  have h1 := q.den_pos
  have h2 : Int.gcd q.num ((q.den : Nat) : Int) = 1 := q.reduced
  unfold b__law_is_margins_1 encQ
  simp [runDef, initT, gSeq, gNil, gRet, gRetN, gSet, gSetO, gEx, gIf, gPar, gAsg, gFrz, frzT, gRaise, fCl, fCons, fNil, fB, fU, fN, fV, fC, fTr, fNo, fAnd, fOr, vAnd, vOr, fNoV, fIf, fTup, fLst, fFr, fCh, lft, truD, bnd, bndS, gN, gT, gs0, gs1, isiD, tyD, lenDs, absDs, minDs, maxDs, tupDs, addD, subD, negD, ltD, leD, gtD, geD, isN, notN, ixO, fOix, fOln, gApp, putO, gPut, seqD, fSq, fLs, optD, fSl, slD, ixD, atI_c0, atI_c1, atI_c2, atI_map, modD_ok, lenDs, fRg1, fRg2, law_whole_int, kb_tuple_tuple, lgcd_ok, neD_int, h2, show ¬ ((q.den : Int) < 1) by omega]
theorem lim_bad {x : D} (hx : BadQ x) (v0 v1 : SV) : b__law_is_margins_1 [v0, v1, .d x] = some (.rt (.bool false)) := by
  unfold b__law_is_margins_1
  cases hx <;> simp [runDef, initT, gSeq, gNil, gRet, gRetN, gSet, gSetO, gEx, gIf, gPar, gAsg, gFrz, frzT, gRaise, fCl, fCons, fNil, fB, fU, fN, fV, fC, fTr, fNo, fAnd, fOr, vAnd, vOr, fNoV, fIf, fTup, fLst, fFr, fCh, lft, truD, bnd, bndS, gN, gT, gs0, gs1, isiD, tyD, lenDs, absDs, minDs, maxDs, tupDs, addD, subD, negD, ltD, leD, gtD, geD, isN, notN, ixO, fOix, fOln, gApp, putO, gPut, seqD, fSq, fLs, optD, fSl, slD, ixD, atI_c0, atI_c1, atI_c2, atI_map, modD_ok, lenDs, fRg1, fRg2, law_whole_int, law_whole_non, kb_tuple_tuple, kb_int_tuple, kb_non_tuple, lgcd_ok, neD_int, show ((Int.gcd 2 4 : Nat) : Int) ≠ 1 by decide, show ((Int.gcd 0 2 : Nat) : Int) ≠ 1 by decide, show ((Int.gcd 2 2 : Nat) : Int) ≠ 1 by decide]
theorem lim_loop (x : D) (hx : BadQ x) (v0 v1 : SV) : ∀ (qs : List Rat) (v2 : SV), forD (gN 2) b__law_is_margins_1 (qs.map encQ ++ [x]) [v0, v1, v2] = some (.rt (.bool false))
  | [], v2 => by
    rw [List.map_nil, List.nil_append]
    exact forD_cons_rt rfl (lim_bad hx v0 v1)
  | q :: qs, v2 => by
    rw [List.map_cons, List.cons_append, forD_cons_nx rfl (lim_good q v0 v1)]
    exact lim_loop x hx v0 v1 qs _
theorem lim_loop' (v0 v1 : SV) : ∀ (qs : List Rat) (v2 : SV), ∃ w, forD (gN 2) b__law_is_margins_1 (qs.map encQ) [v0, v1, v2] = some (.nx [v0, v1, w])
  | [], v2 => ⟨v2, rfl⟩
  | q :: qs, v2 => by
    rw [List.map_cons, forD_cons_nx rfl (lim_good q v0 v1)]
    exact lim_loop' v0 v1 qs _
theorem law_bad_margins {s : Sc} (h : s.Ok) {v : D} (hv : BadM s v) : f__law_is_margins [encS s, v] = ok (.bool false) := by
  unfold f__law_is_margins g__law_is_margins encS
  cases hv with
  | non => simp [runDef, initT, gSeq, gNil, gRet, gRetN, gSet, gSetO, gEx, gIf, gPar, gAsg, gFrz, frzT, gRaise, fCl, fCons, fNil, fB, fU, fN, fV, fC, fTr, fNo, fAnd, fOr, vAnd, vOr, fNoV, fIf, fTup, fLst, fFr, fCh, lft, truD, bnd, bndS, gN, gT, gs0, gs1, isiD, tyD, lenDs, absDs, minDs, maxDs, tupDs, addD, subD, negD, ltD, leD, gtD, geD, isN, notN, ixO, fOix, fOln, gApp, putO, gPut, seqD, fSq, fLs, optD, fSl, slD, ixD, atI_c0, atI_c1, atI_c2, atI_map, modD_ok, lenDs, fRg1, fRg2, kb_non_tuple]
  | lst xs => simp [runDef, initT, gSeq, gNil, gRet, gRetN, gSet, gSetO, gEx, gIf, gPar, gAsg, gFrz, frzT, gRaise, fCl, fCons, fNil, fB, fU, fN, fV, fC, fTr, fNo, fAnd, fOr, vAnd, vOr, fNoV, fIf, fTup, fLst, fFr, fCh, lft, truD, bnd, bndS, gN, gT, gs0, gs1, isiD, tyD, lenDs, absDs, minDs, maxDs, tupDs, addD, subD, negD, ltD, leD, gtD, geD, isN, notN, ixO, fOix, fOln, gApp, putO, gPut, seqD, fSq, fLs, optD, fSl, slD, ixD, atI_c0, atI_c1, atI_c2, atI_map, modD_ok, lenDs, fRg1, fRg2, kb_list_tuple]
  | len xs hl =>
    simp [runDef, initT, gSeq, gNil, gRet, gRetN, gSet, gSetO, gEx, gIf, gPar, gAsg, gFrz, frzT, gRaise, fCl, fCons, fNil, fB, fU, fN, fV, fC, fTr, fNo, fAnd, fOr, vAnd, vOr, fNoV, fIf, fTup, fLst, fFr, fCh, lft, truD, bnd, bndS, gN, gT, gs0, gs1, isiD, tyD, lenDs, absDs, minDs, maxDs, tupDs, addD, subD, negD, ltD, leD, gtD, geD, isN, notN, ixO, fOix, fOln, gApp, putO, gPut, seqD, fSq, fLs, optD, fSl, slD, ixD, atI_c0, atI_c1, atI_c2, atI_map, modD_ok, lenDs, fRg1, fRg2, kb_tuple_tuple, neD_int, show ¬ ((xs.length : Int) = s.ms.length) by omega]
  | bad qs x hl hx =>
    have e := lim_loop x hx (.d (encS s)) (.d (.tuple (qs.map encQ ++ [x]))) qs .u
    simp only [encS] at e
    simp [runDef, initT, gSeq, gNil, gRet, gRetN, gSet, gSetO, gEx, gIf, gPar, gAsg, gFrz, frzT, gRaise, fCl, fCons, fNil, fB, fU, fN, fV, fC, fTr, fNo, fAnd, fOr, vAnd, vOr, fNoV, fIf, fTup, fLst, fFr, fCh, lft, truD, bnd, bndS, gN, gT, gs0, gs1, isiD, tyD, lenDs, absDs, minDs, maxDs, tupDs, addD, subD, negD, ltD, leD, gtD, geD, isN, notN, ixO, fOix, fOln, gApp, putO, gPut, seqD, fSq, fLs, optD, fSl, slD, ixD, atI_c0, atI_c1, atI_c2, atI_map, modD_ok, lenDs, fRg1, fRg2, kb_tuple_tuple, neD_int, show ((qs.length : Int) + 1 = s.ms.length) by omega, gFor, e]
theorem ring_sum_bad {s : Sc} (h : s.Ok) {v w : D} (hv : BadM s v) : f_ring_sum [encS s, v, w] = er "InvalidMargins" := by
  unfold f_ring_sum g_ring_sum
  simp [runDef, initT, gSeq, gNil, gRet, gRetN, gSet, gSetO, gEx, gIf, gPar, gAsg, gFrz, frzT, gRaise, fCl, fCons, fNil, fB, fU, fN, fV, fC, fTr, fNo, fAnd, fOr, vAnd, vOr, fNoV, fIf, fTup, fLst, fFr, fCh, lft, truD, bnd, bndS, gN, gT, gs0, gs1, isiD, tyD, lenDs, absDs, minDs, maxDs, tupDs, addD, subD, negD, ltD, leD, gtD, geD, isN, notN, ixO, fOix, fOln, gApp, putO, gPut, seqD, fSq, fLs, optD, fSl, slD, ixD, atI_c0, atI_c1, atI_c2, atI_map, modD_ok, lenDs, fRg1, fRg2, bad_check h hv]
theorem margins_error_ok {s : Sc} (h : s.Ok) {qs : List Rat} (hl : qs.length = s.ms.length) {v : D} (hv : BadM s v) (k : Nat) (hk : k < 4) : f__law_margins_error [.int (k : Nat), encS s, .tuple (qs.map encQ), v] = ok (.str "margins") := by
  have e1 : f_energy [encS s, v] = er "InvalidMargins" := by
    unfold f_energy g_energy
    simp [runDef, initT, gSeq, gNil, gRet, gRetN, gSet, gSetO, gEx, gIf, gPar, gAsg, gFrz, frzT, gRaise, fCl, fCons, fNil, fB, fU, fN, fV, fC, fTr, fNo, fAnd, fOr, vAnd, vOr, fNoV, fIf, fTup, fLst, fFr, fCh, lft, truD, bnd, bndS, gN, gT, gs0, gs1, isiD, tyD, lenDs, absDs, minDs, maxDs, tupDs, addD, subD, negD, ltD, leD, gtD, geD, isN, notN, ixO, fOix, fOln, gApp, putO, gPut, seqD, fSq, fLs, optD, fSl, slD, ixD, atI_c0, atI_c1, atI_c2, atI_map, modD_ok, lenDs, fRg1, fRg2, bad_check h hv]
  have e2 : f_inner_product [encS s, .tuple (qs.map encQ), v] = er "InvalidMargins" := by
    unfold f_inner_product g_inner_product
    simp [runDef, initT, gSeq, gNil, gRet, gRetN, gSet, gSetO, gEx, gIf, gPar, gAsg, gFrz, frzT, gRaise, fCl, fCons, fNil, fB, fU, fN, fV, fC, fTr, fNo, fAnd, fOr, vAnd, vOr, fNoV, fIf, fTup, fLst, fFr, fCh, lft, truD, bnd, bndS, gN, gT, gs0, gs1, isiD, tyD, lenDs, absDs, minDs, maxDs, tupDs, addD, subD, negD, ltD, leD, gtD, geD, isN, notN, ixO, fOix, fOln, gApp, putO, gPut, seqD, fSq, fLs, optD, fSl, slD, ixD, atI_c0, atI_c1, atI_c2, atI_map, modD_ok, lenDs, fRg1, fRg2, check_margins_ok h hl, bad_check h hv]
  have e3 : f_gradient_part [encS s, v] = er "InvalidMargins" := by
    unfold f_gradient_part g_gradient_part
    simp [runDef, initT, gSeq, gNil, gRet, gRetN, gSet, gSetO, gEx, gIf, gPar, gAsg, gFrz, frzT, gRaise, fCl, fCons, fNil, fB, fU, fN, fV, fC, fTr, fNo, fAnd, fOr, vAnd, vOr, fNoV, fIf, fTup, fLst, fFr, fCh, lft, truD, bnd, bndS, gN, gT, gs0, gs1, isiD, tyD, lenDs, absDs, minDs, maxDs, tupDs, addD, subD, negD, ltD, leD, gtD, geD, isN, notN, ixO, fOix, fOln, gApp, putO, gPut, seqD, fSq, fLs, optD, fSl, slD, ixD, atI_c0, atI_c1, atI_c2, atI_map, modD_ok, lenDs, fRg1, fRg2, bad_check h hv]
  have e4 : f_ring_sum [encS s, v, .none] = er "InvalidMargins" := ring_sum_bad h hv
  have : k = 0 ∨ k = 1 ∨ k = 2 ∨ k = 3 := by omega
  unfold f__law_margins_error g__law_margins_error
  rcases this with rfl | rfl | rfl | rfl <;> simp [runDef, initT, gSeq, gNil, gRet, gRetN, gSet, gSetO, gEx, gIf, gPar, gAsg, gFrz, frzT, gRaise, fCl, fCons, fNil, fB, fU, fN, fV, fC, fTr, fNo, fAnd, fOr, vAnd, vOr, fNoV, fIf, fTup, fLst, fFr, fCh, lft, truD, bnd, bndS, gN, gT, gs0, gs1, isiD, tyD, lenDs, absDs, minDs, maxDs, tupDs, addD, subD, negD, ltD, leD, gtD, geD, isN, notN, ixO, fOix, fOln, gApp, putO, gPut, seqD, fSq, fLs, optD, fSl, slD, ixD, atI_c0, atI_c1, atI_c2, atI_map, modD_ok, lenDs, fRg1, fRg2, gTry, eqD_int, e1, e2, e3, e4, tabOf]
end LW
set_option Elab.async false
set_option linter.all false
set_option maxRecDepth 100000
set_option maxHeartbeats 4000000
/-! P3: steps; strengths given; energies -/
namespace LW
open PySem DL LA
/-! ### steps of a law -/
section
variable {τ : Ta} {h : Ta → Option Out} {r : Option Out}
theorem st_set {i : Nat} {f : Ta → R D} (d : D) (e : f τ = ok d) (k : h (τ.set i (.d d)) = r) : gSeq (gSet i f) h τ = r := by
  unfold gSeq gSet; rw [e]; exact k
theorem st_nx {a : Ta → Option Out} {τ' : Ta} (e : a τ = some (.nx τ')) (k : h τ' = r) : gSeq a h τ = r := by
  rw [← k]; simp [gSeq, e]
theorem st_no {t : Ta → R Bool} {a : Ta → Option Out} (e : t τ = ok false) (k : h τ = r) : gSeq (gIf t a gNil) h τ = r := by
  unfold gSeq gIf; rw [e]; exact k
theorem st_rt {t : Ta → R Bool} {f : Ta → R D} {b : Ta → Option Out} {d : D} (e : t τ = ok true) (k : f τ = ok d) : gSeq (gIf t (gSeq (gRet f) gNil) b) h τ = some (.rt d) := by
  unfold gSeq gIf; rw [e]; simp [gRet, k]
theorem st_ret {f : Ta → R D} {d : D} (k : f τ = ok d) : gSeq (gRet f) h τ = some (.rt d) := by
  unfold gSeq gRet; rw [k]; rfl
theorem st_for {f : Ta → R (List D)} {g : D → Ta → Option Ta} {b : Ta → Option Out} {xs : List D} {τ' : Ta} (e : f τ = ok xs) (l : forD g b xs τ = some (.nx τ')) (k : h τ' = r) : gSeq (gFor f g b) h τ = r := by
  unfold gSeq gFor; rw [e, bndS_ok, l]; exact k
theorem st_forR {f : Ta → R (List D)} {g : D → Ta → Option Ta} {b : Ta → Option Out} {xs : List D} {d : D} (e : f τ = ok xs) (l : forD g b xs τ = some (.rt d)) : gSeq (gFor f g b) h τ = some (.rt d) := by
  unfold gSeq gFor; rw [e, bndS_ok, l]
theorem st_ifN {t : Ta → R Bool} {a b : Ta → Option Out} {c : Bool} {τ' : Ta} (e : t τ = ok c) (l : (if c then a τ else b τ) = some (.nx τ')) (k : h τ' = r) : gSeq (gIf t a b) h τ = r := by
  unfold gSeq gIf; rw [e, bndS_ok, l]; exact k
theorem st_asg {f : Ta → R D} {g : D → Ta → Option Ta} {d : D} {τ' : Ta} (e : f τ = ok d) (l : g d τ = some τ') (k : h τ' = r) : gSeq (gAsg f g) h τ = r := by
  unfold gSeq gAsg; rw [e, bndS_ok, l]; exact k
theorem st_ex {f : Ta → R D} (d : D) (e : f τ = ok d) (k : h τ = r) : gSeq (gEx f) h τ = r := by
  unfold gSeq gEx; rw [e]; exact k
end
/-! ### the draws -/
theorem dr_ix {ds : List Int} (hR : Row ds) (k : Nat) (hk : k < 60) : ixD (.list (ds.map .int)) (.int (k : Nat)) = some (.int (dr ds k)) := by
  have := hR.at (i := (k : Int)) (by omega) (by omega)
  show L2.atI (ds.map PyData.int) (k : Int) = _
  rw [atI_map, this]; simp
theorem Mg.le {s : Sc} {d m E B E' B' : Nat} {qs : List Rat} (h : Mg s d m E B qs) (hE : E ≤ E') (hB : B ≤ B') : Mg s d m E' B' qs := ⟨h.ln, h.bl, h.d0, Nat.le_trans h.dE (pow_le hE), Nat.le_trans h.mB (pow_le hB)⟩
theorem tot_mkQ (f : Nat → Rat) : ∀ n, tot (mkQ n f) = sm n f
  | 0 => rfl
  | n + 1 => by
    have ih := tot_mkQ f n
    unfold mkQ at ih ⊢
    rw [List.range_succ, List.map_append, tot_append, ih, sm]
    simp only [List.map_cons, List.map_nil, tot]
    grind
theorem sur_total {n : Nat} {zs : Zs} (h : ZsOk n zs) : sm n (sur zs) = 0 := by
  have g := green h (fun _ => 1)
  have e : sm n (sur zs) = sm n (fun i => 1 * sur zs i) := sm_congr fun i _ => by grind
  rw [e, g]
  exact tot_zero fun p _ => by grind
theorem all_zero {n : Nat} (f : Nat → Rat) : mkQ n f = List.replicate n 0 ↔ ∀ j, j < n → f j = 0 := by
  constructor
  · intro h j hj
    have := mkQ_at f hj
    rw [h] at this
    rw [← this]
    unfold at_
    rw [List.getD_eq_getElem?_getD, List.getElem?_replicate]
    split <;> rfl
  · intro h
    unfold mkQ
    refine List.ext_getElem? fun i => ?_
    by_cases hi : i < n
    · simp [hi, h i hi]
    · simp [hi]
theorem is_cyclic_ok {s : Sc} (h : s.Ok) {qs : List Rat} {d m E B : Nat} (g : Mg s d m E B qs) (hE : E < 4000) (hB : B < 4000) : f_is_cyclic [encS s, .tuple (qs.map encQ)] = ok (.bool (decide (mkQ s.n (sur (s.ms.zip qs)) = List.replicate s.n 0))) := by
  have h6 := h.n6
  have e1 : lcD (gN 2) t_is_cyclic_1 e_is_cyclic_1 [.d (encS s), .d (.tuple (qs.map encQ)), .u] ((mkQ s.n (sur (s.ms.zip qs))).map encQ) = some (((mkQ s.n (sur (s.ms.zip qs))).filter fun q => !decide (q = 0)).map encQ) := by
    refine lcD_eq (f := encQ) (r := encQ) _ fun q _ => ⟨_, rfl, ?_, fun _ => ?_⟩
    · unfold t_is_cyclic_1
      simp [runDef, initT, gSeq, gNil, gRet, gRetN, gSet, gSetO, gEx, gIf, gPar, gAsg, gFrz, frzT, gRaise, fCl, fCons, fNil, fB, fU, fN, fV, fC, fTr, fNo, fAnd, fOr, vAnd, vOr, fNoV, fIf, fTup, fLst, fFr, fCh, lft, truD, bnd, bndS, gN, gT, gs0, gs1, isiD, tyD, lenDs, absDs, minDs, maxDs, tupDs, addD, subD, negD, ltD, leD, gtD, geD, isN, notN, ixO, fOix, fOln, gApp, putO, gPut, seqD, fSq, fLs, optD, fSl, slD, ixD, atI_c0, atI_c1, atI_c2, atI_map, modD_ok, lenDs, fRg1, fRg2, kZERO, neD_Q]
    · unfold e_is_cyclic_1
      simp [runDef, initT, gSeq, gNil, gRet, gRetN, gSet, gSetO, gEx, gIf, gPar, gAsg, gFrz, frzT, gRaise, fCl, fCons, fNil, fB, fU, fN, fV, fC, fTr, fNo, fAnd, fOr, vAnd, vOr, fNoV, fIf, fTup, fLst, fFr, fCh, lft, truD, bnd, bndS, gN, gT, gs0, gs1, isiD, tyD, lenDs, absDs, minDs, maxDs, tupDs, addD, subD, negD, ltD, leD, gtD, geD, isN, notN, ixO, fOix, fOln, gApp, putO, gPut, seqD, fSq, fLs, optD, fSl, slD, ixD, atI_c0, atI_c1, atI_c2, atI_map, modD_ok, lenDs, fRg1, fRg2]
  have e2 : ((mkQ s.n (sur (s.ms.zip qs))).filter fun q => !decide (q = 0)).isEmpty = decide (mkQ s.n (sur (s.ms.zip qs)) = List.replicate s.n 0) := by
    rw [Bool.eq_iff_iff, decide_eq_true_iff, all_zero, List.isEmpty_iff, List.filter_eq_nil_iff]
    constructor
    · intro hx j hj
      have := hx (sur (s.ms.zip qs) j) (by unfold mkQ; exact List.mem_map.mpr ⟨j, List.mem_range.mpr hj, rfl⟩)
      simpa using this
    · intro hx q hq
      unfold mkQ at hq
      obtain ⟨j, hj, rfl⟩ := List.mem_map.mp hq
      rw [hx j (List.mem_range.mp hj)]
      simp
  have su := surplus_of_ok h g.ln g.bl g.d0 (g.dl hE) (g.ml hB)
  unfold f_is_cyclic g_is_cyclic
  have e3 : ∀ xs : List Rat, (xs.map encQ).isEmpty = xs.isEmpty := fun xs => by cases xs <;> rfl
  simp [fCl, fCons, fNil, fV, runDef, initT, gSeq, gNil, gRet, gRetN, gSet, gSetO, gEx, gIf, gPar, gAsg, gFrz, frzT, gRaise, fCl, fCons, fNil, fB, fU, fN, fV, fC, fTr, fNo, fAnd, fOr, vAnd, vOr, fNoV, fIf, fTup, fLst, fFr, fCh, lft, truD, bnd, bndS, gN, gT, gs0, gs1, isiD, tyD, lenDs, absDs, minDs, maxDs, tupDs, addD, subD, negD, ltD, leD, gtD, geD, isN, notN, ixO, fOix, fOln, gApp, putO, gPut, seqD, fSq, fLs, optD, fSl, slD, ixD, atI_c0, atI_c1, atI_c2, atI_map, modD_ok, lenDs, fRg1, fRg2, check_margins_ok h g.ln, su, fLc, mkQ_len, show s.n ≤ 100000 by omega, wipeT, e1, e2, -List.isEmpty_iff]
/-! ### strengths given -/
theorem diff_comp (xs : List Rat) (v0 v1 : SV) : lcD (gN 2) t_differences_1 e_differences_1 [v0, v1, .u] (xs.map encQ) = some [] := by
  refine lcD_none xs fun x hx => ⟨_, rfl, ?_⟩
  unfold t_differences_1
  simp [runDef, initT, gSeq, gNil, gRet, gRetN, gSet, gSetO, gEx, gIf, gPar, gAsg, gFrz, frzT, gRaise, fCl, fCons, fNil, fB, fU, fN, fV, fC, fTr, fNo, fAnd, fOr, vAnd, vOr, fNoV, fIf, fTup, fLst, fFr, fCh, lft, truD, bnd, bndS, gN, gT, gs0, gs1, isiD, tyD, lenDs, absDs, minDs, maxDs, tupDs, addD, subD, negD, ltD, leD, gtD, geD, isN, notN, ixO, fOix, fOln, gApp, putO, gPut, seqD, fSq, fLs, optD, fSl, slD, ixD, atI_c0, atI_c1, atI_c2, atI_map, modD_ok, lenDs, fRg1, fRg2, is_rational_ok]
theorem differences_ok {s : Sc} (h : s.Ok) {x : Nat → Rat} (hx : ∀ j, Sm 4000 (x j)) : f_differences [encS s, .tuple ((mkQ s.n x).map encQ)] = ok (.tuple ((grq s.ms x).map encQ)) := by
  have h6 := h.n6
  have e1 := diff_comp (mkQ s.n x) (.d (encS s)) (.d (.tuple ((mkQ s.n x).map encQ)))
  have e2 := differences_of_ok h hx true
  have e3 := check_schedule_ok h
  rw [if_pos rfl] at e2
  unfold f_differences g_differences
  simp only [encS] at e1 e2 e3 ⊢
  simp [runDef, initT, gSeq, gNil, gRet, gRetN, gSet, gSetO, gEx, gIf, gPar, gAsg, gFrz, frzT, gRaise, fCl, fCons, fNil, fB, fU, fN, fV, fC, fTr, fNo, fAnd, fOr, vAnd, vOr, fNoV, fIf, fTup, fLst, fFr, fCh, lft, truD, bnd, bndS, gN, gT, gs0, gs1, isiD, tyD, lenDs, absDs, minDs, maxDs, tupDs, addD, subD, negD, ltD, leD, gtD, geD, isN, notN, ixO, fOix, fOln, gApp, putO, gPut, seqD, fSq, fLs, optD, fSl, slD, ixD, atI_c0, atI_c1, atI_c2, atI_map, modD_ok, lenDs, fRg1, fRg2, e3, kb_tuple_tuple, neD_int, mkQ_len, fLc, show s.n ≤ 100000 by omega, wipeT, e1, e2]
/-- no strengths of s -/
inductive BadS (s : Sc) : D → Prop
  | non : BadS s .none
  | lst (xs : List D) : BadS s (.list xs)
  | len (xs : List D) : xs.length ≠ s.n → BadS s (.tuple xs)
  | bad (qs : List Rat) (x : D) : qs.length + 1 = s.n → BadQ x → BadS s (.tuple (qs.map encQ ++ [x]))
theorem differences_bad {s : Sc} (h : s.Ok) {v : D} (hv : BadS s v) : f_differences [encS s, v] = er "InvalidStrengths" := by
  have h6 := h.n6
  have e3 := check_schedule_ok h
  unfold f_differences g_differences
  simp only [encS] at e3 ⊢
  cases hv with
  | non => simp [runDef, initT, gSeq, gNil, gRet, gRetN, gSet, gSetO, gEx, gIf, gPar, gAsg, gFrz, frzT, gRaise, fCl, fCons, fNil, fB, fU, fN, fV, fC, fTr, fNo, fAnd, fOr, vAnd, vOr, fNoV, fIf, fTup, fLst, fFr, fCh, lft, truD, bnd, bndS, gN, gT, gs0, gs1, isiD, tyD, lenDs, absDs, minDs, maxDs, tupDs, addD, subD, negD, ltD, leD, gtD, geD, isN, notN, ixO, fOix, fOln, gApp, putO, gPut, seqD, fSq, fLs, optD, fSl, slD, ixD, atI_c0, atI_c1, atI_c2, atI_map, modD_ok, lenDs, fRg1, fRg2, e3, kb_non_tuple]
  | lst xs => simp [runDef, initT, gSeq, gNil, gRet, gRetN, gSet, gSetO, gEx, gIf, gPar, gAsg, gFrz, frzT, gRaise, fCl, fCons, fNil, fB, fU, fN, fV, fC, fTr, fNo, fAnd, fOr, vAnd, vOr, fNoV, fIf, fTup, fLst, fFr, fCh, lft, truD, bnd, bndS, gN, gT, gs0, gs1, isiD, tyD, lenDs, absDs, minDs, maxDs, tupDs, addD, subD, negD, ltD, leD, gtD, geD, isN, notN, ixO, fOix, fOln, gApp, putO, gPut, seqD, fSq, fLs, optD, fSl, slD, ixD, atI_c0, atI_c1, atI_c2, atI_map, modD_ok, lenDs, fRg1, fRg2, e3, kb_list_tuple]
  | len xs hl => simp [runDef, initT, gSeq, gNil, gRet, gRetN, gSet, gSetO, gEx, gIf, gPar, gAsg, gFrz, frzT, gRaise, fCl, fCons, fNil, fB, fU, fN, fV, fC, fTr, fNo, fAnd, fOr, vAnd, vOr, fNoV, fIf, fTup, fLst, fFr, fCh, lft, truD, bnd, bndS, gN, gT, gs0, gs1, isiD, tyD, lenDs, absDs, minDs, maxDs, tupDs, addD, subD, negD, ltD, leD, gtD, geD, isN, notN, ixO, fOix, fOln, gApp, putO, gPut, seqD, fSq, fLs, optD, fSl, slD, ixD, atI_c0, atI_c1, atI_c2, atI_map, modD_ok, lenDs, fRg1, fRg2, e3, kb_tuple_tuple, neD_int, show ¬ ((xs.length : Int) = s.n) by omega]
  | bad qs x hl hx =>
    have e1 := diff_comp qs (.d (encS s)) (.d (.tuple (qs.map encQ ++ [x])))
    have e2 : lcD (gN 2) t_differences_1 e_differences_1 [.d (encS s), .d (.tuple (qs.map encQ ++ [x])), .u] [x] = some [x] := by
      simp [lcD, gN, t_differences_1, e_differences_1, runDef, initT, gSeq, gNil, gRet, gRetN, gSet, gSetO, gEx, gIf, gPar, gAsg, gFrz, frzT, gRaise, fCl, fCons, fNil, fB, fU, fN, fV, fC, fTr, fNo, fAnd, fOr, vAnd, vOr, fNoV, fIf, fTup, fLst, fFr, fCh, lft, truD, bnd, bndS, gN, gT, gs0, gs1, isiD, tyD, lenDs, absDs, minDs, maxDs, tupDs, addD, subD, negD, ltD, leD, gtD, geD, isN, notN, ixO, fOix, fOln, gApp, putO, gPut, seqD, fSq, fLs, optD, fSl, slD, ixD, atI_c0, atI_c1, atI_c2, atI_map, modD_ok, lenDs, fRg1, fRg2, bad_rational hx]
    have e4 := lcD_append _ _ _ _ e1 e2
    simp only [encS] at e4
    simp [runDef, initT, gSeq, gNil, gRet, gRetN, gSet, gSetO, gEx, gIf, gPar, gAsg, gFrz, frzT, gRaise, fCl, fCons, fNil, fB, fU, fN, fV, fC, fTr, fNo, fAnd, fOr, vAnd, vOr, fNoV, fIf, fTup, fLst, fFr, fCh, lft, truD, bnd, bndS, gN, gT, gs0, gs1, isiD, tyD, lenDs, absDs, minDs, maxDs, tupDs, addD, subD, negD, ltD, leD, gtD, geD, isN, notN, ixO, fOix, fOln, gApp, putO, gPut, seqD, fSq, fLs, optD, fSl, slD, ixD, atI_c0, atI_c1, atI_c2, atI_map, modD_ok, lenDs, fRg1, fRg2, e3, kb_tuple_tuple, neD_int, show ((qs.length : Int) + 1 = s.n) by omega, fLc, show qs.length ≤ 99999 by omega, wipeT, e4]
/-! ### energies -/
theorem ip_expand : ∀ (ms : List Mt) (a b c : List Rat), a.length = b.length → b.length = c.length → ip ms (subL a c) (subL a c) = ip ms (subL a b) (subL a b) + ip ms (subL b c) (subL b c) + 2 * ip ms (subL a b) (subL b c)
  | [], a, b, c, _, _ => by simp only [ip, ipl, List.zip_nil_left, List.map_nil, tot]; grind
  | m :: ms, [], [], [], _, _ => by simp only [ip, ipl, subL, List.zipWith_nil_left, List.zip_nil_left, List.zip_nil_right, List.map_nil, tot]; grind
  | m :: ms, x :: a, y :: b, z :: c, h1, h2 => by
    have ih := ip_expand ms a b c (by simpa using h1) (by simpa using h2)
    simp only [ip, ipl, subL, List.zipWith_cons_cons, List.zip_cons_cons, List.map_cons, tot] at ih ⊢
    grind
  | _ :: _, [], _ :: _, _, h, _ => by simp at h
  | _ :: _, _ :: _, [], _, h, _ => by simp at h
  | _ :: _, [], [], _ :: _, _, h => by simp at h
  | _ :: _, _ :: _, _ :: _, [], _, h => by simp at h
theorem ip_grq : ∀ (ms : List Mt) (v : List Rat) (z : Nat → Rat), v.length = ms.length → ip ms v (grq ms z) = tot ((ms.zip v).map fun p => (p.1.w : Rat) * p.2 * (z p.1.l - z p.1.r))
  | [], v, z, _ => by simp [ip, ipl, tot]
  | m :: ms, [], z, h => by simp at h
  | m :: ms, x :: v, z, h => by
    have ih := ip_grq ms v z (by simpa using h)
    simp only [ip, ipl, grq, List.map_cons, List.zip_cons_cons, tot] at ih ⊢
    grind
theorem ip_green {n : Nat} {ms : List Mt} (h : MsOk n ms) {v : List Rat} (hl : v.length = ms.length) (z : Nat → Rat) : ip ms v (grq ms z) = sm n fun i => z i * sur (ms.zip v) i := by
  rw [ip_grq ms v z hl, green (zsok_zip h v) z]
theorem subL_grq (ms : List Mt) (x y : Nat → Rat) : subL (grq ms x) (grq ms y) = grq ms fun i => x i - y i := by
  unfold subL grq
  rw [List.zipWith_map]
  induction ms with
  | nil => rfl
  | cons m ms ih => simp only [List.zipWith_cons_cons, List.map_cons, ih]; congr 1; grind
theorem sur_subL : ∀ (ms : List Mt) (a b : List Rat), a.length = b.length → ∀ k, sur (ms.zip (subL a b)) k = sur (ms.zip a) k - sur (ms.zip b) k
  | [], a, b, _, k => by simp only [sur, List.zip_nil_left, List.map_nil, tot]; grind
  | m :: ms, [], [], _, k => by simp only [sur, subL, List.zipWith_nil_left, List.zip_nil_right, List.map_nil, tot]; grind
  | m :: ms, x :: a, y :: b, h, k => by
    have ih := sur_subL ms a b (by simpa using h) k
    simp only [sur, subL, List.zipWith_cons_cons, List.zip_cons_cons, List.map_cons, tot] at ih ⊢
    grind
  | _ :: _, [], _ :: _, h, _ => by simp at h
  | _ :: _, _ :: _, [], h, _ => by simp at h
/-- the rest is cyclic -/
theorem cyc_sur {s : Sc} (h : s.Ok) {qs : List Rat} (hl : qs.length = s.ms.length) : ∀ i, i < s.n → sur (s.ms.zip (cyc' s qs)) i = 0 := by
  intro i hi
  unfold cyc' grad
  rw [sur_subL _ _ _ (by rw [grq_len, hl]), gr_zip, (fit_ok h.msok qs).bl i hi]
  grind
theorem ip_nonneg : ∀ (ms : List Mt) (v : List Rat), 0 ≤ ip ms v v
  | [], v => by simp only [ip, ipl, List.zip_nil_left, List.map_nil, tot]; exact Rat.le_refl
  | m :: ms, [] => by simp only [ip, ipl, List.zip_nil_left, List.zip_nil_right, List.map_nil, tot]; exact Rat.le_refl
  | m :: ms, x :: v => by
    have ih := ip_nonneg ms v
    simp only [ip, ipl, List.zip_cons_cons, List.map_cons, tot] at ih ⊢
    have h1 : (0 : Rat) ≤ (m.w : Rat) := by
      rcases Nat.eq_zero_or_pos m.w with e | e
      · rw [e]; decide
      · exact Rat.le_of_lt (w_pos e)
    have := Rat.mul_nonneg h1 (sq_nonneg x)
    grind
theorem ip_zero : ∀ {ms : List Mt} {v : List Rat}, (∀ m ∈ ms, 1 ≤ m.w) → v.length = ms.length → ip ms v v = 0 → ∀ x ∈ v, x = 0
  | [], [], _, _, _, x, hx => nomatch hx
  | m :: ms, y :: v, hw, hl, h, x, hx => by
    have ih := ip_nonneg ms v
    have h1 := w_pos (hw m List.mem_cons_self)
    have h2 := Rat.mul_nonneg (Rat.le_of_lt h1) (sq_nonneg y)
    have hs : ip (m :: ms) (y :: v) (y :: v) = (m.w : Rat) * (y * y) + ip ms v v := by simp only [ip, ipl, List.zip_cons_cons, List.map_cons, tot]
    rw [hs] at h
    have e1 : (m.w : Rat) * (y * y) = 0 := by grind
    have e2 : ip ms v v = 0 := by grind
    rcases List.mem_cons.mp hx with rfl | hx
    · rcases Rat.mul_eq_zero.mp e1 with e | e
      · grind
      · exact sq_zero e
    · exact ip_zero (fun m hm => hw m (List.mem_cons_of_mem _ hm)) (by simpa using hl) e2 x hx
  | [], _ :: _, _, h, _, _, _ => by simp at h
  | _ :: _, [], _, h, _, _, _ => by simp at h
theorem subL_zero : ∀ {a b : List Rat}, a.length = b.length → (∀ x ∈ subL a b, x = 0) → a = b
  | [], [], _, _ => rfl
  | x :: a, y :: b, h, hz => by
    have e1 : x - y = 0 := hz _ (by simp [subL])
    have e2 := subL_zero (a := a) (b := b) (by simpa using h) fun z hz' => hz z (by simp only [subL, List.zipWith_cons_cons] at hz' ⊢; exact List.mem_cons_of_mem _ hz')
    rw [e2]
    congr 1
    grind
  | [], _ :: _, h, _ => by simp at h
  | _ :: _, [], h, _ => by simp at h
/-- other strengths leave more -/
theorem energy_more {s : Sc} (h : s.Ok) {qs : List Rat} (hl : qs.length = s.ms.length) (y : Nat → Rat) : ip s.ms (subL qs (grq s.ms y)) (subL qs (grq s.ms y)) = ip s.ms (cyc' s qs) (cyc' s qs) + ip s.ms (subL (grad s qs) (grq s.ms y)) (subL (grad s qs) (grq s.ms y)) := by
  have e := ip_expand s.ms qs (grad s qs) (grq s.ms y) (by rw [hl]; exact (grq_len ..).symm) (by rw [show (grad s qs).length = s.ms.length from grq_len .., grq_len])
  have c : ip s.ms (subL qs (grad s qs)) (subL (grad s qs) (grq s.ms y)) = 0 := by
    have : subL (grad s qs) (grq s.ms y) = grq s.ms fun i => fit s qs i - y i := subL_grq ..
    rw [this, ip_green h.msok (by rw [subL_len (by rw [hl]; exact (grq_len ..).symm), hl])]
    refine sm_zero fun i hi => ?_
    rw [show sur (s.ms.zip (subL qs (grad s qs))) i = 0 from cyc_sur h hl i hi]
    grind
  rw [c] at e
  unfold cyc'
  grind
theorem csum_grp (s : Sc) (k : Nat) (x : Nat → Rat) : tot ((grp s k).map x) = csum s.ms s.n k x := by
  unfold grp csum
  have : ∀ n, tot (((List.range n).filter fun p => decide (root s.ms p = k)).map x) = sm n fun i => if root s.ms i = k then x i else 0 := by
    intro n
    induction n with
    | zero => rfl
    | succ n ih =>
      rw [List.range_succ, List.filter_append, List.map_append, tot_append, ih, sm]
      by_cases e : root s.ms n = k
      · simp only [List.filter_cons, e, decide_true, if_true, List.filter_nil, List.map_cons, List.map_nil, tot]; grind
      · simp only [List.filter_cons, e, decide_false, if_false, List.filter_nil, List.map_nil, tot]; simp [tot]
  exact this s.n
end LW
set_option Elab.async false
set_option linter.all false
set_option maxRecDepth 100000
set_option maxHeartbeats 4000000
/-! R3: players, resistances, leverages, bridges on data -/
namespace LW
open PySem DL LA
/-! ### players -/
inductive BadP (n : Nat) : D → Prop
  | non : BadP n .none
  | int (i : Int) : (i < 0 ∨ (n : Int) ≤ i) → BadP n (.int i)
  | bl (b : Bool) : BadP n (.bool b)
theorem is_integer_bl (b : Bool) : f_is_integer [.bool b] = ok (.bool false) := by
  unfold f_is_integer g_is_integer
  simp [runDef, initT, gSeq, gNil, gRet, gRetN, gSet, gSetO, gEx, gIf, gPar, gAsg, gFrz, frzT, gRaise, fCl, fCons, fNil, fB, fU, fN, fV, fC, fTr, fNo, fAnd, fOr, vAnd, vOr, fNoV, fIf, fTup, fLst, fFr, fCh, lft, truD, bnd, bndS, gN, gT, gs0, gs1, isiD, tyD, lenDs, absDs, minDs, maxDs, tupDs, addD, subD, negD, ltD, leD, gtD, geD, isN, notN, ixO, fOix, fOln, gApp, putO, gPut, seqD, fSq, fLs, optD, fSl, slD, ixD, atI_c0, atI_c1, atI_c2, atI_map, modD_ok, lenDs, fRg1, fRg2, kb_bool_int, kb_bool_bool]
theorem in_range_bl (b : Bool) (l h : Int) : f_in_range [.bool b, .int l, .int h] = ok (.bool false) := by
  unfold f_in_range g_in_range
  simp [runDef, initT, gSeq, gNil, gRet, gRetN, gSet, gSetO, gEx, gIf, gPar, gAsg, gFrz, frzT, gRaise, fCl, fCons, fNil, fB, fU, fN, fV, fC, fTr, fNo, fAnd, fOr, vAnd, vOr, fNoV, fIf, fTup, fLst, fFr, fCh, lft, truD, bnd, bndS, gN, gT, gs0, gs1, isiD, tyD, lenDs, absDs, minDs, maxDs, tupDs, addD, subD, negD, ltD, leD, gtD, geD, isN, notN, ixO, fOix, fOln, gApp, putO, gPut, seqD, fSq, fLs, optD, fSl, slD, ixD, atI_c0, atI_c1, atI_c2, atI_map, modD_ok, lenDs, fRg1, fRg2, is_integer_bl]
theorem in_range_bad {n : Nat} {d : D} (h : BadP n d) : f_in_range [d, .int 0, .int ((n : Int) - 1)] = ok (.bool false) := by
  cases h with
  | non => exact in_range_non _ _
  | int i hi => rw [in_range_int]; simp; omega
  | bl b => exact in_range_bl _ _ _
theorem check_player_ok {s : Sc} (h : s.Ok) {a : Nat} (ha : a < s.n) : f_check_player [encS s, .int (a : Nat)] = ok .none := by
  have e := check_schedule_ok h
  have r := in_range_int (a : Int) 0 ((s.n : Int) - 1)
  rw [decide_eq_true (show (0 : Int) ≤ a ∧ (a : Int) ≤ (s.n : Int) - 1 by omega)] at r
  unfold f_check_player g_check_player
  simp only [encS] at e ⊢
  simp [runDef, initT, gSeq, gNil, gRet, gRetN, gSet, gSetO, gEx, gIf, gPar, gAsg, gFrz, frzT, gRaise, fCl, fCons, fNil, fB, fU, fN, fV, fC, fTr, fNo, fAnd, fOr, vAnd, vOr, fNoV, fIf, fTup, fLst, fFr, fCh, lft, truD, bnd, bndS, gN, gT, gs0, gs1, isiD, tyD, lenDs, absDs, minDs, maxDs, tupDs, addD, subD, negD, ltD, leD, gtD, geD, isN, notN, ixO, fOix, fOln, gApp, putO, gPut, seqD, fSq, fLs, optD, fSl, slD, ixD, atI_c0, atI_c1, atI_c2, atI_map, modD_ok, lenDs, fRg1, fRg2, e, r]
theorem check_player_bad {s : Sc} (h : s.Ok) {d : D} (hd : BadP s.n d) : f_check_player [encS s, d] = er "InvalidPlayer" := by
  have e := check_schedule_ok h
  have r := in_range_bad hd
  unfold f_check_player g_check_player
  simp only [encS] at e ⊢
  simp [runDef, initT, gSeq, gNil, gRet, gRetN, gSet, gSetO, gEx, gIf, gPar, gAsg, gFrz, frzT, gRaise, fCl, fCons, fNil, fB, fU, fN, fV, fC, fTr, fNo, fAnd, fOr, vAnd, vOr, fNoV, fIf, fTup, fLst, fFr, fCh, lft, truD, bnd, bndS, gN, gT, gs0, gs1, isiD, tyD, lenDs, absDs, minDs, maxDs, tupDs, addD, subD, negD, ltD, leD, gtD, geD, isN, notN, ixO, fOix, fOln, gApp, putO, gPut, seqD, fSq, fLs, optD, fSl, slD, ixD, atI_c0, atI_c1, atI_c2, atI_map, modD_ok, lenDs, fRg1, fRg2, e, r]
/-! ### two players in one component -/
theorem mem_grp {s : Sc} {k p : Nat} : p ∈ grp s k ↔ p < s.n ∧ root s.ms p = k := by
  unfold grp
  rw [List.mem_filter, List.mem_range, decide_eq_true_iff]
def both (s : Sc) (a b : Nat) : List (List Nat) := (groups s).filter fun g => decide (a ∈ g) && decide (b ∈ g)
theorem both_empty {s : Sc} {a b : Nat} (ha : a < s.n) (hb : b < s.n) : (both s a b).isEmpty = !decide (root s.ms a = root s.ms b) := by
  rw [Bool.eq_iff_iff, List.isEmpty_iff, Bool.not_eq_true', decide_eq_false_iff_not]
  unfold both
  rw [List.filter_eq_nil_iff]
  constructor
  · intro h e
    refine h (grp s (root s.ms a)) (List.mem_map.mpr ⟨root s.ms a, List.mem_filter.mpr ⟨List.mem_range.mpr (root_lt _ ha), decide_eq_true ((root_inv _).id a)⟩, rfl⟩) ?_
    rw [Bool.and_eq_true, decide_eq_true_iff, decide_eq_true_iff]
    exact ⟨mem_grp.mpr ⟨ha, rfl⟩, mem_grp.mpr ⟨hb, e.symm⟩⟩
  · intro e g hg h
    obtain ⟨k, _, rfl⟩ := List.mem_map.mp hg
    rw [Bool.and_eq_true, decide_eq_true_iff, decide_eq_true_iff] at h
    exact e ((mem_grp.mp h.1).2.trans (mem_grp.mp h.2).2.symm)
theorem lcD_both {s : Sc} {a b : Nat} {g : D → Ta → Option Ta} {t : Ta → R Bool} {e : Ta → R D} {τ : Ta} (h : ∀ x : List Nat, ∃ τ1, g (encL x) τ = some τ1 ∧ t τ1 = ok (decide (a ∈ x) && decide (b ∈ x)) ∧ e τ1 = ok (encL x)) : lcD g t e τ ((groups s).map encL) = some ((both s a b).map encL) := by
  unfold both
  refine lcD_eq (f := encL) (r := encL) (groups s) fun x _ => ?_
  obtain ⟨τ1, h1, h2, h3⟩ := h x
  exact ⟨τ1, h1, h2, fun _ => h3⟩
theorem map_empty {α β : Type} (f : α → β) (xs : List α) : (xs.map f).isEmpty = xs.isEmpty := by cases xs <;> rfl
theorem check_connected_ok {s : Sc} (h : s.Ok) {a b : Nat} (ha : a < s.n) (hb : b < s.n) : f_check_connected [encS s, .int (a : Nat), .int (b : Nat)] = if root s.ms a = root s.ms b then ok .none else er "Disconnected" := by
  have e1 := check_player_ok h ha
  have e2 := check_player_ok h hb
  have e3 := groups_of_ok h
  have gl := groups_len s
  have h6 := h.n6
  have e4 : lcD (gN 3) t_check_connected_1 e_check_connected_1 [.d (encS s), .d (.int (a : Nat)), .d (.int (b : Nat)), .u] ((groups s).map encL) = some ((both s a b).map encL) := lcD_both fun x => ⟨_, rfl, by
    have m1 := in_grp a x
    have m2 := in_grp b x
    simp only [iN] at m1 m2
    unfold t_check_connected_1
    by_cases h1 : a ∈ x <;> simp [fCl, fCons, fNil, fB, fU, fN, fV, fC, fTr, fNo, fAnd, fOr, vAnd, vOr, fNoV, fIf, fTup, fLst, fFr, fLs, seqD, fSl, optD, bnd, lft, truD, fRg1, fRg2, fSq, tupDs, ltD, leD, gtD, subD, addD, negD, modD_ok, gN, m1, m2, h1], by
    unfold e_check_connected_1
    simp [fCl, fCons, fNil, fB, fU, fN, fV, fC, fTr, fNo, fAnd, fOr, vAnd, vOr, fNoV, fIf, fTup, fLst, fFr, fLs, seqD, fSl, optD, bnd, lft, truD, fRg1, fRg2, fSq, tupDs, ltD, leD, gtD, subD, addD, negD, modD_ok, gN]⟩
  have be := both_empty ha hb
  unfold f_check_connected g_check_connected
  simp only [encS] at e1 e2 e3 e4 ⊢
  by_cases hr : root s.ms a = root s.ms b
  · rw [decide_eq_true hr] at be
    rw [if_pos hr]
    simp [runDef, initT, gSeq, gNil, gRet, gRetN, gSet, gSetO, gEx, gIf, gPar, gAsg, gFrz, frzT, gRaise, fCl, fCons, fNil, fB, fU, fN, fV, fC, fTr, fNo, fAnd, fOr, vAnd, vOr, fNoV, fIf, fTup, fLst, fFr, fCh, lft, truD, bnd, bndS, gN, gT, gs0, gs1, isiD, tyD, lenDs, absDs, minDs, maxDs, tupDs, addD, subD, negD, ltD, leD, gtD, geD, isN, notN, ixO, fOix, fOln, gApp, putO, gPut, seqD, fSq, fLs, optD, fSl, slD, ixD, atI_c0, atI_c1, atI_c2, atI_map, modD_ok, lenDs, fRg1, fRg2, e1, e2, e3, fLc, show (groups s).length ≤ 100000 by omega, wipeT, e4, map_empty, be, -List.isEmpty_iff]
  · rw [decide_eq_false hr] at be
    rw [if_neg hr]
    simp [runDef, initT, gSeq, gNil, gRet, gRetN, gSet, gSetO, gEx, gIf, gPar, gAsg, gFrz, frzT, gRaise, fCl, fCons, fNil, fB, fU, fN, fV, fC, fTr, fNo, fAnd, fOr, vAnd, vOr, fNoV, fIf, fTup, fLst, fFr, fCh, lft, truD, bnd, bndS, gN, gT, gs0, gs1, isiD, tyD, lenDs, absDs, minDs, maxDs, tupDs, addD, subD, negD, ltD, leD, gtD, geD, isN, notN, ixO, fOix, fOln, gApp, putO, gPut, seqD, fSq, fLs, optD, fSl, slD, ixD, atI_c0, atI_c1, atI_c2, atI_map, modD_ok, lenDs, fRg1, fRg2, e1, e2, e3, fLc, show (groups s).length ≤ 100000 by omega, wipeT, e4, map_empty, be, -List.isEmpty_iff]
theorem check_connected_bad1 {s : Sc} (h : s.Ok) {d e : D} (hd : BadP s.n d) : f_check_connected [encS s, d, e] = er "InvalidPlayer" := by
  unfold f_check_connected g_check_connected
  simp [runDef, initT, gSeq, gNil, gRet, gRetN, gSet, gSetO, gEx, gIf, gPar, gAsg, gFrz, frzT, gRaise, fCl, fCons, fNil, fB, fU, fN, fV, fC, fTr, fNo, fAnd, fOr, vAnd, vOr, fNoV, fIf, fTup, fLst, fFr, fCh, lft, truD, bnd, bndS, gN, gT, gs0, gs1, isiD, tyD, lenDs, absDs, minDs, maxDs, tupDs, addD, subD, negD, ltD, leD, gtD, geD, isN, notN, ixO, fOix, fOln, gApp, putO, gPut, seqD, fSq, fLs, optD, fSl, slD, ixD, atI_c0, atI_c1, atI_c2, atI_map, modD_ok, lenDs, fRg1, fRg2, check_player_bad h hd]
theorem check_connected_bad2 {s : Sc} (h : s.Ok) {a : Nat} (ha : a < s.n) {d : D} (hd : BadP s.n d) : f_check_connected [encS s, .int (a : Nat), d] = er "InvalidPlayer" := by
  unfold f_check_connected g_check_connected
  simp [runDef, initT, gSeq, gNil, gRet, gRetN, gSet, gSetO, gEx, gIf, gPar, gAsg, gFrz, frzT, gRaise, fCl, fCons, fNil, fB, fU, fN, fV, fC, fTr, fNo, fAnd, fOr, vAnd, vOr, fNoV, fIf, fTup, fLst, fFr, fCh, lft, truD, bnd, bndS, gN, gT, gs0, gs1, isiD, tyD, lenDs, absDs, minDs, maxDs, tupDs, addD, subD, negD, ltD, leD, gtD, geD, isN, notN, ixO, fOix, fOln, gApp, putO, gPut, seqD, fSq, fLs, optD, fSl, slD, ixD, atI_c0, atI_c1, atI_c2, atI_map, modD_ok, lenDs, fRg1, fRg2, check_player_ok h ha, check_player_bad h hd]
/-! ### resistances -/
theorem dl_bq (a b k : Nat) : Bq 1 (2 ^ 0) (dl a b k) := by
  unfold dl
  by_cases h1 : k = a <;> by_cases h2 : k = b
  · rw [if_pos h1, if_pos h2, show (1 : Rat) - 1 = 0 by grind]; exact Bq.zero
  · rw [if_pos h1, if_neg h2, show (1 : Rat) - 0 = ((1 : Int) : Rat) by grind]; exact Bq.int (by decide) (by decide)
  · rw [if_neg h1, if_pos h2, show (0 : Rat) - 1 = ((-1 : Int) : Rat) by grind]; exact Bq.int (by decide) (by decide)
  · rw [if_neg h1, if_neg h2, show (0 : Rat) - 0 = 0 by grind]; exact Bq.zero
theorem dS_lt {s : Sc} (h : s.Ok) : dS s < 2 ^ 4000 := Nat.lt_of_le_of_lt (dS_ok h).2 (p4000 (by decide))
theorem pot_bq {s : Sc} (h : s.Ok) (a b j : Nat) : Bq (dS s) (2 ^ 630) (pot s a b j) := by
  have := bal_dS h (b := dl a b) (e := 1) (B := 0) (by decide) (dl_bq a b) j
  rw [Nat.mul_one] at this
  exact this
theorem res_bq {s : Sc} (h : s.Ok) (a b : Nat) : Bq (dS s) (2 ^ 631) (res s a b) := by
  unfold res
  refine ((pot_bq h a b a).sub (pot_bq h a b b) (dS_ok h).1).le ?_
  have : (2 : Nat) ^ 631 = 2 ^ 630 * 2 := Nat.pow_succ ..
  omega
theorem res_sm {s : Sc} (h : s.Ok) (a b : Nat) : Sm 4000 (res s a b) := (res_bq h a b).sm (dS_ok h).1 (dS_lt h) (p4000 (by decide))
theorem resistance_of_ok {s : Sc} (h : s.Ok) {a b : Nat} (ha : a < s.n) (hb : b < s.n) : f_resistance_of [encS s, .int (a : Nat), .int (b : Nat)] = ok (encQ (res s a b)) := by
  have h6 := h.n6
  by_cases hab : a = b
  · subst hab
    rw [res_self]
    unfold f_resistance_of g_resistance_of
    simp [runDef, initT, gSeq, gNil, gRet, gRetN, gSet, gSetO, gEx, gIf, gPar, gAsg, gFrz, frzT, gRaise, fCl, fCons, fNil, fB, fU, fN, fV, fC, fTr, fNo, fAnd, fOr, vAnd, vOr, fNoV, fIf, fTup, fLst, fFr, fCh, lft, truD, bnd, bndS, gN, gT, gs0, gs1, isiD, tyD, lenDs, absDs, minDs, maxDs, tupDs, addD, subD, negD, ltD, leD, gtD, geD, isN, notN, ixO, fOix, fOln, gApp, putO, gPut, seqD, fSq, fLs, optD, fSl, slD, ixD, atI_c0, atI_c1, atI_c2, atI_map, modD_ok, lenDs, fRg1, fRg2, eqD_int, kZERO]
  · obtain ⟨r, _⟩ := bal_solve h (b := dl a b) (e := 1) (E := 0) (B := 0) (by decide) (by decide) (dl_bq a b) (by decide)
    have bo := balance_ok h (dl a b)
    have s1 := mkQ_set (fun _ => 0) a 1 ha
    have s2 := mkQ_set (fun p => if p = a then (1 : Rat) else 0) b (-1) hb
    have ef : (fun p => if p = b then (-1 : Rat) else (fun p => if p = a then (1 : Rat) else 0) p) = dl a b := by
      funext p
      unfold dl
      by_cases h1 : p = b
      · have : ¬ p = a := fun z => hab (z.symm.trans h1)
        simp [h1]
        rw [if_neg (fun z => hab z.symm)]
        grind
      · simp [h1]
        grind
    rw [ef] at s2
    have i1 := mkQ_ix (bal s (dl a b)) ha
    have i2 := mkQ_ix (bal s (dl a b)) hb
    have so := subtract_ok (a := bal s (dl a b) a) (b := bal s (dl a b) b) ((pot_bq h a b a).sm (dS_ok h).1 (dS_lt h) (p4000 (by decide))) ((pot_bq h a b b).sm (dS_ok h).1 (dS_lt h) (p4000 (by decide)))
    have q1 : (PyData.tuple [.int (-1), .int 1] : D) = encQ (-1) := rfl
    rw [mkQ_zero] at s1
    simp only [encR] at r
    unfold f_resistance_of g_resistance_of
    simp only [encS] at bo ⊢
    simp [runDef, initT, gSeq, gNil, gRet, gRetN, gSet, gSetO, gEx, gIf, gPar, gAsg, gFrz, frzT, gRaise, fCl, fCons, fNil, fB, fU, fN, fV, fC, fTr, fNo, fAnd, fOr, vAnd, vOr, fNoV, fIf, fTup, fLst, fFr, fCh, lft, truD, bnd, bndS, gN, gT, gs0, gs1, isiD, tyD, lenDs, absDs, minDs, maxDs, tupDs, addD, subD, negD, ltD, leD, gtD, geD, isN, notN, ixO, fOix, fOln, gApp, putO, gPut, seqD, fSq, fLs, optD, fSl, slD, ixD, atI_c0, atI_c1, atI_c2, atI_map, modD_ok, lenDs, fRg1, fRg2, eqD_int, show ¬ ((a : Int) = b) by omega, fRep, kZERO, kONE, show s.n < 9223372036854775808 by omega, show s.n ≤ 100000 by omega, gPut2, q1, ixN_nat ha, ixN_nat hb, s1, s2, bo, r, i1, i2, so, res, pot]
theorem resistance_ok {s : Sc} (h : s.Ok) {a b : Nat} (ha : a < s.n) (hb : b < s.n) : f_resistance [encS s, .int (a : Nat), .int (b : Nat)] = if root s.ms a = root s.ms b then ok (encQ (res s a b)) else er "Disconnected" := by
  have e1 := check_schedule_ok h
  have e2 := check_connected_ok h ha hb
  have e3 := resistance_of_ok h ha hb
  unfold f_resistance g_resistance
  by_cases hr : root s.ms a = root s.ms b
  · rw [if_pos hr] at e2 ⊢
    simp [runDef, initT, gSeq, gNil, gRet, gRetN, gSet, gSetO, gEx, gIf, gPar, gAsg, gFrz, frzT, gRaise, fCl, fCons, fNil, fB, fU, fN, fV, fC, fTr, fNo, fAnd, fOr, vAnd, vOr, fNoV, fIf, fTup, fLst, fFr, fCh, lft, truD, bnd, bndS, gN, gT, gs0, gs1, isiD, tyD, lenDs, absDs, minDs, maxDs, tupDs, addD, subD, negD, ltD, leD, gtD, geD, isN, notN, ixO, fOix, fOln, gApp, putO, gPut, seqD, fSq, fLs, optD, fSl, slD, ixD, atI_c0, atI_c1, atI_c2, atI_map, modD_ok, lenDs, fRg1, fRg2, e1, e2, e3]
  · rw [if_neg hr] at e2 ⊢
    simp [runDef, initT, gSeq, gNil, gRet, gRetN, gSet, gSetO, gEx, gIf, gPar, gAsg, gFrz, frzT, gRaise, fCl, fCons, fNil, fB, fU, fN, fV, fC, fTr, fNo, fAnd, fOr, vAnd, vOr, fNoV, fIf, fTup, fLst, fFr, fCh, lft, truD, bnd, bndS, gN, gT, gs0, gs1, isiD, tyD, lenDs, absDs, minDs, maxDs, tupDs, addD, subD, negD, ltD, leD, gtD, geD, isN, notN, ixO, fOix, fOln, gApp, putO, gPut, seqD, fSq, fLs, optD, fSl, slD, ixD, atI_c0, atI_c1, atI_c2, atI_map, modD_ok, lenDs, fRg1, fRg2, e1, e2]
theorem law_resistance_ok {s : Sc} (h : s.Ok) {a b : Nat} (ha : a < s.n) (hb : b < s.n) : f__law_resistance [encS s, .int (a : Nat), .int (b : Nat)] = ok (if root s.ms a = root s.ms b then encQ (res s a b) else .str "apart") := by
  have e := resistance_ok h ha hb
  unfold f__law_resistance g__law_resistance
  by_cases hr : root s.ms a = root s.ms b
  · rw [if_pos hr] at e ⊢
    simp [runDef, initT, gSeq, gNil, gRet, gRetN, gSet, gSetO, gEx, gIf, gPar, gAsg, gFrz, frzT, gRaise, fCl, fCons, fNil, fB, fU, fN, fV, fC, fTr, fNo, fAnd, fOr, vAnd, vOr, fNoV, fIf, fTup, fLst, fFr, fCh, lft, truD, bnd, bndS, gN, gT, gs0, gs1, isiD, tyD, lenDs, absDs, minDs, maxDs, tupDs, addD, subD, negD, ltD, leD, gtD, geD, isN, notN, ixO, fOix, fOln, gApp, putO, gPut, seqD, fSq, fLs, optD, fSl, slD, ixD, atI_c0, atI_c1, atI_c2, atI_map, modD_ok, lenDs, fRg1, fRg2, gTry, e]
  · rw [if_neg hr] at e ⊢
    simp [runDef, initT, gSeq, gNil, gRet, gRetN, gSet, gSetO, gEx, gIf, gPar, gAsg, gFrz, frzT, gRaise, fCl, fCons, fNil, fB, fU, fN, fV, fC, fTr, fNo, fAnd, fOr, vAnd, vOr, fNoV, fIf, fTup, fLst, fFr, fCh, lft, truD, bnd, bndS, gN, gT, gs0, gs1, isiD, tyD, lenDs, absDs, minDs, maxDs, tupDs, addD, subD, negD, ltD, leD, gtD, geD, isN, notN, ixO, fOix, fOln, gApp, putO, gPut, seqD, fSq, fLs, optD, fSl, slD, ixD, atI_c0, atI_c1, atI_c2, atI_map, modD_ok, lenDs, fRg1, fRg2, gTry, e, tabOf]
theorem law_resistance_bad1 {s : Sc} (h : s.Ok) {d e : D} (hd : BadP s.n d) : f__law_resistance [encS s, d, e] = ok (.str "player") := by
  have e1 := check_schedule_ok h
  have er : f_resistance [encS s, d, e] = er "InvalidPlayer" := by
    unfold f_resistance g_resistance
    simp [runDef, initT, gSeq, gNil, gRet, gRetN, gSet, gSetO, gEx, gIf, gPar, gAsg, gFrz, frzT, gRaise, fCl, fCons, fNil, fB, fU, fN, fV, fC, fTr, fNo, fAnd, fOr, vAnd, vOr, fNoV, fIf, fTup, fLst, fFr, fCh, lft, truD, bnd, bndS, gN, gT, gs0, gs1, isiD, tyD, lenDs, absDs, minDs, maxDs, tupDs, addD, subD, negD, ltD, leD, gtD, geD, isN, notN, ixO, fOix, fOln, gApp, putO, gPut, seqD, fSq, fLs, optD, fSl, slD, ixD, atI_c0, atI_c1, atI_c2, atI_map, modD_ok, lenDs, fRg1, fRg2, e1, check_connected_bad1 h hd]
  have ne : ¬ (Str.ofString "InvalidPlayer" = Str.ofString "Disconnected") := by decide +kernel
  unfold f__law_resistance g__law_resistance
  simp [runDef, initT, gSeq, gNil, gRet, gRetN, gSet, gSetO, gEx, gIf, gPar, gAsg, gFrz, frzT, gRaise, fCl, fCons, fNil, fB, fU, fN, fV, fC, fTr, fNo, fAnd, fOr, vAnd, vOr, fNoV, fIf, fTup, fLst, fFr, fCh, lft, truD, bnd, bndS, gN, gT, gs0, gs1, isiD, tyD, lenDs, absDs, minDs, maxDs, tupDs, addD, subD, negD, ltD, leD, gtD, geD, isN, notN, ixO, fOix, fOln, gApp, putO, gPut, seqD, fSq, fLs, optD, fSl, slD, ixD, atI_c0, atI_c1, atI_c2, atI_map, modD_ok, lenDs, fRg1, fRg2, gTry, er, tabOf, ne]
theorem law_resistance_bad2 {s : Sc} (h : s.Ok) {a : Nat} (ha : a < s.n) {d : D} (hd : BadP s.n d) : f__law_resistance [encS s, .int (a : Nat), d] = ok (.str "player") := by
  have e1 := check_schedule_ok h
  have er : f_resistance [encS s, .int (a : Nat), d] = er "InvalidPlayer" := by
    unfold f_resistance g_resistance
    simp [runDef, initT, gSeq, gNil, gRet, gRetN, gSet, gSetO, gEx, gIf, gPar, gAsg, gFrz, frzT, gRaise, fCl, fCons, fNil, fB, fU, fN, fV, fC, fTr, fNo, fAnd, fOr, vAnd, vOr, fNoV, fIf, fTup, fLst, fFr, fCh, lft, truD, bnd, bndS, gN, gT, gs0, gs1, isiD, tyD, lenDs, absDs, minDs, maxDs, tupDs, addD, subD, negD, ltD, leD, gtD, geD, isN, notN, ixO, fOix, fOln, gApp, putO, gPut, seqD, fSq, fLs, optD, fSl, slD, ixD, atI_c0, atI_c1, atI_c2, atI_map, modD_ok, lenDs, fRg1, fRg2, e1, check_connected_bad2 h ha hd]
  have ne : ¬ (Str.ofString "InvalidPlayer" = Str.ofString "Disconnected") := by decide +kernel
  unfold f__law_resistance g__law_resistance
  simp [runDef, initT, gSeq, gNil, gRet, gRetN, gSet, gSetO, gEx, gIf, gPar, gAsg, gFrz, frzT, gRaise, fCl, fCons, fNil, fB, fU, fN, fV, fC, fTr, fNo, fAnd, fOr, vAnd, vOr, fNoV, fIf, fTup, fLst, fFr, fCh, lft, truD, bnd, bndS, gN, gT, gs0, gs1, isiD, tyD, lenDs, absDs, minDs, maxDs, tupDs, addD, subD, negD, ltD, leD, gtD, geD, isN, notN, ixO, fOix, fOln, gApp, putO, gPut, seqD, fSq, fLs, optD, fSl, slD, ixD, atI_c0, atI_c1, atI_c2, atI_map, modD_ok, lenDs, fRg1, fRg2, gTry, er, tabOf, ne]
/-! ### leverages -/
theorem ms_at {s : Sc} {i : Nat} {m : Mt} (hm : s.ms[i]? = some m) : L2.atI (s.ms.map encM) (i : Int) = some (encM m) := by
  rw [atI_map, atI_nat hm]; rfl
theorem lev_bq {s : Sc} (h : s.Ok) {m : Mt} (hm : m ∈ s.ms) : Bq (dS s) (9 * 2 ^ 631) (lev s m) := Bq_w (res_bq h m.l m.r) (h.rg m hm).2.2.2 (dS_ok h).1
theorem leverage_of_ok {s : Sc} (h : s.Ok) {i : Nat} {m : Mt} (hm : s.ms[i]? = some m) : f_leverage_of [encS s, .int (i : Nat)] = ok (encQ (lev s m)) := by
  have hmm := List.mem_of_getElem? hm
  obtain ⟨r1, r2, r3, r4⟩ := h.rg m hmm
  have e := resistance_of_ok h (show m.l < s.n by omega) r2
  have at1 := ms_at hm
  have mo := multiply_ok (Sm_w r4) (res_sm h m.l m.r)
  unfold f_leverage_of g_leverage_of
  simp only [encS, encM] at e at1 ⊢
  simp [runDef, initT, gSeq, gNil, gRet, gRetN, gSet, gSetO, gEx, gIf, gPar, gAsg, gFrz, frzT, gRaise, fCl, fCons, fNil, fB, fU, fN, fV, fC, fTr, fNo, fAnd, fOr, vAnd, vOr, fNoV, fIf, fTup, fLst, fFr, fCh, lft, truD, bnd, bndS, gN, gT, gs0, gs1, isiD, tyD, lenDs, absDs, minDs, maxDs, tupDs, addD, subD, negD, ltD, leD, gtD, geD, isN, notN, ixO, fOix, fOln, gApp, putO, gPut, seqD, fSq, fLs, optD, fSl, slD, ixD, atI_c0, atI_c1, atI_c2, atI_map, modD_ok, lenDs, fRg1, fRg2, at1, e, encQ_w, mo, lev]
theorem range_map {α β : Type} (xs : List α) (g : Nat → β) (f : α → β) (h : ∀ i a, xs[i]? = some a → g i = f a) : (List.range xs.length).map g = xs.map f := by
  refine List.ext_getElem? fun i => ?_
  by_cases hi : i < xs.length
  · have e := List.getElem?_eq_getElem hi
    rw [List.getElem?_map, List.getElem?_map, e, List.getElem?_range hi]
    simp only [Option.map_some, Option.some.injEq]
    exact h i _ e
  · rw [List.getElem?_eq_none (by simpa using hi), List.getElem?_eq_none (by simpa using hi)]
theorem leverages_ok {s : Sc} (h : s.Ok) : f_leverages [encS s] = ok (.list ((s.ms.map (lev s)).map encQ)) := by
  have h36 := h.len
  have e1 := check_schedule_ok h
  have ec : lcD (gN 1) fYes e_leverages_1 [.d (encS s), .u] (rngD 0 s.ms.length) = some ((s.ms.map (lev s)).map encQ) := by
    have : (s.ms.map (lev s)).map encQ = (List.range s.ms.length).map fun i => encQ (lev s (s.ms.getD i ⟨0, 0, 0⟩)) := by
      rw [List.map_map]
      exact (range_map s.ms _ _ fun i a ha => by rw [List.getD_eq_getElem?_getD, ha]; rfl).symm
    rw [this, rngD_map]
    refine lcD_all (f := iN) (List.range s.ms.length) fun i hi => ⟨_, rfl, ?_⟩
    have hi' := List.mem_range.mp hi
    have hm := List.getElem?_eq_getElem hi'
    have e := leverage_of_ok h hm
    unfold e_leverages_1
    simp [runDef, initT, gSeq, gNil, gRet, gRetN, gSet, gSetO, gEx, gIf, gPar, gAsg, gFrz, frzT, gRaise, fCl, fCons, fNil, fB, fU, fN, fV, fC, fTr, fNo, fAnd, fOr, vAnd, vOr, fNoV, fIf, fTup, fLst, fFr, fCh, lft, truD, bnd, bndS, gN, gT, gs0, gs1, isiD, tyD, lenDs, absDs, minDs, maxDs, tupDs, addD, subD, negD, ltD, leD, gtD, geD, isN, notN, ixO, fOix, fOln, gApp, putO, gPut, seqD, fSq, fLs, optD, fSl, slD, ixD, atI_c0, atI_c1, atI_c2, atI_map, modD_ok, lenDs, fRg1, fRg2, iN, e, hi']
  unfold f_leverages g_leverages
  simp only [encS] at e1 ec ⊢
  simp [runDef, initT, gSeq, gNil, gRet, gRetN, gSet, gSetO, gEx, gIf, gPar, gAsg, gFrz, frzT, gRaise, fCl, fCons, fNil, fB, fU, fN, fV, fC, fTr, fNo, fAnd, fOr, vAnd, vOr, fNoV, fIf, fTup, fLst, fFr, fCh, lft, truD, bnd, bndS, gN, gT, gs0, gs1, isiD, tyD, lenDs, absDs, minDs, maxDs, tupDs, addD, subD, negD, ltD, leD, gtD, geD, isN, notN, ixO, fOix, fOln, gApp, putO, gPut, seqD, fSq, fLs, optD, fSl, slD, ixD, atI_c0, atI_c1, atI_c2, atI_map, modD_ok, lenDs, fRg1, fRg2, e1, rng_of (show s.ms.length < 2 ^ 62 by omega), fLc, rngD_len, show s.ms.length ≤ 100000 by omega, wipeT, ec]
/-! ### a match less -/
def wo (s : Sc) (i : Nat) : Sc := ⟨s.n, s.ms.take i ++ s.ms.drop (i + 1)⟩
theorem wo_sub {s : Sc} {i : Nat} : ∀ m ∈ (wo s i).ms, m ∈ s.ms := fun m hm => by
  rcases List.mem_append.mp hm with h | h
  · exact List.mem_of_mem_take h
  · exact List.mem_of_mem_drop h
theorem wo_ok {s : Sc} (h : s.Ok) (i : Nat) : (wo s i).Ok := by
  refine ⟨h.n2, h.n6, fun m hm => h.rg m (wo_sub m hm), ?_⟩
  have e : (s.ms.take i ++ s.ms.drop (i + 1)).Sublist s.ms := by
    rw [← List.eraseIdx_eq_take_drop_succ]
    exact List.eraseIdx_sublist _ _
  exact h.so.sublist e
theorem cutFrom (xs : List D) (k : Nat) : cutD xs (some (k : Int)) none = xs.drop k := by
  unfold cutD
  rw [HT.sIx_nat, HT.sIx_none]
  by_cases h : k ≤ xs.length
  · rw [Nat.min_eq_left h]
    exact List.take_of_length_le (by simp)
  · rw [Nat.min_eq_right (by omega), List.drop_of_length_le (by omega), List.drop_of_length_le (by omega)]
    simp
theorem without_match_ok {s : Sc} (h : s.Ok) (i : Nat) : f_without_match [encS s, .int (i : Nat)] = ok (encS (wo s i)) := by
  have h36 := h.len
  have c1 := cutTo (s.ms.map encM) i
  have c2 := cutFrom (s.ms.map encM) (i + 1)
  have c2' : cutD (s.ms.map encM) (some ((i : Int) + 1)) none = (s.ms.map encM).drop (i + 1) := by
    rw [← c2]; rfl
  unfold f_without_match g_without_match
  simp [runDef, initT, gSeq, gNil, gRet, gRetN, gSet, gSetO, gEx, gIf, gPar, gAsg, gFrz, frzT, gRaise, fCl, fCons, fNil, fB, fU, fN, fV, fC, fTr, fNo, fAnd, fOr, vAnd, vOr, fNoV, fIf, fTup, fLst, fFr, fCh, lft, truD, bnd, bndS, gN, gT, gs0, gs1, isiD, tyD, lenDs, absDs, minDs, maxDs, tupDs, addD, subD, negD, ltD, leD, gtD, geD, isN, notN, ixO, fOix, fOln, gApp, putO, gPut, seqD, fSq, fLs, optD, fSl, slD, ixD, atI_c0, atI_c1, atI_c2, atI_map, modD_ok, lenDs, fRg1, fRg2, encS, wo, c1, c2', List.map_take, List.map_drop, show min i s.ms.length + (s.ms.length - (i + 1)) ≤ 100000 by omega]
/-- the bridges' numbers -/
def isBr (s : Sc) (i : Nat) : Bool := decide (nr s.n (root s.ms) < nr s.n (root (wo s i).ms))
def brs (s : Sc) : List Nat := (List.range s.ms.length).filter (isBr s)
theorem bridges_ok {s : Sc} (h : s.Ok) : f_bridges [encS s] = ok (encL (brs s)) := by
  have h36 := h.len
  have e1 := check_schedule_ok h
  have e2 := groups_of_ok h
  have ec : ∀ k : Nat, k = (groups s).length → lcD (gN 2) t_bridges_1 e_bridges_1 [.d (encS s), .d (.int (k : Nat)), .u] (rngD 0 s.ms.length) = some ((brs s).map iN) := by
    intro k hk
    rw [rngD_map]
    unfold brs
    refine lcD_eq (f := iN) (r := iN) (List.range s.ms.length) fun i hi => ⟨_, rfl, ?_, fun _ => ?_⟩
    · have e3 := without_match_ok h i
      have e4 := groups_of_ok (wo_ok h i)
      have g1 := groups_nr (wo s i)
      have g2 := groups_nr s
      unfold t_bridges_1 isBr
      simp [runDef, initT, gSeq, gNil, gRet, gRetN, gSet, gSetO, gEx, gIf, gPar, gAsg, gFrz, frzT, gRaise, fCl, fCons, fNil, fB, fU, fN, fV, fC, fTr, fNo, fAnd, fOr, vAnd, vOr, fNoV, fIf, fTup, fLst, fFr, fCh, lft, truD, bnd, bndS, gN, gT, gs0, gs1, isiD, tyD, lenDs, absDs, minDs, maxDs, tupDs, addD, subD, negD, ltD, leD, gtD, geD, isN, notN, ixO, fOix, fOln, gApp, putO, gPut, seqD, fSq, fLs, optD, fSl, slD, ixD, atI_c0, atI_c1, atI_c2, atI_map, modD_ok, lenDs, fRg1, fRg2, iN, e3, e4]
      rw [hk, g1, g2]
      exact Iff.rfl
    · unfold e_bridges_1
      simp [runDef, initT, gSeq, gNil, gRet, gRetN, gSet, gSetO, gEx, gIf, gPar, gAsg, gFrz, frzT, gRaise, fCl, fCons, fNil, fB, fU, fN, fV, fC, fTr, fNo, fAnd, fOr, vAnd, vOr, fNoV, fIf, fTup, fLst, fFr, fCh, lft, truD, bnd, bndS, gN, gT, gs0, gs1, isiD, tyD, lenDs, absDs, minDs, maxDs, tupDs, addD, subD, negD, ltD, leD, gtD, geD, isN, notN, ixO, fOix, fOln, gApp, putO, gPut, seqD, fSq, fLs, optD, fSl, slD, ixD, atI_c0, atI_c1, atI_c2, atI_map, modD_ok, lenDs, fRg1, fRg2]
  have ec' := ec _ rfl
  unfold f_bridges g_bridges
  simp only [encS] at e1 e2 ec' ⊢
  simp [runDef, initT, gSeq, gNil, gRet, gRetN, gSet, gSetO, gEx, gIf, gPar, gAsg, gFrz, frzT, gRaise, fCl, fCons, fNil, fB, fU, fN, fV, fC, fTr, fNo, fAnd, fOr, vAnd, vOr, fNoV, fIf, fTup, fLst, fFr, fCh, lft, truD, bnd, bndS, gN, gT, gs0, gs1, isiD, tyD, lenDs, absDs, minDs, maxDs, tupDs, addD, subD, negD, ltD, leD, gtD, geD, isN, notN, ixO, fOix, fOln, gApp, putO, gPut, seqD, fSq, fLs, optD, fSl, slD, ixD, atI_c0, atI_c1, atI_c2, atI_map, modD_ok, lenDs, fRg1, fRg2, e1, e2, rng_of (show s.ms.length < 2 ^ 62 by omega), fLc, rngD_len, show s.ms.length ≤ 100000 by omega, wipeT, ec', encL]
theorem wo_split {s : Sc} {i : Nat} {m : Mt} (hm : s.ms[i]? = some m) : s.ms = s.ms.take i ++ m :: s.ms.drop (i + 1) := by
  obtain ⟨hi, e⟩ := List.getElem?_eq_some_iff.mp hm
  rw [← e, ← List.drop_eq_getElem_cons hi]
  exact (List.take_append_drop i s.ms).symm
theorem isBr_iff {s : Sc} (h : s.Ok) {i : Nat} {m : Mt} (hm : s.ms[i]? = some m) : isBr s i = true ↔ root (wo s i).ms m.l ≠ root (wo s i).ms m.r := by
  obtain ⟨r1, r2, _⟩ := h.rg m (List.mem_of_getElem? hm)
  unfold isBr
  rw [decide_eq_true_iff]
  have := bridge_iff (n := s.n) (a := s.ms.take i) (b := s.ms.drop (i + 1)) (m := m) (by omega) r2
  rw [← wo_split hm] at this
  exact this
theorem lev_isBr {s : Sc} (h : s.Ok) {i : Nat} {m : Mt} (hm : s.ms[i]? = some m) : lev s m = 1 ↔ isBr s i = true := by
  rw [isBr_iff h hm]
  constructor
  · intro e; exact lev_one h (List.mem_of_getElem? hm) e (wo_split hm)
  · intro e; exact lev_bridge h (List.mem_of_getElem? hm) (wo_split hm) e
end LW
set_option Elab.async false
set_option linter.all false
set_option maxRecDepth 100000
set_option maxHeartbeats 4000000
/-! R4: a match left out; predictions -/
namespace LW
open PySem DL LA
def wq (qs : List Rat) (i : Nat) : List Rat := qs.take i ++ qs.drop (i + 1)
theorem sur_app (a b : Zs) (k : Nat) : sur (a ++ b) k = sur a k + sur b k := by
  unfold sur
  rw [List.map_append, tot_append]
theorem sur_mid (a b : Zs) (p : Mt × Rat) (k : Nat) : sur (a ++ p :: b) k = sur (a ++ b) k + sgn p.1 k * ((p.1.w : Rat) * p.2) := by
  rw [sur_app, sur_app]
  simp only [sur, List.map_cons, tot]
  grind
theorem zip_split {ms : List Mt} {qs : List Rat} {i : Nat} {m : Mt} {q : Rat} (hl : qs.length = ms.length) (hm : ms[i]? = some m) (hq : qs[i]? = some q) : ms.zip qs = (ms.take i).zip (qs.take i) ++ (m, q) :: (ms.drop (i + 1)).zip (qs.drop (i + 1)) := by
  obtain ⟨h1, e1⟩ := List.getElem?_eq_some_iff.mp hm
  obtain ⟨h2, e2⟩ := List.getElem?_eq_some_iff.mp hq
  have a : ms = ms.take i ++ m :: ms.drop (i + 1) := by rw [← e1, ← List.drop_eq_getElem_cons h1]; exact (List.take_append_drop i ms).symm
  have b : qs = qs.take i ++ q :: qs.drop (i + 1) := by rw [← e2, ← List.drop_eq_getElem_cons h2]; exact (List.take_append_drop i qs).symm
  have : ms.zip qs = (ms.take i ++ m :: ms.drop (i + 1)).zip (qs.take i ++ q :: qs.drop (i + 1)) := by rw [← a, ← b]
  rw [this, List.zip_append (by rw [List.length_take, List.length_take]; omega), List.zip_cons_cons]
theorem zip_wo {s : Sc} {qs : List Rat} (i : Nat) (hl : qs.length = s.ms.length) : (wo s i).ms.zip (wq qs i) = (s.ms.take i).zip (qs.take i) ++ (s.ms.drop (i + 1)).zip (qs.drop (i + 1)) := by
  unfold wo wq
  rw [List.zip_append (by rw [List.length_take, List.length_take]; omega)]
theorem wq_len {s : Sc} {qs : List Rat} (i : Nat) (hl : qs.length = s.ms.length) : (wq qs i).length = (wo s i).ms.length := by
  unfold wo wq
  simp only [List.length_append, List.length_take, List.length_drop]
  omega
theorem gr_split {s : Sc} {i : Nat} {m : Mt} (hm : s.ms[i]? = some m) (x : Nat → Rat) (k : Nat) : sur (gr s.ms x) k = sur (gr (wo s i).ms x) k + sgn m k * ((m.w : Rat) * (x m.l - x m.r)) := by
  have : gr s.ms x = gr (s.ms.take i) x ++ (m, x m.l - x m.r) :: gr (s.ms.drop (i + 1)) x := by
    conv => lhs; rw [wo_split hm]
    unfold gr
    simp
  rw [this, sur_mid]
  have e2 : gr (wo s i).ms x = gr (s.ms.take i) x ++ gr (s.ms.drop (i + 1)) x := by unfold gr wo; simp
  rw [e2]
theorem sgn_dl {m : Mt} (h : m.l ≠ m.r) (k : Nat) : sgn m k = dl m.l m.r k := by
  unfold sgn dl
  by_cases h1 : k = m.l
  · rw [if_pos h1, if_pos h1, if_neg (by omega)]; grind
  · rw [if_neg h1, if_neg h1]
    by_cases h2 : k = m.r
    · rw [if_pos h2, if_pos h2]; grind
    · rw [if_neg h2, if_neg h2]; grind
/-- the left-out prediction -/
def lo (s : Sc) (qs : List Rat) (i : Nat) (m : Mt) : Rat := fit (wo s i) (wq qs i) m.l - fit (wo s i) (wq qs i) m.r
theorem left_id {s : Sc} (h : s.Ok) {qs : List Rat} (hl : qs.length = s.ms.length) {i : Nat} {m : Mt} {q : Rat} (hm : s.ms[i]? = some m) (hq : qs[i]? = some q) : (q - lo s qs i m) * (1 - lev s m) = q - (fit s qs m.l - fit s qs m.r) := by
  have hmm := List.mem_of_getElem? hm
  have mo := h.msok
  obtain ⟨a1, a2, a3, _⟩ := mo m hmm
  have c := con_match h hmm
  have F := fit_ok mo qs
  have F' := fit_ok (wo_ok h i).msok (wq qs i)
  obtain ⟨x', hx'⟩ : ∃ x', x' = fit (wo s i) (wq qs i) := ⟨_, rfl⟩
  obtain ⟨t, ht⟩ : ∃ t, t = q - lo s qs i m := ⟨_, rfl⟩
  have e := uniq_diff mo (x := fit s qs) (y := fun j => x' j + ((m.w : Rat) * t) * pot s m.l m.r j) (fun k hk => by
    rw [F.bl k hk, sur_gr_add, sur_gr_mul, gr_split hm, pot_ok mo c k hk, zip_split hl hm hq, sur_mid, ← zip_wo i hl]
    rw [show sur (gr (wo s i).ms x') k = sur ((wo s i).ms.zip (wq qs i)) k by rw [hx']; exact F'.bl k hk]
    rw [sgn_dl a3, ht]
    unfold lo
    rw [← hx']
    simp only
    grind) c.r
  have hR : pot s m.l m.r m.l - pot s m.l m.r m.r = res s m.l m.r := rfl
  have hL : lo s qs i m = x' m.l - x' m.r := by unfold lo; rw [hx']
  rw [e, ← ht]
  unfold lev
  grind
/-- the cyclic part of a bridge is zero -/
theorem bridge_zero {s : Sc} (h : s.Ok) {qs : List Rat} (hl : qs.length = s.ms.length) {i : Nat} {m : Mt} {q : Rat} (hm : s.ms[i]? = some m) (hq : qs[i]? = some q) (hb : isBr s i = true) : q - (fit s qs m.l - fit s qs m.r) = 0 := by
  have hmm := List.mem_of_getElem? hm
  have mo := h.msok
  have w0 := w_pos (mo m hmm).2.2.2
  have hr := (isBr_iff h hm).mp hb
  have lev1 := (lev_isBr h hm).mpr hb
  have := left_id h hl hm hq
  rw [lev1] at this
  rw [← this]
  grind
theorem cyc_at {s : Sc} {qs : List Rat} {i : Nat} {m : Mt} {q : Rat} (hm : s.ms[i]? = some m) (hq : qs[i]? = some q) : (cyc' s qs)[i]? = some (q - (fit s qs m.l - fit s qs m.r)) := by
  unfold cyc' subL grad grq
  rw [List.getElem?_zipWith, hq, List.getElem?_map, hm]
  rfl
/-! ### on data -/
theorem Mg.wo {s : Sc} {d m E B : Nat} {qs : List Rat} (g : Mg s d m E B qs) (i : Nat) : Mg (wo s i) d m E B (wq qs i) :=
  ⟨wq_len i g.ln, fun q hq => g.bl q (by
    rcases List.mem_append.mp hq with h | h
    · exact List.mem_of_mem_take h
    · exact List.mem_of_mem_drop h), g.d0, g.dE, g.mB⟩
theorem fit_dS {s : Sc} (h : s.Ok) {qs : List Rat} {d m E B : Nat} (g : Mg s d m E B qs) (j : Nat) : Bq (dS s * d) (2 ^ (B + 630)) (fit s qs j) := by
  refine bal_dS h g.d0 (fun k => ?_) j
  refine (sur_bq (s.ms.zip qs) (m := m) (fun p hp => ?_) g.d0 k).le ?_
  · have := List.of_mem_zip hp
    exact ⟨(h.rg p.1 this.1).2.2.2, g.bl p.2 this.2⟩
  · have h36 := h.len
    rw [List.length_zip]
    have : 9 * m * min s.ms.length qs.length ≤ 9 * m * 36 := Nat.mul_le_mul_left _ (by omega)
    have := g.mB
    omega
theorem fit_sm {s : Sc} (h : s.Ok) {qs : List Rat} {d m E B : Nat} (g : Mg s d m E B qs) (hz : B + E ≤ 2900) (j : Nat) : Sm 4000 (fit s qs j) :=
  (fit_dS h g j).sm (Nat.mul_ne_zero (dS_ok h).1 g.d0) (Nat.lt_of_le_of_lt (mul_pow (dS_ok h).2 g.dE) (p4000 (by omega))) (p4000 (by omega))
/-- a prediction -/
def prd (s : Sc) (qs : List Rat) (a b : Nat) : Rat := fit s qs a - fit s qs b
theorem prd_bq {s : Sc} (h : s.Ok) {qs : List Rat} {d m E B : Nat} (g : Mg s d m E B qs) (a b : Nat) : Bq (dS s * d) (2 ^ (B + 631)) (prd s qs a b) := by
  refine ((fit_dS h g a).sub (fit_dS h g b) (Nat.mul_ne_zero (dS_ok h).1 g.d0)).le ?_
  have : (2 : Nat) ^ (B + 631) = 2 ^ (B + 630) * 2 := Nat.pow_succ ..
  omega
theorem prd_sm {s : Sc} (h : s.Ok) {qs : List Rat} {d m E B : Nat} (g : Mg s d m E B qs) (hz : B + E ≤ 2900) (a b : Nat) : Sm 4000 (prd s qs a b) :=
  (prd_bq h g a b).sm (Nat.mul_ne_zero (dS_ok h).1 g.d0) (Nat.lt_of_le_of_lt (mul_pow (dS_ok h).2 g.dE) (p4000 (by omega))) (p4000 (by omega))
theorem predict_ok {s : Sc} (h : s.Ok) {qs : List Rat} {d m E B : Nat} (g : Mg s d m E B qs) (hz : B + E ≤ 2900) {a b : Nat} (ha : a < s.n) (hb : b < s.n) : f_predict [encS s, .tuple (qs.map encQ), .int (a : Nat), .int (b : Nat)] = if root s.ms a = root s.ms b then ok (encQ (prd s qs a b)) else er "Disconnected" := by
  have e1 := check_margins_ok h g.ln
  have e2 := check_connected_ok h ha hb
  obtain ⟨e3, _⟩ := fit_sz h g hz
  have i1 := mkQ_ix (fit s qs) ha
  have i2 := mkQ_ix (fit s qs) hb
  have so := subtract_ok (fit_sm h g hz a) (fit_sm h g hz b)
  unfold f_predict g_predict
  by_cases hr : root s.ms a = root s.ms b
  · rw [if_pos hr] at e2 ⊢
    simp [runDef, initT, gSeq, gNil, gRet, gRetN, gSet, gSetO, gEx, gIf, gPar, gAsg, gFrz, frzT, gRaise, fCl, fCons, fNil, fB, fU, fN, fV, fC, fTr, fNo, fAnd, fOr, vAnd, vOr, fNoV, fIf, fTup, fLst, fFr, fCh, lft, truD, bnd, bndS, gN, gT, gs0, gs1, isiD, tyD, lenDs, absDs, minDs, maxDs, tupDs, addD, subD, negD, ltD, leD, gtD, geD, isN, notN, ixO, fOix, fOln, gApp, putO, gPut, seqD, fSq, fLs, optD, fSl, slD, ixD, atI_c0, atI_c1, atI_c2, atI_map, modD_ok, lenDs, fRg1, fRg2, e1, e2, e3, i1, i2, so, prd]
  · rw [if_neg hr] at e2 ⊢
    simp [runDef, initT, gSeq, gNil, gRet, gRetN, gSet, gSetO, gEx, gIf, gPar, gAsg, gFrz, frzT, gRaise, fCl, fCons, fNil, fB, fU, fN, fV, fC, fTr, fNo, fAnd, fOr, vAnd, vOr, fNoV, fIf, fTup, fLst, fFr, fCh, lft, truD, bnd, bndS, gN, gT, gs0, gs1, isiD, tyD, lenDs, absDs, minDs, maxDs, tupDs, addD, subD, negD, ltD, leD, gtD, geD, isN, notN, ixO, fOix, fOln, gApp, putO, gPut, seqD, fSq, fLs, optD, fSl, slD, ixD, atI_c0, atI_c1, atI_c2, atI_map, modD_ok, lenDs, fRg1, fRg2, e1, e2]
theorem predict_bad1 {s : Sc} (h : s.Ok) {qs : List Rat} (hl : qs.length = s.ms.length) {v w : D} (hv : BadP s.n v) : f_predict [encS s, .tuple (qs.map encQ), v, w] = er "InvalidPlayer" := by
  unfold f_predict g_predict
  simp [runDef, initT, gSeq, gNil, gRet, gRetN, gSet, gSetO, gEx, gIf, gPar, gAsg, gFrz, frzT, gRaise, fCl, fCons, fNil, fB, fU, fN, fV, fC, fTr, fNo, fAnd, fOr, vAnd, vOr, fNoV, fIf, fTup, fLst, fFr, fCh, lft, truD, bnd, bndS, gN, gT, gs0, gs1, isiD, tyD, lenDs, absDs, minDs, maxDs, tupDs, addD, subD, negD, ltD, leD, gtD, geD, isN, notN, ixO, fOix, fOln, gApp, putO, gPut, seqD, fSq, fLs, optD, fSl, slD, ixD, atI_c0, atI_c1, atI_c2, atI_map, modD_ok, lenDs, fRg1, fRg2, check_margins_ok h hl, check_connected_bad1 h hv]
theorem predict_bad2 {s : Sc} (h : s.Ok) {qs : List Rat} (hl : qs.length = s.ms.length) {a : Nat} (ha : a < s.n) {v : D} (hv : BadP s.n v) : f_predict [encS s, .tuple (qs.map encQ), .int (a : Nat), v] = er "InvalidPlayer" := by
  unfold f_predict g_predict
  simp [runDef, initT, gSeq, gNil, gRet, gRetN, gSet, gSetO, gEx, gIf, gPar, gAsg, gFrz, frzT, gRaise, fCl, fCons, fNil, fB, fU, fN, fV, fC, fTr, fNo, fAnd, fOr, vAnd, vOr, fNoV, fIf, fTup, fLst, fFr, fCh, lft, truD, bnd, bndS, gN, gT, gs0, gs1, isiD, tyD, lenDs, absDs, minDs, maxDs, tupDs, addD, subD, negD, ltD, leD, gtD, geD, isN, notN, ixO, fOix, fOln, gApp, putO, gPut, seqD, fSq, fLs, optD, fSl, slD, ixD, atI_c0, atI_c1, atI_c2, atI_map, modD_ok, lenDs, fRg1, fRg2, check_margins_ok h hl, check_connected_bad2 h ha hv]
theorem check_index_ok {s : Sc} (h : s.Ok) {i : Nat} (hi : i < s.ms.length) : f_check_index [encS s, .int (i : Nat)] = ok .none := by
  have e := check_schedule_ok h
  have r := in_range_int (i : Int) 0 ((s.ms.length : Int) - 1)
  rw [decide_eq_true (show (0 : Int) ≤ i ∧ (i : Int) ≤ (s.ms.length : Int) - 1 by omega)] at r
  unfold f_check_index g_check_index
  simp only [encS] at e ⊢
  simp [runDef, initT, gSeq, gNil, gRet, gRetN, gSet, gSetO, gEx, gIf, gPar, gAsg, gFrz, frzT, gRaise, fCl, fCons, fNil, fB, fU, fN, fV, fC, fTr, fNo, fAnd, fOr, vAnd, vOr, fNoV, fIf, fTup, fLst, fFr, fCh, lft, truD, bnd, bndS, gN, gT, gs0, gs1, isiD, tyD, lenDs, absDs, minDs, maxDs, tupDs, addD, subD, negD, ltD, leD, gtD, geD, isN, notN, ixO, fOix, fOln, gApp, putO, gPut, seqD, fSq, fLs, optD, fSl, slD, ixD, atI_c0, atI_c1, atI_c2, atI_map, modD_ok, lenDs, fRg1, fRg2, e, r]
theorem check_index_bad {s : Sc} (h : s.Ok) {d : D} (hd : BadP s.ms.length d) : f_check_index [encS s, d] = er "InvalidMatch" := by
  have e := check_schedule_ok h
  have r := in_range_bad hd
  unfold f_check_index g_check_index
  simp only [encS] at e ⊢
  simp [runDef, initT, gSeq, gNil, gRet, gRetN, gSet, gSetO, gEx, gIf, gPar, gAsg, gFrz, frzT, gRaise, fCl, fCons, fNil, fB, fU, fN, fV, fC, fTr, fNo, fAnd, fOr, vAnd, vOr, fNoV, fIf, fTup, fLst, fFr, fCh, lft, truD, bnd, bndS, gN, gT, gs0, gs1, isiD, tyD, lenDs, absDs, minDs, maxDs, tupDs, addD, subD, negD, ltD, leD, gtD, geD, isN, notN, ixO, fOix, fOln, gApp, putO, gPut, seqD, fSq, fLs, optD, fSl, slD, ixD, atI_c0, atI_c1, atI_c2, atI_map, modD_ok, lenDs, fRg1, fRg2, e, r]
theorem wq_data (qs : List Rat) (i : Nat) (hl : qs.length ≤ 1000) (V : D) (hV : V = .tuple (qs.map encQ)) : addD (.tuple (cutD (qs.map encQ) none (some (i : Int)))) (.tuple (cutD (qs.map encQ) (some ((i : Int) + 1)) none)) = some (.tuple ((wq qs i).map encQ)) := by
  have c1 := cutTo (qs.map encQ) i
  have c2 := cutFrom (qs.map encQ) (i + 1)
  have c2' : cutD (qs.map encQ) (some ((i : Int) + 1)) none = (qs.map encQ).drop (i + 1) := by rw [← c2]; rfl
  rw [c1, c2']
  show (if _ then _ else _) = _
  rw [if_pos (by simp; omega)]
  unfold wq
  rw [List.map_append, List.map_take, List.map_drop]
theorem left_out_of_ok {s : Sc} (h : s.Ok) {qs : List Rat} {d m E B : Nat} (g : Mg s d m E B qs) (hz : B + E ≤ 2900) {i : Nat} {x : Mt} (hx : s.ms[i]? = some x) : f_left_out_of [encS s, .tuple (qs.map encQ), .int (i : Nat)] = ok (if isBr s i then .none else encQ (lo s qs i x)) := by
  have h36 := h.len
  have h' := wo_ok h i
  obtain ⟨r1, r2, r3, r4⟩ := h.rg x (List.mem_of_getElem? hx)
  have hl : x.l < (wo s i).n := show x.l < s.n by omega
  have hr : x.r < (wo s i).n := r2
  have at1 := ms_at hx
  have e1 := without_match_ok h i
  have e2 := groups_of_ok h'
  have gl := groups_len (wo s i)
  have h6 := h'.n6
  have e4 : ∀ v7 : SV, lcD (gN 8) t_left_out_of_1 e_left_out_of_1 [.d (encS s), .d (.tuple (qs.map encQ)), .d (.int (i : Nat)), .d (.int (x.l : Nat)), .d (.int (x.r : Nat)), .d (.int (x.w : Nat)), .d (encS (wo s i)), v7, .u] ((groups (wo s i)).map encL) = some ((both (wo s i) x.l x.r).map encL) := fun v7 => lcD_both fun y => ⟨_, rfl, by
    have m1 := in_grp x.l y
    have m2 := in_grp x.r y
    simp only [iN] at m1 m2
    unfold t_left_out_of_1
    by_cases h1 : x.l ∈ y <;> simp [fCl, fCons, fNil, fB, fU, fN, fV, fC, fTr, fNo, fAnd, fOr, vAnd, vOr, fNoV, fIf, fTup, fLst, fFr, fLs, seqD, fSl, optD, bnd, lft, truD, fRg1, fRg2, fSq, tupDs, ltD, leD, gtD, subD, addD, negD, modD_ok, gN, m1, m2, h1], by
    unfold e_left_out_of_1
    simp [fCl, fCons, fNil, fB, fU, fN, fV, fC, fTr, fNo, fAnd, fOr, vAnd, vOr, fNoV, fIf, fTup, fLst, fFr, fLs, seqD, fSl, optD, bnd, lft, truD, fRg1, fRg2, fSq, tupDs, ltD, leD, gtD, subD, addD, negD, modD_ok, gN]⟩
  have be := both_empty hl hr
  have ib := isBr_iff h hx
  have wd := wq_data qs i (by rw [g.ln]; omega) _ rfl
  obtain ⟨e3, _⟩ := fit_sz h' (g.wo i) hz
  have i1 := mkQ_ix (fit (wo s i) (wq qs i)) hl
  have i2 := mkQ_ix (fit (wo s i) (wq qs i)) hr
  have so := subtract_ok (fit_sm h' (g.wo i) hz x.l) (fit_sm h' (g.wo i) hz x.r)
  unfold f_left_out_of
  have key : g_left_out_of [.d (encS s), .d (.tuple (qs.map encQ)), .d (.int (i : Nat)), .u, .u, .u, .u, .u, .u] = some (.rt (if isBr s i then .none else encQ (lo s qs i x))) := by
    unfold g_left_out_of
    refine st_asg (d := encM x) (by simp only [encS]; simp [fCl, fCons, fNil, fB, fU, fN, fV, fC, fTr, fNo, fAnd, fOr, vAnd, vOr, fNoV, fIf, fTup, fLst, fFr, fLs, seqD, fSl, optD, bnd, lft, truD, fRg1, fRg2, fSq, tupDs, ltD, leD, gtD, subD, addD, negD, modD_ok, ixD, atI_c1, at1]) rfl ?_
    refine st_set (encS (wo s i)) (by simp [fCl, fCons, fNil, fB, fU, fN, fV, fC, fTr, fNo, fAnd, fOr, vAnd, vOr, fNoV, fIf, fTup, fLst, fFr, fLs, seqD, fSl, optD, bnd, lft, truD, fRg1, fRg2, fSq, tupDs, ltD, leD, gtD, subD, addD, negD, modD_ok, e1]) ?_
    by_cases hb : isBr s i = true
    · have hne := ib.mp hb
      rw [decide_eq_false hne] at be
      rw [hb, if_pos rfl]
      refine st_rt (d := .none) ?_ (by simp [fCl, fCons, fNil, fB, fU, fN, fV, fC, fTr, fNo, fAnd, fOr, vAnd, vOr, fNoV, fIf, fTup, fLst, fFr, fLs, seqD, fSl, optD, bnd, lft, truD, fRg1, fRg2, fSq, tupDs, ltD, leD, gtD, subD, addD, negD, modD_ok])
      simp [fCl, fCons, fNil, fB, fU, fN, fV, fC, fTr, fNo, fAnd, fOr, vAnd, vOr, fNoV, fIf, fTup, fLst, fFr, fLs, seqD, fSl, optD, bnd, lft, truD, fRg1, fRg2, fSq, tupDs, ltD, leD, gtD, subD, addD, negD, modD_ok, e2, fLc, show (groups (wo s i)).length ≤ 100000 by omega, wipeT, e4, map_empty, be, -List.isEmpty_iff]
    · have heq : root (wo s i).ms x.l = root (wo s i).ms x.r := Decidable.byContradiction fun z => hb (ib.mpr z)
      rw [decide_eq_true heq] at be
      rw [if_neg hb]
      refine st_no (by simp [fCl, fCons, fNil, fB, fU, fN, fV, fC, fTr, fNo, fAnd, fOr, vAnd, vOr, fNoV, fIf, fTup, fLst, fFr, fLs, seqD, fSl, optD, bnd, lft, truD, fRg1, fRg2, fSq, tupDs, ltD, leD, gtD, subD, addD, negD, modD_ok, e2, fLc, show (groups (wo s i)).length ≤ 100000 by omega, wipeT, e4, map_empty, be, -List.isEmpty_iff]) ?_
      refine st_set (.tuple ((mkQ (wo s i).n (fit (wo s i) (wq qs i))).map encQ)) (by
        have ai : addD (.int (i : Nat)) (.int 1) = some (.int ((i : Int) + 1)) := rfl
        simp [fCl, fCons, fNil, fB, fV, fC, fSl, optD, bnd, lft, slD, ai, wd, e3]) ?_
      refine st_ret ?_
      simp [fCl, fCons, fNil, fB, fU, fN, fV, fC, fTr, fNo, fAnd, fOr, vAnd, vOr, fNoV, fIf, fTup, fLst, fFr, fLs, seqD, fSl, optD, bnd, lft, truD, fRg1, fRg2, fSq, tupDs, ltD, leD, gtD, subD, addD, negD, modD_ok, ixD, i1, i2, so, lo]
  simp [runDef, initT, key]
theorem left_out_ok {s : Sc} (h : s.Ok) {qs : List Rat} {d m E B : Nat} (g : Mg s d m E B qs) (hz : B + E ≤ 2900) {i : Nat} {x : Mt} (hx : s.ms[i]? = some x) : f_left_out [encS s, .tuple (qs.map encQ), .int (i : Nat)] = ok (if isBr s i then .none else encQ (lo s qs i x)) := by
  have hi : i < s.ms.length := (List.getElem?_eq_some_iff.mp hx).1
  unfold f_left_out g_left_out
  simp [runDef, initT, gSeq, gNil, gRet, gRetN, gSet, gSetO, gEx, gIf, gPar, gAsg, gFrz, frzT, gRaise, fCl, fCons, fNil, fB, fU, fN, fV, fC, fTr, fNo, fAnd, fOr, vAnd, vOr, fNoV, fIf, fTup, fLst, fFr, fCh, lft, truD, bnd, bndS, gN, gT, gs0, gs1, isiD, tyD, lenDs, absDs, minDs, maxDs, tupDs, addD, subD, negD, ltD, leD, gtD, geD, isN, notN, ixO, fOix, fOln, gApp, putO, gPut, seqD, fSq, fLs, optD, fSl, slD, ixD, atI_c0, atI_c1, atI_c2, atI_map, modD_ok, lenDs, fRg1, fRg2, check_margins_ok h g.ln, check_index_ok h hi, left_out_of_ok h g hz hx]
theorem left_out_bad {s : Sc} (h : s.Ok) {qs : List Rat} (hl : qs.length = s.ms.length) {v : D} (hv : BadP s.ms.length v) : f_left_out [encS s, .tuple (qs.map encQ), v] = er "InvalidMatch" := by
  unfold f_left_out g_left_out
  simp [runDef, initT, gSeq, gNil, gRet, gRetN, gSet, gSetO, gEx, gIf, gPar, gAsg, gFrz, frzT, gRaise, fCl, fCons, fNil, fB, fU, fN, fV, fC, fTr, fNo, fAnd, fOr, vAnd, vOr, fNoV, fIf, fTup, fLst, fFr, fCh, lft, truD, bnd, bndS, gN, gT, gs0, gs1, isiD, tyD, lenDs, absDs, minDs, maxDs, tupDs, addD, subD, negD, ltD, leD, gtD, geD, isN, notN, ixO, fOix, fOln, gApp, putO, gPut, seqD, fSq, fLs, optD, fSl, slD, ixD, atI_c0, atI_c1, atI_c2, atI_map, modD_ok, lenDs, fRg1, fRg2, check_margins_ok h hl, check_index_bad h hv]
theorem law_without_ok {s : Sc} (h : s.Ok) (i : Nat) : f__law_without [encS s, .int (i : Nat)] = ok (encS (wo s i)) := without_match_ok h i
theorem lo_bq {s : Sc} (h : s.Ok) {qs : List Rat} {d m E B : Nat} (g : Mg s d m E B qs) (i : Nat) (x : Mt) : Bq (dS (wo s i) * d) (2 ^ (B + 631)) (lo s qs i x) := prd_bq (wo_ok h i) (g.wo i) x.l x.r
end LW
set_option Elab.async false
set_option linter.all false
set_option maxRecDepth 100000
set_option maxHeartbeats 4000000
/-! R5: influences -/
namespace LW
open PySem DL LA
theorem tot_sm {α : Type} (d : α) (f : α → Rat) (xs : List α) : tot (xs.map f) = sm xs.length fun j => f (xs.getD j d) := by
  rw [← tot_mkQ]
  congr 1
  unfold mkQ
  exact (range_map xs _ _ fun i a ha => by rw [List.getD_eq_getElem?_getD, ha]; rfl).symm
def m0 : Mt := ⟨0, 0, 0⟩
def mat (ms : List Mt) (j : Nat) : Mt := ms.getD j m0
theorem mat_eq {ms : List Mt} {i : Nat} {m : Mt} (h : ms[i]? = some m) : mat ms i = m := by unfold mat; rw [List.getD_eq_getElem?_getD, h]; rfl
theorem at_eq {qs : List Rat} {i : Nat} {q : Rat} (h : qs[i]? = some q) : at_ qs i = q := by unfold at_; rw [List.getD_eq_getElem?_getD, h]; rfl
theorem sur_sm {ms : List Mt} {qs : List Rat} (hl : qs.length = ms.length) (k : Nat) : sur (ms.zip qs) k = sm ms.length fun j => at_ qs j * (sgn (mat ms j) k * ((mat ms j).w : Rat)) := by
  unfold sur
  rw [tot_sm (m0, (0 : Rat)), List.length_zip, hl, Nat.min_self]
  refine sm_congr fun j hj => ?_
  have e : (ms.zip qs).getD j (m0, 0) = (mat ms j, at_ qs j) := by
    have e1 : ms[j]? = some (mat ms j) := by unfold mat; rw [List.getD_eq_getElem?_getD, List.getElem?_eq_getElem hj]; rfl
    have e2 : qs[j]? = some (at_ qs j) := at_get (by omega)
    have e3 : (ms.zip qs)[j]? = some (mat ms j, at_ qs j) := List.getElem?_zip_eq_some.mpr ⟨e1, e2⟩
    rw [List.getD_eq_getElem?_getD, e3]
    rfl
  rw [e]
  grind
/-- one for match i, zero elsewhere -/
def unt (s : Sc) (i : Nat) : List Rat := mkQ s.ms.length fun j => if j = i then 1 else 0
theorem unt_len (s : Sc) (i : Nat) : (unt s i).length = s.ms.length := mkQ_len ..
theorem sur_unt {s : Sc} {i : Nat} (hi : i < s.ms.length) (k : Nat) : sur (s.ms.zip (unt s i)) k = sgn (mat s.ms i) k * ((mat s.ms i).w : Rat) := by
  rw [sur_sm (unt_len s i), sm_one i hi fun j hj hne => by unfold unt; rw [mkQ_at _ hj, if_neg hne]; grind]
  unfold unt
  rw [mkQ_at _ hi, if_pos rfl]
  grind
theorem unt_mg (s : Sc) (i : Nat) : Mg s 1 1 0 9 (unt s i) := ⟨unt_len s i, fun q hq => by
  unfold unt mkQ at hq
  obtain ⟨j, _, rfl⟩ := List.mem_map.mp hq
  split
  · exact Bq.int (d := 1) (i := 1) (by decide) (by decide)
  · exact Bq.zero, by decide, by decide, by decide⟩
theorem sur_gr_sm (ms : List Mt) (c : Nat → Rat) (x : Nat → Nat → Rat) (k : Nat) : ∀ N, sur (gr ms fun p => sm N fun j => c j * x j p) k = sm N fun j => c j * sur (gr ms (x j)) k
  | 0 => by
    simp only [sur, gr, List.map_map, sm]
    exact tot_zero fun m _ => by simp only [Function.comp]; grind
  | N + 1 => by
    have ih := sur_gr_sm ms c x k N
    have := sur_gr_add ms (fun p => sm N fun j => c j * x j p) (fun p => c N * x N p) k
    simp only [sm] at this ⊢
    rw [this, ih, sur_gr_mul]
/-- the influence of match i -/
def inf (s : Sc) (i a b : Nat) : Rat := prd s (unt s i) a b
/-- all predictions are sums of margins times influences -/
theorem prd_sum {s : Sc} (h : s.Ok) {qs : List Rat} (hl : qs.length = s.ms.length) {a b : Nat} (hr : root s.ms a = root s.ms b) : prd s qs a b = sm s.ms.length fun j => inf s j a b * at_ qs j := by
  have mo := h.msok
  have e := uniq_diff mo (x := fit s qs) (y := fun p => sm s.ms.length fun j => at_ qs j * fit s (unt s j) p) (fun k hk => by
    rw [(fit_ok mo qs).bl k hk, sur_gr_sm, sur_sm hl]
    exact sm_congr fun j hj => by rw [(fit_ok mo (unt s j)).bl k hk, sur_unt hj]) hr
  unfold prd
  rw [e, ← sm_sub]
  exact sm_congr fun j _ => by unfold inf prd; grind
theorem prd_raise {s : Sc} (h : s.Ok) {qs qs' : List Rat} (hl : qs.length = s.ms.length) (hl' : qs'.length = s.ms.length) {i : Nat} (hi : i < s.ms.length) {c : Rat} (hq : ∀ j, j < s.ms.length → at_ qs' j = at_ qs j + (if j = i then c else 0)) {a b : Nat} (hr : root s.ms a = root s.ms b) :
    prd s qs' a b - prd s qs a b = c * inf s i a b := by
  rw [prd_sum h hl hr, prd_sum h hl' hr, ← sm_sub, sm_one i hi fun j hj hne => by rw [hq j hj, if_neg hne]; grind]
  rw [hq i hi, if_pos rfl]
  grind
theorem inf_own {s : Sc} (h : s.Ok) {i : Nat} {m : Mt} (hm : s.ms[i]? = some m) : inf s i m.l m.r = lev s m := by
  have mo := h.msok
  have hmm := List.mem_of_getElem? hm
  have hi : i < s.ms.length := (List.getElem?_eq_some_iff.mp hm).1
  have c := con_match h hmm
  have a3 := (mo m hmm).2.2.1
  have e := uniq_diff mo (x := fit s (unt s i)) (y := fun p => (m.w : Rat) * pot s m.l m.r p) (fun k hk => by
    rw [(fit_ok mo (unt s i)).bl k hk, sur_unt hi, sur_gr_mul, pot_ok mo c k hk, mat_eq hm, sgn_dl a3]; grind) c.r
  unfold inf prd lev res
  rw [e]; grind
/-! ### on data -/
theorem unit_margins_ok {s : Sc} (h : s.Ok) (i : Nat) : f_unit_margins [encS s, .int (i : Nat)] = ok (.tuple ((unt s i).map encQ)) := by
  have h36 := h.len
  have ec : lcD (gN 2) fYes e_unit_margins_1 [.d (encS s), .d (.int (i : Nat)), .u] (rngD 0 s.ms.length) = some ((unt s i).map encQ) := by
    rw [rngD_map, show (unt s i).map encQ = (List.range s.ms.length).map (fun j => encQ (if j = i then 1 else 0)) by unfold unt mkQ; rw [List.map_map]; rfl]
    refine lcD_all (f := iN) (List.range s.ms.length) fun j hj => ⟨_, rfl, ?_⟩
    unfold e_unit_margins_1
    by_cases hji : j = i
    · subst hji
      simp [fCl, fCons, fNil, fB, fU, fN, fV, fC, fTr, fNo, fAnd, fOr, vAnd, vOr, fNoV, fIf, fTup, fLst, fFr, fLs, seqD, fSl, optD, bnd, lft, truD, fRg1, fRg2, fSq, tupDs, ltD, leD, gtD, subD, addD, negD, modD_ok, gN, iN, eqD_int, kONE]
    · simp [fCl, fCons, fNil, fB, fU, fN, fV, fC, fTr, fNo, fAnd, fOr, vAnd, vOr, fNoV, fIf, fTup, fLst, fFr, fLs, seqD, fSl, optD, bnd, lft, truD, fRg1, fRg2, fSq, tupDs, ltD, leD, gtD, subD, addD, negD, modD_ok, gN, iN, eqD_int, show ¬ ((j : Int) = i) by omega, kZERO, hji]
  unfold f_unit_margins g_unit_margins
  simp only [encS] at ec ⊢
  simp [runDef, initT, gSeq, gNil, gRet, gRetN, gSet, gSetO, gEx, gIf, gPar, gAsg, gFrz, frzT, gRaise, fCl, fCons, fNil, fB, fU, fN, fV, fC, fTr, fNo, fAnd, fOr, vAnd, vOr, fNoV, fIf, fTup, fLst, fFr, fCh, lft, truD, bnd, bndS, gN, gT, gs0, gs1, isiD, tyD, lenDs, absDs, minDs, maxDs, tupDs, addD, subD, negD, ltD, leD, gtD, geD, isN, notN, ixO, fOix, fOln, gApp, putO, gPut, seqD, fSq, fLs, optD, fSl, slD, ixD, atI_c0, atI_c1, atI_c2, atI_map, modD_ok, lenDs, fRg1, fRg2, rng_of (show s.ms.length < 2 ^ 62 by omega), fLc, rngD_len, show s.ms.length ≤ 100000 by omega, wipeT, ec]
theorem influence_ok {s : Sc} (h : s.Ok) {i a b : Nat} (hi : i < s.ms.length) (ha : a < s.n) (hb : b < s.n) : f_influence [encS s, .int (i : Nat), .int (a : Nat), .int (b : Nat)] = if root s.ms a = root s.ms b then ok (encQ (inf s i a b)) else er "Disconnected" := by
  have e1 := check_index_ok h hi
  have e2 := check_connected_ok h ha hb
  have e0 := unit_margins_ok h i
  have g := unt_mg s i
  obtain ⟨e3, _⟩ := fit_sz h g (by decide)
  have i1 := mkQ_ix (fit s (unt s i)) ha
  have i2 := mkQ_ix (fit s (unt s i)) hb
  have so := subtract_ok (fit_sm h g (by decide) a) (fit_sm h g (by decide) b)
  unfold f_influence g_influence
  by_cases hr : root s.ms a = root s.ms b
  · rw [if_pos hr] at e2 ⊢
    simp [runDef, initT, gSeq, gNil, gRet, gRetN, gSet, gSetO, gEx, gIf, gPar, gAsg, gFrz, frzT, gRaise, fCl, fCons, fNil, fB, fU, fN, fV, fC, fTr, fNo, fAnd, fOr, vAnd, vOr, fNoV, fIf, fTup, fLst, fFr, fCh, lft, truD, bnd, bndS, gN, gT, gs0, gs1, isiD, tyD, lenDs, absDs, minDs, maxDs, tupDs, addD, subD, negD, ltD, leD, gtD, geD, isN, notN, ixO, fOix, fOln, gApp, putO, gPut, seqD, fSq, fLs, optD, fSl, slD, ixD, atI_c0, atI_c1, atI_c2, atI_map, modD_ok, lenDs, fRg1, fRg2, e1, e2, e0, e3, i1, i2, so, inf, prd]
  · rw [if_neg hr] at e2 ⊢
    simp [runDef, initT, gSeq, gNil, gRet, gRetN, gSet, gSetO, gEx, gIf, gPar, gAsg, gFrz, frzT, gRaise, fCl, fCons, fNil, fB, fU, fN, fV, fC, fTr, fNo, fAnd, fOr, vAnd, vOr, fNoV, fIf, fTup, fLst, fFr, fCh, lft, truD, bnd, bndS, gN, gT, gs0, gs1, isiD, tyD, lenDs, absDs, minDs, maxDs, tupDs, addD, subD, negD, ltD, leD, gtD, geD, isN, notN, ixO, fOix, fOln, gApp, putO, gPut, seqD, fSq, fLs, optD, fSl, slD, ixD, atI_c0, atI_c1, atI_c2, atI_map, modD_ok, lenDs, fRg1, fRg2, e1, e2]
theorem influence_bad {s : Sc} (h : s.Ok) {v w x : D} (hv : BadP s.ms.length v) : f_influence [encS s, v, w, x] = er "InvalidMatch" := by
  unfold f_influence g_influence
  simp [runDef, initT, gSeq, gNil, gRet, gRetN, gSet, gSetO, gEx, gIf, gPar, gAsg, gFrz, frzT, gRaise, fCl, fCons, fNil, fB, fU, fN, fV, fC, fTr, fNo, fAnd, fOr, vAnd, vOr, fNoV, fIf, fTup, fLst, fFr, fCh, lft, truD, bnd, bndS, gN, gT, gs0, gs1, isiD, tyD, lenDs, absDs, minDs, maxDs, tupDs, addD, subD, negD, ltD, leD, gtD, geD, isN, notN, ixO, fOix, fOln, gApp, putO, gPut, seqD, fSq, fLs, optD, fSl, slD, ixD, atI_c0, atI_c1, atI_c2, atI_map, modD_ok, lenDs, fRg1, fRg2, check_index_bad h hv]
theorem influence_bad2 {s : Sc} (h : s.Ok) {i a : Nat} (hi : i < s.ms.length) (ha : a < s.n) {v : D} (hv : BadP s.n v) : f_influence [encS s, .int (i : Nat), .int (a : Nat), v] = er "InvalidPlayer" := by
  unfold f_influence g_influence
  simp [runDef, initT, gSeq, gNil, gRet, gRetN, gSet, gSetO, gEx, gIf, gPar, gAsg, gFrz, frzT, gRaise, fCl, fCons, fNil, fB, fU, fN, fV, fC, fTr, fNo, fAnd, fOr, vAnd, vOr, fNoV, fIf, fTup, fLst, fFr, fCh, lft, truD, bnd, bndS, gN, gT, gs0, gs1, isiD, tyD, lenDs, absDs, minDs, maxDs, tupDs, addD, subD, negD, ltD, leD, gtD, geD, isN, notN, ixO, fOix, fOln, gApp, putO, gPut, seqD, fSq, fLs, optD, fSl, slD, ixD, atI_c0, atI_c1, atI_c2, atI_map, modD_ok, lenDs, fRg1, fRg2, check_index_ok h hi, check_connected_bad2 h ha hv]
theorem inf_bq {s : Sc} (h : s.Ok) (i a b : Nat) : Bq (dS s) (2 ^ 640) (inf s i a b) := by
  have := prd_bq h (unt_mg s i) a b
  rw [Nat.mul_one] at this
  exact this
theorem inf_sm {s : Sc} (h : s.Ok) (i a b : Nat) : Sm 4000 (inf s i a b) := (inf_bq h i a b).sm (dS_ok h).1 (dS_lt h) (p4000 (by decide))
theorem law_predict_ok {s : Sc} (h : s.Ok) {qs : List Rat} {d m E B : Nat} (g : Mg s d m E B qs) (hz : B + E ≤ 2900) {a b : Nat} (ha : a < s.n) (hb : b < s.n) : f__law_predict [encS s, .tuple (qs.map encQ), .int (a : Nat), .int (b : Nat)] = ok (if root s.ms a = root s.ms b then encQ (prd s qs a b) else .str "apart") := by
  have e := predict_ok h g hz ha hb
  unfold f__law_predict g__law_predict
  by_cases hr : root s.ms a = root s.ms b
  · rw [if_pos hr] at e ⊢
    simp [runDef, initT, gSeq, gNil, gRet, gRetN, gSet, gSetO, gEx, gIf, gPar, gAsg, gFrz, frzT, gRaise, fCl, fCons, fNil, fB, fU, fN, fV, fC, fTr, fNo, fAnd, fOr, vAnd, vOr, fNoV, fIf, fTup, fLst, fFr, fCh, lft, truD, bnd, bndS, gN, gT, gs0, gs1, isiD, tyD, lenDs, absDs, minDs, maxDs, tupDs, addD, subD, negD, ltD, leD, gtD, geD, isN, notN, ixO, fOix, fOln, gApp, putO, gPut, seqD, fSq, fLs, optD, fSl, slD, ixD, atI_c0, atI_c1, atI_c2, atI_map, modD_ok, lenDs, fRg1, fRg2, gTry, e]
  · rw [if_neg hr] at e ⊢
    simp [runDef, initT, gSeq, gNil, gRet, gRetN, gSet, gSetO, gEx, gIf, gPar, gAsg, gFrz, frzT, gRaise, fCl, fCons, fNil, fB, fU, fN, fV, fC, fTr, fNo, fAnd, fOr, vAnd, vOr, fNoV, fIf, fTup, fLst, fFr, fCh, lft, truD, bnd, bndS, gN, gT, gs0, gs1, isiD, tyD, lenDs, absDs, minDs, maxDs, tupDs, addD, subD, negD, ltD, leD, gtD, geD, isN, notN, ixO, fOix, fOln, gApp, putO, gPut, seqD, fSq, fLs, optD, fSl, slD, ixD, atI_c0, atI_c1, atI_c2, atI_map, modD_ok, lenDs, fRg1, fRg2, gTry, e, tabOf]
theorem law_predict_bad1 {s : Sc} (h : s.Ok) {qs : List Rat} (hl : qs.length = s.ms.length) {v w : D} (hv : BadP s.n v) : f__law_predict [encS s, .tuple (qs.map encQ), v, w] = ok (.str "player") := by
  have ne : ¬ (Str.ofString "InvalidPlayer" = Str.ofString "Disconnected") := by decide +kernel
  unfold f__law_predict g__law_predict
  simp [runDef, initT, gSeq, gNil, gRet, gRetN, gSet, gSetO, gEx, gIf, gPar, gAsg, gFrz, frzT, gRaise, fCl, fCons, fNil, fB, fU, fN, fV, fC, fTr, fNo, fAnd, fOr, vAnd, vOr, fNoV, fIf, fTup, fLst, fFr, fCh, lft, truD, bnd, bndS, gN, gT, gs0, gs1, isiD, tyD, lenDs, absDs, minDs, maxDs, tupDs, addD, subD, negD, ltD, leD, gtD, geD, isN, notN, ixO, fOix, fOln, gApp, putO, gPut, seqD, fSq, fLs, optD, fSl, slD, ixD, atI_c0, atI_c1, atI_c2, atI_map, modD_ok, lenDs, fRg1, fRg2, gTry, predict_bad1 h hl hv, tabOf, ne]
theorem law_predict_bad2 {s : Sc} (h : s.Ok) {qs : List Rat} (hl : qs.length = s.ms.length) {a : Nat} (ha : a < s.n) {v : D} (hv : BadP s.n v) : f__law_predict [encS s, .tuple (qs.map encQ), .int (a : Nat), v] = ok (.str "player") := by
  have ne : ¬ (Str.ofString "InvalidPlayer" = Str.ofString "Disconnected") := by decide +kernel
  unfold f__law_predict g__law_predict
  simp [runDef, initT, gSeq, gNil, gRet, gRetN, gSet, gSetO, gEx, gIf, gPar, gAsg, gFrz, frzT, gRaise, fCl, fCons, fNil, fB, fU, fN, fV, fC, fTr, fNo, fAnd, fOr, vAnd, vOr, fNoV, fIf, fTup, fLst, fFr, fCh, lft, truD, bnd, bndS, gN, gT, gs0, gs1, isiD, tyD, lenDs, absDs, minDs, maxDs, tupDs, addD, subD, negD, ltD, leD, gtD, geD, isN, notN, ixO, fOix, fOln, gApp, putO, gPut, seqD, fSq, fLs, optD, fSl, slD, ixD, atI_c0, atI_c1, atI_c2, atI_map, modD_ok, lenDs, fRg1, fRg2, gTry, predict_bad2 h hl ha hv, tabOf, ne]
theorem law_influence_apart {s : Sc} (h : s.Ok) {i a b : Nat} (hi : i < s.ms.length) (ha : a < s.n) (hb : b < s.n) (hr : root s.ms a ≠ root s.ms b) : f__law_influence [encS s, .int (i : Nat), .int (a : Nat), .int (b : Nat)] = ok (.str "apart") := by
  have e := influence_ok h hi ha hb
  rw [if_neg hr] at e
  have ne : ¬ (Str.ofString "Disconnected" = Str.ofString "InvalidMatch") := by decide +kernel
  have ne2 : ¬ (Str.ofString "Disconnected" = Str.ofString "InvalidPlayer") := by decide +kernel
  unfold f__law_influence g__law_influence
  simp [runDef, initT, gSeq, gNil, gRet, gRetN, gSet, gSetO, gEx, gIf, gPar, gAsg, gFrz, frzT, gRaise, fCl, fCons, fNil, fB, fU, fN, fV, fC, fTr, fNo, fAnd, fOr, vAnd, vOr, fNoV, fIf, fTup, fLst, fFr, fCh, lft, truD, bnd, bndS, gN, gT, gs0, gs1, isiD, tyD, lenDs, absDs, minDs, maxDs, tupDs, addD, subD, negD, ltD, leD, gtD, geD, isN, notN, ixO, fOix, fOln, gApp, putO, gPut, seqD, fSq, fLs, optD, fSl, slD, ixD, atI_c0, atI_c1, atI_c2, atI_map, modD_ok, lenDs, fRg1, fRg2, gTry, e, tabOf, ne, ne2]
theorem law_influence_match {s : Sc} (h : s.Ok) {v w x : D} (hv : BadP s.ms.length v) : f__law_influence [encS s, v, w, x] = ok (.str "match") := by
  unfold f__law_influence g__law_influence
  simp [runDef, initT, gSeq, gNil, gRet, gRetN, gSet, gSetO, gEx, gIf, gPar, gAsg, gFrz, frzT, gRaise, fCl, fCons, fNil, fB, fU, fN, fV, fC, fTr, fNo, fAnd, fOr, vAnd, vOr, fNoV, fIf, fTup, fLst, fFr, fCh, lft, truD, bnd, bndS, gN, gT, gs0, gs1, isiD, tyD, lenDs, absDs, minDs, maxDs, tupDs, addD, subD, negD, ltD, leD, gtD, geD, isN, notN, ixO, fOix, fOln, gApp, putO, gPut, seqD, fSq, fLs, optD, fSl, slD, ixD, atI_c0, atI_c1, atI_c2, atI_map, modD_ok, lenDs, fRg1, fRg2, gTry, influence_bad h hv, tabOf]
theorem law_influence_player {s : Sc} (h : s.Ok) {i a : Nat} (hi : i < s.ms.length) (ha : a < s.n) {v : D} (hv : BadP s.n v) : f__law_influence [encS s, .int (i : Nat), .int (a : Nat), v] = ok (.str "player") := by
  have ne : ¬ (Str.ofString "InvalidPlayer" = Str.ofString "InvalidMatch") := by decide +kernel
  unfold f__law_influence g__law_influence
  simp [runDef, initT, gSeq, gNil, gRet, gRetN, gSet, gSetO, gEx, gIf, gPar, gAsg, gFrz, frzT, gRaise, fCl, fCons, fNil, fB, fU, fN, fV, fC, fTr, fNo, fAnd, fOr, vAnd, vOr, fNoV, fIf, fTup, fLst, fFr, fCh, lft, truD, bnd, bndS, gN, gT, gs0, gs1, isiD, tyD, lenDs, absDs, minDs, maxDs, tupDs, addD, subD, negD, ltD, leD, gtD, geD, isN, notN, ixO, fOix, fOln, gApp, putO, gPut, seqD, fSq, fLs, optD, fSl, slD, ixD, atI_c0, atI_c1, atI_c2, atI_map, modD_ok, lenDs, fRg1, fRg2, gTry, influence_bad2 h hi ha hv, tabOf, ne]
end LW
set_option Elab.async false
set_option linter.all false
set_option maxRecDepth 100000
set_option maxHeartbeats 4000000
/-! Y1: what is reached from a player -/
namespace LW
open PySem DL LA
/-! ### neighbours -/
def adj (s : Sc) (a b : Nat) : Bool := s.ms.any (isM a b)
theorem adj_comm (s : Sc) (a b : Nat) : adj s a b = adj s b a := by
  unfold adj
  congr 1
  funext m
  exact isM_comm a b m
def mw (s : Sc) (qs : List Rat) (a b : Nat) : Rat := (mrg s.ms qs a b).getD 0
theorem mw_of {s : Sc} {qs : List Rat} (hl : qs.length = s.ms.length) {a b : Nat} (h : adj s a b = true) : mrg s.ms qs a b = some (mw s qs a b) := by
  have := mrg_isSome (ms := s.ms) (qs := qs) hl.symm a b
  unfold mw
  rw [show s.ms.any (isM a b) = true from h] at this
  obtain ⟨q, hq⟩ := Option.isSome_iff_exists.mp this
  rw [hq]; rfl
theorem index_adj {s : Sc} (h : s.Ok) (a b : Nat) : (adj s a b = false ∧ f_match_index [encS s, .int (a : Nat), .int (b : Nat)] = ok .none) ∨ (adj s a b = true ∧ ∃ i : Nat, f_match_index [encS s, .int (a : Nat), .int (b : Nat)] = ok (.int (i : Nat))) := by
  rw [match_index_ok h]
  cases hf : s.ms.zipIdx.filter (fun p => isM a b p.1) with
  | nil =>
    refine .inl ⟨?_, rfl⟩
    unfold adj
    rw [List.any_eq_false]
    intro m hm z
    obtain ⟨i, hi⟩ := List.mem_iff_getElem?.mp hm
    have := List.filter_eq_nil_iff.mp hf (m, i) (List.mem_zipIdx_iff_getElem?.mpr hi)
    exact this z
  | cons p r =>
    refine .inr ⟨?_, p.2, rfl⟩
    have hp : p ∈ s.ms.zipIdx.filter (fun p => isM a b p.1) := by rw [hf]; exact List.mem_cons_self
    obtain ⟨h1, h2⟩ := List.mem_filter.mp hp
    have := List.mem_zipIdx_iff_getElem?.mp (show (p.1, p.2) ∈ s.ms.zipIdx from h1)
    exact List.any_eq_true.mpr ⟨p.1, List.mem_of_getElem? this, h2⟩
/-! ### entries -/
abbrev En := Nat × List Nat × Rat
def encE (e : En) : Int × D := ((e.1 : Int), .tuple [encL e.2.1, encQ e.2.2])
def keys (F : List En) : List Nat := F.map (·.1)
/-- the sum along a path -/
def psum (s : Sc) (qs : List Rat) : List Nat → Rat
  | [] => 0
  | [_] => 0
  | a :: b :: t => mw s qs a b + psum s qs (b :: t)
def Walk (s : Sc) : List Nat → Prop
  | [] => True
  | [_] => True
  | a :: b :: t => adj s a b = true ∧ Walk s (b :: t)
theorem psum_snoc (s : Sc) (qs : List Rat) (a b : Nat) : ∀ p : List Nat, psum s qs (p ++ [a] ++ [b]) = psum s qs (p ++ [a]) + mw s qs a b
  | [] => by simp only [List.nil_append, List.cons_append, psum]; grind
  | [x] => by simp only [List.nil_append, List.cons_append, psum]; grind
  | x :: y :: p => by
    have ih := psum_snoc s qs a b (y :: p)
    simp only [List.cons_append, psum] at ih ⊢
    rw [ih]; grind
theorem walk_snoc (s : Sc) (a b : Nat) (h : adj s a b = true) : ∀ p : List Nat, Walk s (p ++ [a]) → Walk s (p ++ [a] ++ [b])
  | [], _ => ⟨h, trivial⟩
  | [x], w => ⟨w.1, h, trivial⟩
  | x :: y :: p, w => ⟨w.1, walk_snoc s a b h (y :: p) w.2⟩
structure EnOk (s : Sc) (qs : List Rat) (st : Nat) (e : En) : Prop where
  la : ∃ p, e.2.1 = p ++ [e.1]
  hd : e.2.1.head? = some st
  nd : e.2.1.Nodup
  lt : ∀ x ∈ e.2.1, x < s.n
  wk : Walk s e.2.1
  sm : e.2.2 = psum s qs e.2.1
structure RI (s : Sc) (qs : List Rat) (st : Nat) (F : List En) : Prop where
  en : ∀ e ∈ F, EnOk s qs st e
  nd : (keys F).Nodup
  pre : ∀ e ∈ F, ∀ k, 0 < k → k ≤ e.2.1.length → ∃ e' ∈ F, e'.2.1 = e.2.1.take k
  st : st ∈ keys F
theorem nodup_len {n : Nat} {xs : List Nat} (nd : xs.Nodup) (h : ∀ x ∈ xs, x < n) : xs.length ≤ n := by
  have := nd.length_le_of_subset (l₂ := List.range n) fun x hx => List.mem_range.mpr (h x hx)
  rwa [List.length_range] at this
theorem EnOk.lt' {s : Sc} {qs : List Rat} {st : Nat} {e : En} (h : EnOk s qs st e) : e.1 < s.n := by
  obtain ⟨p, hp⟩ := h.la
  exact h.lt _ (by rw [hp]; simp)
theorem RI.len {s : Sc} {qs : List Rat} {st : Nat} {F : List En} (h : RI s qs st F) : F.length ≤ s.n := by
  have := nodup_len h.nd (n := s.n) fun x hx => by
    obtain ⟨e, he, rfl⟩ := List.mem_map.mp hx
    exact (h.en e he).lt'
  unfold keys at this
  rwa [List.length_map] at this
theorem RI.mem {s : Sc} {qs : List Rat} {st : Nat} {F : List En} (h : RI s qs st F) {e : En} (he : e ∈ F) {x : Nat} (hx : x ∈ e.2.1) : x ∈ keys F := by
  obtain ⟨i, hi⟩ := List.mem_iff_getElem?.mp hx
  obtain ⟨hi', _⟩ := List.getElem?_eq_some_iff.mp hi
  obtain ⟨e', he', e1⟩ := h.pre e he (i + 1) (by omega) (by omega)
  obtain ⟨p, hp⟩ := (h.en e' he').la
  rw [hp, List.take_succ, hi] at e1
  have := (List.append_inj' e1 rfl).2
  simp at this
  rw [← this]
  exact List.mem_map.mpr ⟨e', he', rfl⟩
theorem EnOk.len {s : Sc} {qs : List Rat} {st : Nat} {e : En} (h : EnOk s qs st e) : e.2.1.length ≤ s.n := nodup_len h.nd h.lt
/-- sizes that will do -/
structure Zq (d m : Nat) : Prop where
  d0 : d ≠ 0
  dl : d < 2 ^ 4000
  ml : 40 * m < 2 ^ 4000
theorem zq6 : Zq 6 120 := ⟨by decide, lt4000 (by decide), lt4000 (by decide)⟩
theorem Zq.sm {d m : Nat} (z : Zq d m) {q : Rat} (h : Bq d m q) : Sm 4000 q := h.sm z.d0 z.dl (by have := z.ml; omega)
theorem psum_bq {s : Sc} {qs : List Rat} {d m : Nat} (d0 : d ≠ 0) (hq : ∀ q ∈ qs, Bq d m q) (hl : qs.length = s.ms.length) : ∀ p : List Nat, Walk s p → Bq d (m * p.length) (psum s qs p)
  | [], _ => Bq.zero
  | [_], _ => Bq.zero
  | a :: b :: t, w => by
    have ih := psum_bq d0 hq hl (b :: t) w.2
    have b1 := mrg_dm hq (mw_of hl w.1)
    exact (b1.add ih d0).le (by simp only [List.length_cons, Nat.mul_add]; omega)
theorem EnOk.smq {s : Sc} (hs : s.Ok) {qs : List Rat} {d m : Nat} (z : Zq d m) (hq : ∀ q ∈ qs, Bq d m q) (hl : qs.length = s.ms.length) {st : Nat} {e : En} (h : EnOk s qs st e) : Sm 4000 e.2.2 := by
  have l := h.len
  have n6 := hs.n6
  rw [h.sm]
  refine (psum_bq z.d0 hq hl _ h.wk).sm z.d0 z.dl ?_
  have := Nat.mul_le_mul_left m (show e.2.1.length ≤ 6 by omega)
  have := z.ml
  omega
/-- a further player -/
theorem RI.more {s : Sc} {qs : List Rat} (hl : qs.length = s.ms.length) {st : Nat} {F : List En} (h : RI s qs st F) {p o : Nat} {pa : List Nat} {q : Rat} (he : (p, pa, q) ∈ F) (ho : o < s.n) (hk : o ∉ keys F) (ha : adj s p o = true) : RI s qs st (F ++ [(o, pa ++ [o], q + mw s qs p o)]) := by
  have E := h.en _ he
  obtain ⟨pp, hp⟩ := E.la
  simp only at hp
  have hop : o ∉ pa := fun z => hk (h.mem he z)
  have ne : pa ≠ [] := by rw [hp]; simp
  have Eo : EnOk s qs st (o, pa ++ [o], q + mw s qs p o) := by
    refine ⟨⟨pa, rfl⟩, ?_, ?_, ?_, ?_, ?_⟩
    · have := E.hd
      simp only at this ⊢
      rw [List.head?_append, this]; rfl
    · rw [List.nodup_append]
      exact ⟨E.nd, by simp, fun a ma b hb => by simp at hb; subst hb; intro z; subst z; exact hop ma⟩
    · intro x hx
      rcases List.mem_append.mp hx with hx | hx
      · exact E.lt x hx
      · simp at hx; omega
    · show Walk s (pa ++ [o])
      rw [hp]
      exact walk_snoc s p o ha pp (by rw [← hp]; exact E.wk)
    · show q + mw s qs p o = psum s qs (pa ++ [o])
      rw [hp, psum_snoc, ← hp, ← E.sm]
  refine ⟨fun e he => ?_, ?_, fun e he' k k0 hk' => ?_, ?_⟩
  · rcases List.mem_append.mp he with he | he
    · exact h.en e he
    · rw [List.mem_singleton] at he; subst he; exact Eo
  · unfold keys
    rw [List.map_append, List.nodup_append]
    exact ⟨h.nd, by simp, fun a ma b hb => by simp at hb; subst hb; intro z; subst z; exact hk ma⟩
  · rcases List.mem_append.mp he' with he' | he'
    · obtain ⟨e', h1, h2⟩ := h.pre e he' k k0 hk'
      exact ⟨e', List.mem_append.mpr (.inl h1), h2⟩
    · rw [List.mem_singleton] at he'
      subst he'
      simp only [List.length_append, List.length_singleton] at hk'
      by_cases c : k = pa.length + 1
      · refine ⟨_, List.mem_append.mpr (.inr (List.mem_singleton.mpr rfl)), ?_⟩
        simp only
        rw [c, List.take_of_length_le (by simp)]
      · obtain ⟨e', h1, h2⟩ := h.pre _ he k k0 (by simp only; omega)
        refine ⟨e', List.mem_append.mpr (.inl h1), ?_⟩
        simp only at h2 ⊢
        rw [h2, List.take_append_of_le_length (by omega)]
  · unfold keys
    rw [List.map_append]
    exact List.mem_append.mpr (.inl h.st)
/-! ### dicts -/
theorem lk_none {F : List En} {o : Nat} (h : o ∉ keys F) : lkK (F.map encE) (o : Int) = none := by
  unfold lkK
  rw [Option.map_eq_none_iff, List.find?_eq_none]
  intro x hx z
  obtain ⟨e, he, rfl⟩ := List.mem_map.mp hx
  have := of_decide_eq_true z
  refine h (List.mem_map.mpr ⟨e, he, ?_⟩)
  unfold encE at this
  simp only at this
  omega
theorem lk_some : ∀ {F : List En} {e : En}, (keys F).Nodup → e ∈ F → lkK (F.map encE) (e.1 : Int) = some (.tuple [encL e.2.1, encQ e.2.2])
  | [], e, _, h => by simp at h
  | f :: F, e, nd, h => by
    unfold keys at nd
    rw [List.map_cons, List.nodup_cons] at nd
    unfold lkK
    rw [List.map_cons, List.find?_cons]
    rcases List.mem_cons.mp h with rfl | h
    · simp [encE]
    · have ne : f.1 ≠ e.1 := fun z => nd.1 (by rw [z]; exact List.mem_map.mpr ⟨e, h, rfl⟩)
      have : ¬ ((f.1 : Int) = (e.1 : Int)) := by omega
      have fa : decide ((encE f).1 = (e.1 : Int)) = false := decide_eq_false this
      rw [fa]
      exact lk_some nd.2 h
theorem put_new {F : List En} {e : En} (h : e.1 ∉ keys F) : putKd (F.map encE) (e.1 : Int) (.tuple [encL e.2.1, encQ e.2.2]) = (F ++ [e]).map encE := by
  unfold putKd
  rw [if_neg]
  · simp [encE]
  · intro z
    obtain ⟨x, hx, hz⟩ := List.any_eq_true.mp z
    obtain ⟨f, hf, rfl⟩ := List.mem_map.mp hx
    have := of_decide_eq_true hz
    refine h (List.mem_map.mpr ⟨f, hf, ?_⟩)
    unfold encE at this
    simp only at this
    omega
/-! ### the loops -/
theorem reach_step {s : Sc} (h : s.Ok) {qs : List Rat} (hl : qs.length = s.ms.length) {d m : Nat} (z : Zq d m) (hq : ∀ q ∈ qs, Bq d m q) {st p o : Nat} {F : List En} {qu dn : List Nat} (I : RI s qs st F) (hk : keys F = dn ++ p :: qu) (ho : o < s.n) (v2 v7 v8 : SV) :
    ∃ F' qu' w7 w8, b_reach_2 [.d (encS s), .d (.tuple (qs.map encQ)), v2, .k (F.map encE), .o (qu.map iN), .d (.int (p : Nat)), .d (.int (o : Nat)), v7, v8] = some (.nx [.d (encS s), .d (.tuple (qs.map encQ)), v2, .k (F'.map encE), .o (qu'.map iN), .d (.int (p : Nat)), .d (.int (o : Nat)), w7, w8]) ∧
      RI s qs st F' ∧ keys F' = dn ++ p :: qu' ∧ (∀ x ∈ keys F, x ∈ keys F') ∧ (adj s p o = true → o ≠ p → o ∈ keys F') := by
  have h6 := h.n6
  have pk : p ∈ keys F := by rw [hk]; simp
  obtain ⟨e, he, ep⟩ := List.mem_map.mp pk
  obtain ⟨p', pa, q⟩ := e
  simp only at ep
  subst ep
  have Fl := I.len
  have ql : qu.length ≤ 6 := by
    have : (keys F).length = F.length := by unfold keys; rw [List.length_map]
    rw [hk] at this
    simp at this
    omega
  unfold b_reach_2
  by_cases ok1 : o ∈ keys F
  · refine ⟨F, qu, v7, v8, ?_, I, hk, fun _ hx => hx, fun _ _ => ok1⟩
    obtain ⟨f, hf, ef⟩ := List.mem_map.mp ok1
    have l := lk_some I.nd hf
    rw [ef] at l
    refine st_no ?_ rfl
    simp [fAnd, fKin, fV, bnd, l]
  · have l := lk_none ok1
    by_cases op : o = p'
    · subst op; exact absurd pk ok1
    · have nd : neD (.int (o : Nat)) (.int (p' : Nat)) = some (.bool true) := by
        rw [neD_int]
        simp; omega
      rcases index_adj h p' o with ⟨a0, mi⟩ | ⟨a1, i, mi⟩
      · refine ⟨F, qu, v7, v8, ?_, I, hk, fun _ hx => hx, fun z => by rw [a0] at z; cases z⟩
        refine st_no ?_ rfl
        simp [fAnd, fKin, fV, bnd, l, fTr, fB, lft, nd, truD, fCl, fCons, fNil, mi, fC, notN]
      · have E := I.en _ he
        have lp := lk_some I.nd he
        simp only at lp
        have mo := margin_of_ok h hl (mw_of hl a1)
        have bm := mrg_dm hq (mw_of hl a1)
        have ao := add_ok (E.smq h z hq hl) (z.sm bm)
        simp only at ao
        have pn := put_new (F := F) (e := (o, pa ++ [o], q + mw s qs p' o)) ok1
        simp only at pn
        have pl := E.len
        simp only at pl
        have al : addD (encL pa) (.list [.int (o : Nat)]) = some (encL (pa ++ [o])) := by
          unfold encL
          show (if _ then _ else _) = _
          rw [if_pos (by simp; omega)]
          simp [iN]
        refine ⟨F ++ [(o, pa ++ [o], q + mw s qs p' o)], qu ++ [o], .d (encL pa), .d (encQ q), ?_, I.more hl he ho ok1 a1, ?_, ?_, ?_⟩
        · simp [gSeq, gIf, gNil, bndS, fAnd, fKin, fV, bnd, l, fTr, fB, lft, nd, truD, fCl, fCons, fNil, mi, fC, notN, gAsg, fKix, lp, gT, gs1, gs0, gN, gPutK, fTup, fFr, fLst, al, mo, ao, pn, show F.length < 100000 by omega, gApp, show qu.length < 100000 by omega]
          simp [iN]
        · unfold keys at hk ⊢
          rw [List.map_append, hk]
          simp
        · intro x hx
          unfold keys at hx ⊢
          rw [List.map_append]
          exact List.mem_append.mpr (.inl hx)
        · intro _ _
          unfold keys
          simp
theorem reach_in {s : Sc} (h : s.Ok) {qs : List Rat} (hl : qs.length = s.ms.length) {d m : Nat} (z : Zq d m) (hq : ∀ q ∈ qs, Bq d m q) {st p : Nat} {dn : List Nat} (v2 : SV) : ∀ (xs : List Nat) (F : List En) (qu : List Nat) (v6 v7 v8 : SV), RI s qs st F → keys F = dn ++ p :: qu → (∀ o ∈ xs, o < s.n) →
    ∃ F' qu' w6 w7 w8, forD (gN 6) b_reach_2 (xs.map iN) [.d (encS s), .d (.tuple (qs.map encQ)), v2, .k (F.map encE), .o (qu.map iN), .d (.int (p : Nat)), v6, v7, v8] = some (.nx [.d (encS s), .d (.tuple (qs.map encQ)), v2, .k (F'.map encE), .o (qu'.map iN), .d (.int (p : Nat)), w6, w7, w8]) ∧
      RI s qs st F' ∧ keys F' = dn ++ p :: qu' ∧ (∀ x ∈ keys F, x ∈ keys F') ∧ (∀ o ∈ xs, adj s p o = true → o ≠ p → o ∈ keys F')
  | [], F, qu, v6, v7, v8, I, hk, _ => ⟨F, qu, v6, v7, v8, rfl, I, hk, fun _ hx => hx, fun o ho => by simp at ho⟩
  | o :: xs, F, qu, v6, v7, v8, I, hk, hx => by
    obtain ⟨F1, q1, w7, w8, e1, I1, k1, m1, a1⟩ := reach_step h hl z hq I hk (hx o List.mem_cons_self) v2 v7 v8
    obtain ⟨F2, q2, u6, u7, u8, e2, I2, k2, m2, a2⟩ := reach_in h hl z hq v2 xs F1 q1 (.d (.int (o : Nat))) w7 w8 I1 k1 fun y hz => hx y (List.mem_cons_of_mem _ hz)
    refine ⟨F2, q2, u6, u7, u8, ?_, I2, k2, fun x hx => m2 x (m1 x hx), fun z hz az nz => ?_⟩
    · rw [List.map_cons, forD_cons_nx rfl e1]
      exact e2
    · rcases List.mem_cons.mp hz with rfl | hz
      · exact m2 _ (a1 az nz)
      · exact a2 z hz az nz
theorem reach_wh {s : Sc} (h : s.Ok) {qs : List Rat} (hl : qs.length = s.ms.length) {d m : Nat} (z : Zq d m) (hq : ∀ q ∈ qs, Bq d m q) {st : Nat} (v2 : SV) : ∀ (k : Nat) (F : List En) (dn qu : List Nat) (v5 v6 v7 v8 : SV), RI s qs st F → keys F = dn ++ qu → s.n - dn.length ≤ k → (∀ p ∈ dn, ∀ o, o < s.n → adj s p o = true → o ≠ p → o ∈ keys F) →
    ∃ F' w5 w6 w7 w8, gWh w_reach_1 b_reach_1 [.d (encS s), .d (.tuple (qs.map encQ)), v2, .k (F.map encE), .o (qu.map iN), v5, v6, v7, v8] = some (.nx [.d (encS s), .d (.tuple (qs.map encQ)), v2, .k (F'.map encE), .o [], w5, w6, w7, w8]) ∧
      RI s qs st F' ∧ (∀ p ∈ keys F', ∀ o, o < s.n → adj s p o = true → o ≠ p → o ∈ keys F')
  | k, F, dn, [], v5, v6, v7, v8, I, hk, _, hd => by
    refine ⟨F, v5, v6, v7, v8, whD_end (by simp [w_reach_1, fOtr]), I, ?_⟩
    rw [List.append_nil] at hk
    rw [hk] at hd ⊢
    exact hd
  | 0, F, dn, p :: qu, v5, v6, v7, v8, I, hk, hz, _ => by
    have l1 := I.len
    have l2 : (keys F).length = F.length := by unfold keys; rw [List.length_map]
    rw [hk] at l2
    simp at l2
    omega
  | k + 1, F, dn, p :: qu, v5, v6, v7, v8, I, hk, hz, hd => by
    have h6 := h.n6
    obtain ⟨F1, q1, w6, w7, w8, e1, I1, k1, m1, a1⟩ := reach_in h hl z hq v2 (List.range s.n) F qu v6 v7 v8 I hk fun o ho => List.mem_range.mp ho
    have k1' : keys F1 = (dn ++ [p]) ++ q1 := by rw [k1]; simp
    obtain ⟨F2, u5, u6, u7, u8, e2, I2, c2⟩ := reach_wh h hl z hq v2 k F1 (dn ++ [p]) q1 (.d (.int (p : Nat))) w6 w7 w8 I1 k1' (by simp; omega) fun x hx o ho ax nx => by
      rcases List.mem_append.mp hx with hx | hx
      · exact m1 _ (hd x hx o ho ax nx)
      · rw [List.mem_singleton] at hx
        subst hx
        exact a1 o (List.mem_range.mpr ho) ax nx
    refine ⟨F2, u5, u6, u7, u8, whD_step (by simp [w_reach_1, fOtr]) ?_ e2, I2, c2⟩
    have si : seqIndex? 0 (qu.length + 1) = some 0 := by simp [seqIndex?]
    have e1' : gFor (fRg1 (fCons (fB ixD (fV 0) (fC (.int (0)))) fNil)) (gN 6) b_reach_2 [.d (encS s), .d (.tuple (qs.map encQ)), v2, .k (F.map encE), .o (qu.map iN), .d (iN p), v6, v7, v8] = some (.nx [.d (encS s), .d (.tuple (qs.map encQ)), v2, .k (F1.map encE), .o (q1.map iN), .d (.int (p : Nat)), w6, w7, w8]) := by
      unfold gFor
      rw [show (fRg1 (fCons (fB ixD (fV 0) (fC (.int (0)))) fNil)) [.d (encS s), .d (.tuple (qs.map encQ)), v2, .k (F.map encE), .o (qu.map iN), .d (iN p), v6, v7, v8] = ok ((List.range s.n).map iN) by simp [fCl, fCons, fNil, fB, fU, fN, fV, fC, fTr, fNo, fAnd, fOr, vAnd, vOr, fNoV, fIf, fTup, fLst, fFr, fLs, seqD, fSl, optD, bnd, lft, truD, fRg1, fRg2, fSq, tupDs, ltD, leD, gtD, subD, addD, negD, modD_ok, encS_n, rng_of (show s.n < 2 ^ 62 by omega), rngD_map], bndS_ok]
      rw [show (PyData.int (p : Nat)) = iN p from rfl] at e1 ⊢
      exact e1
    unfold b_reach_1
    simp [gSeq, gPop, fC, bndS, si, e1', gNil]
theorem reach_ok {s : Sc} (h : s.Ok) {qs : List Rat} (hl : qs.length = s.ms.length) {d m : Nat} (z : Zq d m) (hq : ∀ q ∈ qs, Bq d m q) {st : Nat} (hs : st < s.n) : ∃ F, f_reach [encS s, .tuple (qs.map encQ), .int (st : Nat)] = ok (dicD (F.map encE)) ∧ RI s qs st F ∧ (∀ p ∈ keys F, ∀ o, o < s.n → adj s p o = true → o ≠ p → o ∈ keys F) := by
  have E0 : EnOk s qs st (st, [st], 0) := ⟨⟨[], rfl⟩, rfl, by simp, fun x hx => by simp at hx; omega, trivial, rfl⟩
  have I0 : RI s qs st [(st, [st], 0)] := ⟨fun e he => by rw [List.mem_singleton] at he; subst he; exact E0, by simp [keys], fun e he k k0 hk => by
    rw [List.mem_singleton] at he
    subst he
    refine ⟨_, List.mem_singleton.mpr rfl, ?_⟩
    simp only [List.length_singleton] at hk ⊢
    rw [show k = 1 by omega]; rfl, by simp [keys]⟩
  obtain ⟨F, w5, w6, w7, w8, e, I, c⟩ := reach_wh h hl z hq (.d (.int (st : Nat))) s.n [(st, [st], 0)] [] [st] .u .u .u .u I0 rfl (by simp) fun p hp => by simp at hp
  refine ⟨F, ?_, I, c⟩
  have e0 : [(st, [st], (0 : Rat))].map encE = [((st : Int), .tuple [.list [.int (st : Nat)], encQ 0])] := rfl
  rw [e0] at e
  have e1 : [st].map iN = [.int (st : Nat)] := rfl
  rw [e1] at e
  unfold f_reach g_reach
  simp [runDef, initT, gSeq, gSetK, bndS, fV, fTup, fCons, fNil, fFr, fLst, bnd, fC, kZERO, gSetO, e, gFrzK, frzKT, gRet]
theorem lkL_eq : ∀ (kvs : List (Int × D)) (n : Int), lkL (kvs.map fun p => (.int p.1, p.2)) n = lkK kvs n
  | [], n => rfl
  | p :: kvs, n => by
    have ih := lkL_eq kvs n
    unfold lkL lkK at ih ⊢
    rw [List.map_cons, List.find?_cons, List.find?_cons]
    by_cases e : p.1 = n
    · simp [e]
    · simp only [decide_eq_false e]
      exact ih
theorem kin_ok (kvs : List (Int × D)) (b : Bool) (n : Int) : kinD b (.int n) (dicD kvs) = some (.bool (b == (lkK kvs n).isSome)) := by
  unfold kinD dicD
  simp only [dicL, Option.map_some, lkL_eq]
theorem kix_ok (kvs : List (Int × D)) (n : Int) : kixD (dicD kvs) (.int n) = lkK kvs n := by
  unfold kixD dicD
  simp only [dicL, Option.bind_some, lkL_eq]
/-! ### two paths joined -/
def cpl : List Nat → List Nat → Nat
  | a :: x, b :: y => if a = b then cpl x y + 1 else 0
  | _, _ => 0
theorem cpl_le : ∀ x y : List Nat, cpl x y ≤ x.length ∧ cpl x y ≤ y.length
  | [], y => by simp [cpl]
  | a :: x, [] => by simp [cpl]
  | a :: x, b :: y => by
    have := cpl_le x y
    rw [cpl]
    split <;> simp <;> omega
theorem cpl_lt : ∀ (x y : List Nat) (k : Nat), k < cpl x y → x[k]? = y[k]?
  | [], y, k, h => by simp [cpl] at h
  | a :: x, [], k, h => by simp [cpl] at h
  | a :: x, b :: y, k, h => by
    rw [cpl] at h
    split at h
    · rename_i e
      cases k with
      | zero => simp [e]
      | succ k => simpa using cpl_lt x y k (by omega)
    · omega
theorem cpl_ne : ∀ (x y : List Nat), cpl x y < x.length → cpl x y < y.length → x[cpl x y]? ≠ y[cpl x y]?
  | [], y, h, _ => by simp [cpl] at h
  | a :: x, [], _, h => by simp [cpl] at h
  | a :: x, b :: y, h, h' => by
    rw [cpl] at h h' ⊢
    split
    · rename_i e
      rw [if_pos e] at h h'
      simp only [List.length_cons] at h h'
      have := cpl_ne x y (by omega) (by omega)
      simpa using this
    · rename_i e
      simpa using e
def jn (x y : List Nat) : List Nat := x.drop (cpl x y - 1) ++ (y.drop (cpl x y)).reverse
theorem encL_ix {x : List Nat} {k a : Nat} (h : x[k]? = some a) : ixD (encL x) (.int (k : Nat)) = some (.int (a : Nat)) := by
  show L2.atI (x.map iN) (k : Int) = _
  rw [atI_map, atI_nat h]; rfl
theorem joined_wh (x y : List Nat) : ∀ (j k : Nat), k + j = cpl x y → gWh w_joined_1 b_joined_1 [.d (encL x), .d (encL y), .d (.int (k : Nat))] = some (.nx [.d (encL x), .d (encL y), .d (.int (cpl x y : Nat))])
  | 0, k, h => by
    rw [Nat.add_zero] at h
    subst h
    refine whD_end ?_
    have l := cpl_le x y
    have lx : lenDs [encL x] = some (iN x.length) := by simp [lenDs, encL, iN]
    have ly : lenDs [encL y] = some (iN y.length) := by simp [lenDs, encL, iN]
    have mi := min_ii x.length y.length
    unfold w_joined_1
    by_cases c : cpl x y < min x.length y.length
    · obtain ⟨u, hu⟩ : ∃ u, x[cpl x y]? = some u := ⟨_, List.getElem?_eq_getElem (by omega)⟩
      obtain ⟨v, hv⟩ : ∃ v, y[cpl x y]? = some v := ⟨_, List.getElem?_eq_getElem (by omega)⟩
      have ne := cpl_ne x y (by omega) (by omega)
      rw [hu, hv] at ne
      have uv : ¬ ((u : Int) = (v : Int)) := fun z => ne (by congr 1; omega)
      have lt : ltD (.int (cpl x y : Nat)) (iN (min x.length y.length)) = some (.bool true) := by simp only [ltD, iN]; rw [decide_eq_true (by omega)]
      have ee : eqD (.int (u : Nat)) (.int (v : Nat)) = some (.bool false) := by rw [eqD_int, decide_eq_false uv]
      simp [fAnd, fTr, fB, fV, fN, fCons, fNil, bnd, lft, lx, ly, mi, lt, truD, encL_ix hu, encL_ix hv, ee]
    · have lt : ltD (.int (cpl x y : Nat)) (iN (min x.length y.length)) = some (.bool false) := by simp only [ltD, iN]; rw [decide_eq_false (by omega)]
      simp [fAnd, fTr, fB, fV, fN, fCons, fNil, bnd, lft, lx, ly, mi, lt, truD]
  | j + 1, k, h => by
    have ih := joined_wh x y j (k + 1) (by omega)
    have l := cpl_le x y
    have lx : lenDs [encL x] = some (iN x.length) := by simp [lenDs, encL, iN]
    have ly : lenDs [encL y] = some (iN y.length) := by simp [lenDs, encL, iN]
    have mi := min_ii x.length y.length
    obtain ⟨u, hu⟩ : ∃ u, x[k]? = some u := ⟨_, List.getElem?_eq_getElem (by omega)⟩
    have hv := cpl_lt x y k (by omega)
    rw [hu] at hv
    have lt : ltD (.int (k : Nat)) (iN (min x.length y.length)) = some (.bool true) := by simp only [ltD, iN]; rw [decide_eq_true (by omega)]
    have ee : eqD (.int (u : Nat)) (.int (u : Nat)) = some (.bool true) := by rw [eqD_int, decide_eq_true rfl]
    refine whD_step (τ2 := [.d (encL x), .d (encL y), .d (.int ((k + 1 : Nat) : Int))]) ?_ ?_ ih
    · unfold w_joined_1
      simp [fAnd, fTr, fB, fV, fN, fCons, fNil, bnd, lft, lx, ly, mi, lt, truD, encL_ix hu, encL_ix hv.symm, ee]
    · unfold b_joined_1
      simp [gSeq, gAg, fC, bndS, gNil]
theorem joined_ok {x y : List Nat} (h1 : 1 ≤ cpl x y) (hx : x.length ≤ 6) (hy : y.length ≤ 6) : f_joined [encL x, encL y] = ok (encL (jn x y)) := by
  have w := joined_wh x y (cpl x y) 0 (by omega)
  have w' : gWh w_joined_1 b_joined_1 [.d (encL x), .d (encL y), .d (.int 0)] = some (.nx [.d (encL x), .d (encL y), .d (.int (cpl x y : Nat))]) := w
  unfold f_joined
  have c1 := cutFrom (x.map iN) (cpl x y - 1)
  have c2 := cutFrom (y.map iN) (cpl x y)
  have s1 : slD (encL x) (some ((cpl x y : Int) - 1)) none = some (.list ((x.map iN).drop (cpl x y - 1))) := by
    rw [show ((cpl x y : Int) - 1) = ((cpl x y - 1 : Nat) : Int) by omega]
    exact congrArg (fun z => some (PyData.list z)) c1
  have s2 : slD (encL y) (some (cpl x y : Int)) none = some (.list ((y.map iN).drop (cpl x y))) := congrArg (fun z => some (PyData.list z)) c2
  have ad : addD (.list ((x.map iN).drop (cpl x y - 1))) (.list ((y.map iN).drop (cpl x y)).reverse) = some (encL (jn x y)) := by
    show (if _ then _ else _) = _
    rw [if_pos (by simp; omega)]
    unfold encL jn
    simp [List.map_drop, List.map_reverse]
  have key : g_joined [.d (encL x), .d (encL y), .u] = some (.rt (encL (jn x y))) := by
    unfold g_joined
    refine st_set (.int 0) (by simp [fCl, fCons, fNil, fB, fU, fN, fV, fC, fTr, fNo, fAnd, fOr, vAnd, vOr, fNoV, fIf, fTup, fLst, fFr, fLs, seqD, fSl, optD, bnd, lft, truD, fRg1, fRg2, fSq, tupDs, ltD, leD, gtD, subD, addD, negD, modD_ok]) ?_
    simp [gSeq, w', gRet, fB, fSl, optD, fV, fC, fRv, fFr, bnd, lft, subD, s1, s2, ad]
  simp [runDef, initT, key]
/-! ### consistent -/
def Cons (s : Sc) (qs : List Rat) (x : Nat → Rat) : Prop := ∀ p ∈ s.ms.zip qs, p.2 = x p.1.l - x p.1.r
theorem adj_match {s : Sc} (h : s.Ok) {m : Mt} (hm : m ∈ s.ms) : adj s m.l m.r = true := by
  have := (h.rg m hm).1
  exact List.any_eq_true.mpr ⟨m, hm, decide_eq_true ⟨by omega, by omega⟩⟩
theorem adj_of {s : Sc} {a b : Nat} (h : adj s a b = true) : ∃ m ∈ s.ms, (m.l = a ∧ m.r = b) ∨ (m.l = b ∧ m.r = a) := by
  obtain ⟨m, hm, e⟩ := List.any_eq_true.mp h
  have := of_decide_eq_true e
  exact ⟨m, hm, by omega⟩
theorem cons_mw {s : Sc} (h : s.Ok) {qs : List Rat} (hl : qs.length = s.ms.length) {x : Nat → Rat} (c : Cons s qs x) {a b : Nat} (ad : adj s a b = true) : mw s qs a b = x a - x b := by
  have e := mw_of hl ad
  generalize mw s qs a b = q at e ⊢
  unfold mrg at e
  obtain ⟨p, e1, e2⟩ := Option.map_eq_some_iff.mp e
  have hm := List.mem_of_find?_eq_some e1
  have hi := List.find?_some e1
  have hc := c p hm
  have hi' : isM a b p.1 = true := hi
  have hi2 := of_decide_eq_true hi'
  have lr := (h.rg p.1 (List.of_mem_zip (a := p.1) (b := p.2) hm).1).1
  split at e2
  · rename_i hab
    rw [← e2, hc, hi2.1, hi2.2, Nat.min_eq_left (by omega), Nat.max_eq_right (by omega)]
  · rename_i hab
    rw [← e2, hc, hi2.1, hi2.2, Nat.min_eq_right (by omega), Nat.max_eq_left (by omega)]
    grind
theorem cons_psum {s : Sc} (h : s.Ok) {qs : List Rat} (hl : qs.length = s.ms.length) {x : Nat → Rat} (c : Cons s qs x) : ∀ (p : List Nat) (a b : Nat), Walk s (a :: p ++ [b]) → psum s qs (a :: p ++ [b]) = x a - x b
  | [], a, b, w => by
    show mw s qs a b + 0 = _
    rw [cons_mw h hl c w.1]; grind
  | y :: p, a, b, w => by
    have ih := cons_psum h hl c p y b w.2
    show mw s qs a y + psum s qs (y :: p ++ [b]) = _
    rw [ih, cons_mw h hl c w.1]; grind
theorem cons_en {s : Sc} (h : s.Ok) {qs : List Rat} (hl : qs.length = s.ms.length) {x : Nat → Rat} (c : Cons s qs x) {st : Nat} {e : En} (E : EnOk s qs st e) : e.2.2 = x st - x e.1 := by
  obtain ⟨p, hp⟩ := E.la
  have hd := E.hd
  have wk := E.wk
  rw [E.sm]
  rw [hp] at hd wk ⊢
  cases p with
  | nil =>
    simp at hd
    rw [hd]
    show (0 : Rat) = _
    grind
  | cons a p =>
    simp at hd
    subst hd
    exact cons_psum h hl c p a e.1 wk
end LW
set_option Elab.async false
set_option linter.all false
set_option maxRecDepth 100000
set_option maxHeartbeats 4000000
/-! Y2: contradictions -/
namespace LW
open PySem DL LA
/-- a match whose margin differs from the way found -/
structure Ctr (s : Sc) (qs : List Rat) (ring : List Nat) : Prop where
  ex : ∃ st F el er m q, RI s qs st F ∧ el ∈ F ∧ er ∈ F ∧ (m, q) ∈ s.ms.zip qs ∧ el.1 = m.l ∧ er.1 = m.r ∧ el.2.2 + q ≠ er.2.2 ∧ ring = jn el.2.1 er.2.1
def NoC (F : List En) (p : Mt × Rat) : Prop := ∀ el ∈ F, ∀ er ∈ F, el.1 = p.1.l → er.1 = p.1.r → el.2.2 + p.2 = er.2.2
theorem cpl_pos {x y : List Nat} {a : Nat} (hx : x.head? = some a) (hy : y.head? = some a) : 1 ≤ cpl x y := by
  cases x with
  | nil => simp at hx
  | cons b x =>
    cases y with
    | nil => simp at hy
    | cons c y =>
      simp at hx hy
      subst hx
      subst hy
      rw [cpl, if_pos rfl]
      omega
theorem key_uniq {F : List En} (nd : (keys F).Nodup) {e f : En} (he : e ∈ F) (hf : f ∈ F) (h : e.1 = f.1) : e = f := by
  have a := lk_some nd he
  induction F with
  | nil => simp at he
  | cons g F ih =>
    unfold keys at nd
    rw [List.map_cons, List.nodup_cons] at nd
    rcases List.mem_cons.mp he with rfl | he' <;> rcases List.mem_cons.mp hf with rfl | hf'
    · rfl
    · exact absurd (List.mem_map.mpr ⟨f, hf', h.symm⟩) nd.1
    · exact absurd (List.mem_map.mpr ⟨e, he', h⟩) nd.1
    · exact ih nd.2 he' hf' (lk_some nd.2 he')
theorem con_step {s : Sc} (h : s.Ok) {qs : List Rat} (hl : qs.length = s.ms.length) {d m' : Nat} (z : Zq d m') (hq : ∀ q ∈ qs, Bq d m' q) {st : Nat} {F : List En} (I : RI s qs st F) (cl : ∀ p ∈ keys F, ∀ o, o < s.n → adj s p o = true → o ≠ p → o ∈ keys F) {m : Mt} {q : Rat} (hm : (m, q) ∈ s.ms.zip qs) (v0 v1 v2 v6 : SV) :
    (NoC F (m, q) ∧ b_contradiction_2 [v0, v1, v2, .d (dicD (F.map encE)), .d (.int (m.l : Nat)), .d (.int (m.r : Nat)), v6, .d (encQ q)] = some (.nx [v0, v1, v2, .d (dicD (F.map encE)), .d (.int (m.l : Nat)), .d (.int (m.r : Nat)), v6, .d (encQ q)])) ∨
    (∃ ring, Ctr s qs ring ∧ b_contradiction_2 [v0, v1, v2, .d (dicD (F.map encE)), .d (.int (m.l : Nat)), .d (.int (m.r : Nat)), v6, .d (encQ q)] = some (.rt (encL ring))) := by
  obtain ⟨m1, m2⟩ := List.of_mem_zip hm
  obtain ⟨r1, r2, _, _⟩ := h.rg m m1
  have h6 := h.n6
  have kn := kin_ok (F.map encE) true (m.l : Int)
  have kl := kix_ok (F.map encE) (m.l : Int)
  have kr := kix_ok (F.map encE) (m.r : Int)
  unfold b_contradiction_2
  by_cases hk : m.l ∈ keys F
  · have hr : m.r ∈ keys F := cl m.l hk m.r r2 (adj_match h m1) (by omega)
    obtain ⟨el, hel, ee⟩ := List.mem_map.mp hk
    obtain ⟨er, her, ef⟩ := List.mem_map.mp hr
    have ll := lk_some I.nd hel
    have lr := lk_some I.nd her
    rw [ee] at ll
    rw [ef] at lr
    rw [ll] at kn kl
    rw [lr] at kr
    have El := I.en el hel
    have Er := I.en er her
    have ao := add_ok (El.smq h z hq hl) (z.sm (hq q m2))
    have nq := neD_Q (el.2.2 + q) er.2.2
    have i0 : ∀ a b : D, ixD (.tuple [a, b]) (.int 0) = some a := fun a b => rfl
    have i1 : ∀ a b : D, ixD (.tuple [a, b]) (.int 1) = some b := fun a b => rfl
    have l1 := El.len
    have l2 := Er.len
    have jo := joined_ok (cpl_pos El.hd Er.hd) (by omega) (by omega)
    by_cases c : el.2.2 + q = er.2.2
    · left
      refine ⟨fun a ha b hb e1 e2 => ?_, st_no ?_ rfl⟩
      · have ea := key_uniq I.nd ha hel (by rw [e1]; exact ee.symm)
        have eb := key_uniq I.nd hb her (by rw [e2]; exact ef.symm)
        rw [ea, eb]; exact c
      · rw [decide_eq_true c] at nq
        simp [fAnd, fTr, fB, fV, bnd, lft, kn, truD, kl, kr, fC, fCl, fCons, fNil, i1, ao, nq]
    · right
      rw [decide_eq_false c] at nq
      refine ⟨jn el.2.1 er.2.1, ⟨st, F, el, er, m, q, I, hel, her, hm, ee, ef, c, rfl⟩, st_rt ?_ ?_⟩
      · simp [fAnd, fTr, fB, fV, bnd, lft, kn, truD, kl, kr, fC, fCl, fCons, fNil, i1, ao, nq]
      · simp [fB, fV, bnd, lft, kl, kr, fC, fCl, fCons, fNil, i0, jo]
  · left
    have ll := lk_none hk
    rw [ll] at kn
    refine ⟨fun a ha b hb e1 e2 => absurd (List.mem_map.mpr ⟨a, ha, e1⟩) hk, st_no ?_ rfl⟩
    simp [fAnd, fTr, fB, fV, bnd, lft, kn, truD]
theorem con_in {s : Sc} (h : s.Ok) {qs : List Rat} (hl : qs.length = s.ms.length) {d m' : Nat} (z : Zq d m') (hq : ∀ q ∈ qs, Bq d m' q) {st : Nat} {F : List En} (I : RI s qs st F) (cl : ∀ p ∈ keys F, ∀ o, o < s.n → adj s p o = true → o ≠ p → o ∈ keys F) (v0 v1 v2 : SV) : ∀ (zs : List (Mt × Rat)) (v4 v5 v6 v7 : SV), (∀ p ∈ zs, p ∈ s.ms.zip qs) →
    (∃ w4 w5 w6 w7, (∀ p ∈ zs, NoC F p) ∧ forD (gT (gs1 (gT (gs1 (gN 4) (gs1 (gN 5) (gs1 (gN 6) gs0)))) (gs1 (gN 7) gs0))) b_contradiction_2 (zs.map fun p => .tuple [encM p.1, encQ p.2]) [v0, v1, v2, .d (dicD (F.map encE)), v4, v5, v6, v7] = some (.nx [v0, v1, v2, .d (dicD (F.map encE)), w4, w5, w6, w7])) ∨
    (∃ ring, Ctr s qs ring ∧ forD (gT (gs1 (gT (gs1 (gN 4) (gs1 (gN 5) (gs1 (gN 6) gs0)))) (gs1 (gN 7) gs0))) b_contradiction_2 (zs.map fun p => .tuple [encM p.1, encQ p.2]) [v0, v1, v2, .d (dicD (F.map encE)), v4, v5, v6, v7] = some (.rt (encL ring)))
  | [], v4, v5, v6, v7, _ => .inl ⟨v4, v5, v6, v7, fun p hp => by simp at hp, rfl⟩
  | p :: zs, v4, v5, v6, v7, hz => by
    have hp := hz p List.mem_cons_self
    rcases con_step h hl z hq I cl (m := p.1) (q := p.2) hp v0 v1 v2 (.d (.int (p.1.w : Nat))) with ⟨n, e⟩ | ⟨ring, C, e⟩
    · rcases con_in h hl z hq I cl v0 v1 v2 zs (.d (.int (p.1.l : Nat))) (.d (.int (p.1.r : Nat))) (.d (.int (p.1.w : Nat))) (.d (encQ p.2)) (fun y hz' => hz y (List.mem_cons_of_mem _ hz')) with ⟨w4, w5, w6, w7, n2, e2⟩ | ⟨ring, C, e2⟩
      · refine .inl ⟨w4, w5, w6, w7, fun z hz' => ?_, ?_⟩
        · rcases List.mem_cons.mp hz' with rfl | hz'
          · exact n
          · exact n2 z hz'
        · rw [List.map_cons, forD_cons_nx rfl e]
          exact e2
      · refine .inr ⟨ring, C, ?_⟩
        rw [List.map_cons, forD_cons_nx rfl e]
        exact e2
    · refine .inr ⟨ring, C, ?_⟩
      rw [List.map_cons]
      exact forD_cons_rt rfl e
theorem con_start {s : Sc} (h : s.Ok) {qs : List Rat} (hl : qs.length = s.ms.length) {d m' : Nat} (z : Zq d m') (hq : ∀ q ∈ qs, Bq d m' q) {st : Nat} (hs : st < s.n) (v3 v4 v5 v6 v7 : SV) :
    (∃ F w3 w4 w5 w6 w7, RI s qs st F ∧ (∀ p ∈ keys F, ∀ o, o < s.n → adj s p o = true → o ≠ p → o ∈ keys F) ∧ (∀ p ∈ s.ms.zip qs, NoC F p) ∧ b_contradiction_1 [.d (encS s), .d (.tuple (qs.map encQ)), .d (.int (st : Nat)), v3, v4, v5, v6, v7] = some (.nx [.d (encS s), .d (.tuple (qs.map encQ)), .d (.int (st : Nat)), w3, w4, w5, w6, w7])) ∨
    (∃ ring, Ctr s qs ring ∧ b_contradiction_1 [.d (encS s), .d (.tuple (qs.map encQ)), .d (.int (st : Nat)), v3, v4, v5, v6, v7] = some (.rt (encL ring))) := by
  obtain ⟨F, e, I, cl⟩ := reach_ok h hl z hq hs
  have h36 := h.len
  have ix1 : ixD (encS s) (.int 1) = some (.tuple (s.ms.map encM)) := rfl
  have zl : (zipD (s.ms.map encM) (qs.map encQ)).length ≤ 100000 := by
    unfold zipD
    rw [List.length_zipWith, List.length_map]
    omega
  have zz : fZp (fCons (fB ixD (fV 0) (fC (.int (1)))) (fCons (fV 1) fNil)) [.d (encS s), .d (.tuple (qs.map encQ)), .d (.int (st : Nat)), .d (dicD (F.map encE)), v4, v5, v6, v7] = ok ((s.ms.zip qs).map fun p => .tuple [encM p.1, encQ p.2]) := by
    rw [← zipD_map]
    simp [fZp, fCons, fNil, fB, fV, fC, bnd, lft, ix1, seqD, zl]
  unfold b_contradiction_1
  rcases con_in h hl z hq I cl (.d (encS s)) (.d (.tuple (qs.map encQ))) (.d (.int (st : Nat))) (s.ms.zip qs) v4 v5 v6 v7 (fun p hp => hp) with ⟨w4, w5, w6, w7, n, e2⟩ | ⟨ring, C, e2⟩
  · refine .inl ⟨F, .d (dicD (F.map encE)), w4, w5, w6, w7, I, cl, n, ?_⟩
    refine st_set (dicD (F.map encE)) (by simp [fCl, fCons, fNil, fB, fU, fN, fV, fC, fTr, fNo, fAnd, fOr, vAnd, vOr, fNoV, fIf, fTup, fLst, fFr, fLs, seqD, fSl, optD, bnd, lft, truD, fRg1, fRg2, fSq, tupDs, ltD, leD, gtD, subD, addD, negD, modD_ok, e]) ?_
    exact st_for zz e2 rfl
  · refine .inr ⟨ring, C, ?_⟩
    refine st_set (dicD (F.map encE)) (by simp [fCl, fCons, fNil, fB, fU, fN, fV, fC, fTr, fNo, fAnd, fOr, vAnd, vOr, fNoV, fIf, fTup, fLst, fFr, fLs, seqD, fSl, optD, bnd, lft, truD, fRg1, fRg2, fSq, tupDs, ltD, leD, gtD, subD, addD, negD, modD_ok, e]) ?_
    exact st_forR zz e2
/-- from one start, nothing contradicts -/
def Calm (s : Sc) (qs : List Rat) (st : Nat) : Prop := ∃ F, RI s qs st F ∧ (∀ p ∈ keys F, ∀ o, o < s.n → adj s p o = true → o ≠ p → o ∈ keys F) ∧ ∀ p ∈ s.ms.zip qs, NoC F p
theorem con_out {s : Sc} (h : s.Ok) {qs : List Rat} (hl : qs.length = s.ms.length) {d m' : Nat} (z : Zq d m') (hq : ∀ q ∈ qs, Bq d m' q) : ∀ (xs : List Nat) (v2 v3 v4 v5 v6 v7 : SV), (∀ a ∈ xs, a < s.n) →
    (∃ w2 w3 w4 w5 w6 w7, (∀ a ∈ xs, Calm s qs a) ∧ forD (gN 2) b_contradiction_1 (xs.map iN) [.d (encS s), .d (.tuple (qs.map encQ)), v2, v3, v4, v5, v6, v7] = some (.nx [.d (encS s), .d (.tuple (qs.map encQ)), w2, w3, w4, w5, w6, w7])) ∨
    (∃ ring, Ctr s qs ring ∧ forD (gN 2) b_contradiction_1 (xs.map iN) [.d (encS s), .d (.tuple (qs.map encQ)), v2, v3, v4, v5, v6, v7] = some (.rt (encL ring)))
  | [], v2, v3, v4, v5, v6, v7, _ => .inl ⟨v2, v3, v4, v5, v6, v7, fun p hp => by simp at hp, rfl⟩
  | a :: xs, v2, v3, v4, v5, v6, v7, hx => by
    rcases con_start h hl z hq (hx a List.mem_cons_self) v3 v4 v5 v6 v7 with ⟨F, w3, w4, w5, w6, w7, I, cl, n, e⟩ | ⟨ring, C, e⟩
    · rcases con_out h hl z hq xs (.d (.int (a : Nat))) w3 w4 w5 w6 w7 (fun z hz => hx z (List.mem_cons_of_mem _ hz)) with ⟨u2, u3, u4, u5, u6, u7, n2, e2⟩ | ⟨ring, C, e2⟩
      · refine .inl ⟨u2, u3, u4, u5, u6, u7, fun z hz => ?_, ?_⟩
        · rcases List.mem_cons.mp hz with rfl | hz
          · exact ⟨F, I, cl, n⟩
          · exact n2 z hz
        · rw [List.map_cons, forD_cons_nx rfl e]
          exact e2
      · refine .inr ⟨ring, C, ?_⟩
        rw [List.map_cons, forD_cons_nx rfl e]
        exact e2
    · refine .inr ⟨ring, C, ?_⟩
      rw [List.map_cons]
      exact forD_cons_rt rfl e
theorem calm_cons {s : Sc} (h : s.Ok) {qs : List Rat} (hc : ∀ a, a < s.n → Calm s qs a) : ∃ x, Cons s qs x := by
  have R := root_inv s.ms
  have g : ∀ st, ∃ g : Nat → Rat, st < s.n → ∀ p ∈ s.ms.zip qs, root s.ms p.1.l = st → root s.ms st = st → p.2 = g p.1.l - g p.1.r := by
    intro st
    by_cases hs : st < s.n
    · obtain ⟨F, I, cl, n⟩ := hc st hs
      refine ⟨fun v => if hv : ∃ e ∈ F, e.1 = v then -(Classical.choose hv).2.2 else 0, fun _ p hp hr hrs => ?_⟩
      have pm := (List.of_mem_zip (a := p.1) (b := p.2) hp).1
      have closed : ∀ m ∈ s.ms, (m.l ∈ keys F ↔ m.r ∈ keys F) := fun m hm => by
        obtain ⟨r1, r2, _⟩ := h.rg m hm
        have a1 := adj_match h hm
        exact ⟨fun z => cl _ z _ r2 a1 (by omega), fun z => cl _ z _ (by omega) (by rw [adj_comm]; exact a1) (by omega)⟩
      have inl : p.1.l ∈ keys F := (R.cl (fun v => v ∈ keys F) closed p.1.l).mpr (by rw [hr]; exact I.st)
      have inr : p.1.r ∈ keys F := (closed p.1 pm).mp inl
      have hl : ∃ e ∈ F, e.1 = p.1.l := List.mem_map.mp inl
      have hr : ∃ e ∈ F, e.1 = p.1.r := List.mem_map.mp inr
      simp only
      rw [dif_pos hl, dif_pos hr]
      have := n p hp _ (Classical.choose_spec hl).1 _ (Classical.choose_spec hr).1 (Classical.choose_spec hl).2 (Classical.choose_spec hr).2
      grind
    · exact ⟨fun _ => 0, fun z => absurd z hs⟩
  refine ⟨fun v => Classical.choose (g (root s.ms v)) v, fun p hp => ?_⟩
  have pm := (List.of_mem_zip (a := p.1) (b := p.2) hp).1
  obtain ⟨r1, r2, _⟩ := h.rg p.1 pm
  have ed := R.ed p.1 pm
  have := Classical.choose_spec (g (root s.ms p.1.l)) (root_lt _ (by omega)) p hp rfl (R.id _)
  simp only
  rw [← ed]
  exact this
theorem ctr_not {s : Sc} (h : s.Ok) {qs : List Rat} (hl : qs.length = s.ms.length) {ring : List Nat} (C : Ctr s qs ring) (x : Nat → Rat) : ¬ Cons s qs x := by
  intro c
  obtain ⟨st, F, el, er, m, q, I, h1, h2, h3, h4, h5, h6, _⟩ := C.ex
  have a := cons_en h hl c (I.en el h1)
  have b := cons_en h hl c (I.en er h2)
  have d := c (m, q) h3
  simp only at d
  rw [a, b, d, h4, h5] at h6
  exact h6 (by grind)
theorem contradiction_gen {s : Sc} (h : s.Ok) {qs : List Rat} (hl : qs.length = s.ms.length) {d m' : Nat} (z : Zq d m') (hq : ∀ q ∈ qs, Bq d m' q) : (f_contradiction [encS s, .tuple (qs.map encQ)] = ok .none ∧ ∃ x, Cons s qs x) ∨ (∃ ring, f_contradiction [encS s, .tuple (qs.map encQ)] = ok (encL ring) ∧ Ctr s qs ring ∧ ∀ x, ¬ Cons s qs x) := by
  have h6 := h.n6
  have rg : fRg1 (fCons (fB ixD (fV 0) (fC (.int (0)))) fNil) [.d (encS s), .d (.tuple (qs.map encQ)), .u, .u, .u, .u, .u, .u] = ok ((List.range s.n).map iN) := by simp [fCl, fCons, fNil, fB, fU, fN, fV, fC, fTr, fNo, fAnd, fOr, vAnd, vOr, fNoV, fIf, fTup, fLst, fFr, fLs, seqD, fSl, optD, bnd, lft, truD, fRg1, fRg2, fSq, tupDs, ltD, leD, gtD, subD, addD, negD, modD_ok, encS_n, rng_of (show s.n < 2 ^ 62 by omega), rngD_map]
  unfold f_contradiction
  rcases con_out h hl z hq (List.range s.n) .u .u .u .u .u .u (fun a ha => List.mem_range.mp ha) with ⟨w2, w3, w4, w5, w6, w7, n, e⟩ | ⟨ring, C, e⟩
  · left
    refine ⟨?_, calm_cons h fun a ha => n a (List.mem_range.mpr ha)⟩
    have key : g_contradiction [.d (encS s), .d (.tuple (qs.map encQ)), .u, .u, .u, .u, .u, .u] = some (.rt .none) := by
      unfold g_contradiction
      refine st_for rg e ?_
      exact st_ret (by simp [fCl, fCons, fNil, fB, fU, fN, fV, fC, fTr, fNo, fAnd, fOr, vAnd, vOr, fNoV, fIf, fTup, fLst, fFr, fLs, seqD, fSl, optD, bnd, lft, truD, fRg1, fRg2, fSq, tupDs, ltD, leD, gtD, subD, addD, negD, modD_ok])
    simp [runDef, initT, key]
  · right
    refine ⟨ring, ?_, C, ctr_not h hl C⟩
    have key : g_contradiction [.d (encS s), .d (.tuple (qs.map encQ)), .u, .u, .u, .u, .u, .u] = some (.rt (encL ring)) := by
      unfold g_contradiction
      exact st_forR rg e
    simp [runDef, initT, key]
theorem is_consistent_gen {s : Sc} (h : s.Ok) {qs : List Rat} (hl : qs.length = s.ms.length) {d m' : Nat} (z : Zq d m') (hq : ∀ q ∈ qs, Bq d m' q) : ∃ b, f_is_consistent [encS s, .tuple (qs.map encQ)] = ok (.bool b) ∧ (b = true ↔ ∃ x, Cons s qs x) := by
  have cm := check_margins_ok h hl
  unfold f_is_consistent g_is_consistent
  rcases contradiction_gen h hl z hq with ⟨e, x⟩ | ⟨ring, e, _, nx⟩
  · exact ⟨true, by simp [runDef, initT, gSeq, gNil, gRet, gRetN, gSet, gSetO, gEx, gIf, gPar, gAsg, gFrz, frzT, gRaise, fCl, fCons, fNil, fB, fU, fN, fV, fC, fTr, fNo, fAnd, fOr, vAnd, vOr, fNoV, fIf, fTup, fLst, fFr, fCh, lft, truD, bnd, bndS, gN, gT, gs0, gs1, isiD, tyD, lenDs, absDs, minDs, maxDs, tupDs, addD, subD, negD, ltD, leD, gtD, geD, isN, notN, ixO, fOix, fOln, gApp, putO, gPut, seqD, fSq, fLs, optD, fSl, slD, ixD, atI_c0, atI_c1, atI_c2, atI_map, modD_ok, lenDs, fRg1, fRg2, cm, e], ⟨fun _ => x, fun _ => rfl⟩⟩
  · refine ⟨false, by simp only [encL] at e; simp [runDef, initT, gSeq, gNil, gRet, gRetN, gSet, gSetO, gEx, gIf, gPar, gAsg, gFrz, frzT, gRaise, fCl, fCons, fNil, fB, fU, fN, fV, fC, fTr, fNo, fAnd, fOr, vAnd, vOr, fNoV, fIf, fTup, fLst, fFr, fCh, lft, truD, bnd, bndS, gN, gT, gs0, gs1, isiD, tyD, lenDs, absDs, minDs, maxDs, tupDs, addD, subD, negD, ltD, leD, gtD, geD, isN, notN, ixO, fOix, fOln, gApp, putO, gPut, seqD, fSq, fLs, optD, fSl, slD, ixD, atI_c0, atI_c1, atI_c2, atI_map, modD_ok, lenDs, fRg1, fRg2, cm, e], ⟨fun z => (by cases z), fun ⟨x, z⟩ => absurd z (nx x)⟩⟩
theorem contradiction_ok {s : Sc} (h : s.Ok) {qs : List Rat} (hl : qs.length = s.ms.length) (hq : ∀ q ∈ qs, Bq 6 120 q) : (f_contradiction [encS s, .tuple (qs.map encQ)] = ok .none ∧ ∃ x, Cons s qs x) ∨ (∃ ring, f_contradiction [encS s, .tuple (qs.map encQ)] = ok (encL ring) ∧ Ctr s qs ring ∧ ∀ x, ¬ Cons s qs x) := contradiction_gen h hl zq6 hq
theorem is_consistent_ok {s : Sc} (h : s.Ok) {qs : List Rat} (hl : qs.length = s.ms.length) (hq : ∀ q ∈ qs, Bq 6 120 q) : ∃ b, f_is_consistent [encS s, .tuple (qs.map encQ)] = ok (.bool b) ∧ (b = true ↔ ∃ x, Cons s qs x) := is_consistent_gen h hl zq6 hq
end LW
set_option Elab.async false
set_option linter.all false
set_option maxRecDepth 100000
set_option maxHeartbeats 4000000
/-! Y9: consistent margins and predictions -/
namespace LW
open PySem DL LA
/-! ### consistent margins are predicted -/
theorem zip_gr {x : Nat → Rat} : ∀ {ms : List Mt} {qs : List Rat}, ms.length = qs.length → (∀ p ∈ ms.zip qs, p.2 = x p.1.l - x p.1.r) → ms.zip qs = gr ms x
  | [], qs, _, _ => by simp [gr]
  | m :: ms, [], h, _ => by simp at h
  | m :: ms, q :: qs, h, hc => by
    have ih := zip_gr (ms := ms) (qs := qs) (by simpa using h) fun p hp => hc p (by rw [List.zip_cons_cons]; exact List.mem_cons_of_mem _ hp)
    have e := hc (m, q) (by rw [List.zip_cons_cons]; exact List.mem_cons_self)
    simp only at e
    rw [List.zip_cons_cons, ih, e]
    rfl
theorem cons_prd {s : Sc} (h : s.Ok) {qs : List Rat} (hl : qs.length = s.ms.length) {x : Nat → Rat} (c : Cons s qs x) {a b : Nat} (hr : root s.ms a = root s.ms b) : prd s qs a b = x a - x b := by
  unfold prd
  refine uniq_diff h.msok (fun i hi => ?_) hr
  have := (fit_ok h.msok qs).bl i hi
  rw [this, zip_gr hl.symm c]
end LW
set_option Elab.async false
set_option linter.all false
set_option maxRecDepth 100000
set_option maxHeartbeats 4000000
/-! Y8: suspects -/
namespace LW
open PySem DL LA
/-- the other matches are consistent -/
def Cw (s : Sc) (qs : List Rat) (i : Nat) : Prop := ∃ x, Cons (wo s i) (wq qs i) x
noncomputable def cw (s : Sc) (qs : List Rat) (i : Nat) : Bool := @decide (Cw s qs i) (Classical.propDecidable _)
theorem cw_iff {s : Sc} {qs : List Rat} {i : Nat} : cw s qs i = true ↔ Cw s qs i := by unfold cw; exact @decide_eq_true_iff _ (Classical.propDecidable _)
theorem cw_no {s : Sc} {qs : List Rat} {i : Nat} : cw s qs i = false ↔ ¬ Cw s qs i := by unfold cw; exact @decide_eq_false_iff_not _ (Classical.propDecidable _)
noncomputable def loi (s : Sc) (qs : List Rat) (i : Nat) : Rat := lo s qs i (mat s.ms i)
noncomputable def encSu (s : Sc) (qs : List Rat) (i : Nat) : D := .tuple [.int (i : Nat), encQ (loi s qs i)]
noncomputable def sus (s : Sc) (qs : List Rat) : List Nat := (List.range s.ms.length).filter (cw s qs)
/-- margins with one other margin -/
def sq (qs : List Rat) (i : Nat) (v : Rat) : List Rat := qs.take i ++ v :: qs.drop (i + 1)
theorem sq_len {qs : List Rat} {i : Nat} (h : i < qs.length) (v : Rat) : (sq qs i v).length = qs.length := by
  unfold sq
  simp
  omega
theorem sq_zip {s : Sc} {qs : List Rat} (hl : qs.length = s.ms.length) {i : Nat} {m : Mt} (hm : s.ms[i]? = some m) (v : Rat) : s.ms.zip (sq qs i v) = (s.ms.take i).zip (qs.take i) ++ (m, v) :: (s.ms.drop (i + 1)).zip (qs.drop (i + 1)) := by
  obtain ⟨hi, _⟩ := List.getElem?_eq_some_iff.mp hm
  have e := wo_split hm
  unfold sq
  conv => lhs; rw [e]
  rw [List.zip_append (by simp; omega), List.zip_cons_cons]
theorem cons_sq {s : Sc} {qs : List Rat} (hl : qs.length = s.ms.length) {i : Nat} {m : Mt} (hm : s.ms[i]? = some m) (v : Rat) (x : Nat → Rat) : Cons s (sq qs i v) x ↔ Cons (wo s i) (wq qs i) x ∧ v = x m.l - x m.r := by
  unfold Cons
  rw [sq_zip hl hm, zip_wo i hl]
  constructor
  · intro c
    refine ⟨fun p hp => c p ?_, c (m, v) (by simp)⟩
    rcases List.mem_append.mp hp with hp | hp
    · exact List.mem_append.mpr (.inl hp)
    · exact List.mem_append.mpr (.inr (List.mem_cons_of_mem _ hp))
  · rintro ⟨c, e⟩ p hp
    rcases List.mem_append.mp hp with hp | hp
    · exact c p (List.mem_append.mpr (.inl hp))
    · rcases List.mem_cons.mp hp with rfl | hp
      · exact e
      · exact c p (List.mem_append.mpr (.inr hp))
theorem sq_self {qs : List Rat} {i : Nat} {q : Rat} (h : qs[i]? = some q) : sq qs i q = qs := by
  obtain ⟨hi, e⟩ := List.getElem?_eq_some_iff.mp h
  unfold sq
  rw [← e, List.getElem_cons_drop]
  exact List.take_append_drop i qs
/-- a bridge and consistent others: consistent -/
theorem cons_bridge {s : Sc} (h : s.Ok) {qs : List Rat} (hl : qs.length = s.ms.length) {i : Nat} {m : Mt} (hm : s.ms[i]? = some m) (hb : isBr s i = true) (hc : Cw s qs i) : ∃ x, Cons s qs x := by
  obtain ⟨x, c⟩ := hc
  have hr := (isBr_iff h hm).mp hb
  obtain ⟨hi, _⟩ := List.getElem?_eq_some_iff.mp hm
  obtain ⟨q, hq⟩ : ∃ q, qs[i]? = some q := ⟨_, List.getElem?_eq_getElem (by omega)⟩
  have R := root_inv (wo s i).ms
  refine ⟨fun p => if root (wo s i).ms p = root (wo s i).ms m.r then x p + (x m.l - x m.r - q) else x p, ?_⟩
  rw [← sq_self hq, cons_sq hl hm]
  refine ⟨fun p hp => ?_, ?_⟩
  · have ed := R.ed p.1 (List.of_mem_zip (a := p.1) (b := p.2) hp).1
    have cp := c p hp
    simp only
    rw [ed]
    by_cases e : root (wo s i).ms p.1.r = root (wo s i).ms m.r
    · rw [if_pos e, if_pos e, cp]; grind
    · rw [if_neg e, if_neg e, cp]
  · simp only
    rw [if_neg hr]
    simp only [if_true]
    grind
theorem lo_cons {s : Sc} (h : s.Ok) {qs : List Rat} (hl : qs.length = s.ms.length) {i : Nat} {m : Mt} (hm : s.ms[i]? = some m) (hb : isBr s i = false) {x : Nat → Rat} (c : Cons (wo s i) (wq qs i) x) : lo s qs i m = x m.l - x m.r := by
  have heq : root (wo s i).ms m.l = root (wo s i).ms m.r := Decidable.byContradiction fun z => by
    rw [(isBr_iff h hm).mpr z] at hb
    cases hb
  exact cons_prd (wo_ok h i) (wq_len i hl) c heq
theorem wq_mem {qs : List Rat} {i : Nat} {q : Rat} (h : q ∈ wq qs i) : q ∈ qs := by
  unfold wq at h
  rcases List.mem_append.mp h with h | h
  · exact List.mem_of_mem_take h
  · exact List.mem_of_mem_drop h
theorem Mg.zq {s : Sc} {d m E B : Nat} {qs : List Rat} (g : Mg s d m E B qs) (hE : E < 4000) (hB : B < 4000) : Zq d m := ⟨g.d0, g.dl hE, by have := g.ml hB; omega⟩
theorem sus_loop {s : Sc} (h : s.Ok) {qs : List Rat} {d m E B : Nat} (g : Mg s d m E B qs) (hz : B + E ≤ 2900) (nc : ∀ x, ¬ Cons s qs x) : ∀ (xs ys : List Nat) (v3 v4 : SV), (∀ i ∈ xs, i < s.ms.length) → ys.length + xs.length ≤ 1000 →
    ∃ w3 w4, forD (gN 3) b_suspects_1 (xs.map iN) [.d (encS s), .d (.tuple (qs.map encQ)), .o (ys.map (encSu s qs)), v3, v4] = some (.nx [.d (encS s), .d (.tuple (qs.map encQ)), .o ((ys ++ xs.filter (cw s qs)).map (encSu s qs)), w3, w4])
  | [], ys, v3, v4, _, _ => ⟨v3, v4, by simp [forD]⟩
  | i :: xs, ys, v3, v4, hx, hy => by
    have hi := hx i List.mem_cons_self
    have h36 := h.len
    have hl := g.ln
    obtain ⟨mm, hm⟩ : ∃ mm, s.ms[i]? = some mm := ⟨_, List.getElem?_eq_getElem hi⟩
    have wd := wq_data qs i (by omega) _ rfl
    have wm := without_match_ok h i
    have ai : addD (.int (i : Nat)) (.int 1) = some (.int ((i : Int) + 1)) := rfl
    have lof := left_out_of_ok h g hz hm
    have cg := contradiction_gen (wo_ok h i) (wq_len i hl) (g.zq (by omega) (by omega)) fun q hq => g.bl q (wq_mem hq)
    have e1 : fB addD (fSl (fV 1) none (some (fV 3))) (fSl (fV 1) (some (fB addD (fV 3) (fC (.int (1))))) none) [.d (encS s), .d (.tuple (qs.map encQ)), .o (ys.map (encSu s qs)), .d (.int (i : Nat)), v4] = ok (.tuple ((wq qs i).map encQ)) := by
      simp [fB, fV, fC, fSl, optD, bnd, lft, slD, ai, wd]
    rw [List.length_cons] at hy
    rcases cg with ⟨ec, x, cx⟩ | ⟨ring, ec, _, nx⟩
    · have cwt : cw s qs i = true := cw_iff.mpr ⟨x, cx⟩
      have nb : isBr s i = false := by
        cases hb : isBr s i with
        | false => rfl
        | true =>
          obtain ⟨y, cy⟩ := cons_bridge h hl hm hb ⟨x, cx⟩
          exact absurd cy (nc y)
      have ln : loi s qs i = lo s qs i mm := by unfold loi; rw [mat_eq hm]
      rw [nb, ← ln] at lof
      simp only [Bool.false_eq_true, if_false] at lof
      obtain ⟨w3, w4, e⟩ := sus_loop h g hz nc xs (ys ++ [i]) (.d (.int (i : Nat))) (.d (.tuple ((wq qs i).map encQ))) (fun z hz => hx z (List.mem_cons_of_mem _ hz)) (by simp; omega)
      refine ⟨w3, w4, ?_⟩
      have b : b_suspects_1 [.d (encS s), .d (.tuple (qs.map encQ)), .o (ys.map (encSu s qs)), .d (.int (i : Nat)), v4] = some (.nx [.d (encS s), .d (.tuple (qs.map encQ)), .o ((ys ++ [i]).map (encSu s qs)), .d (.int (i : Nat)), .d (.tuple ((wq qs i).map encQ))]) := by
        unfold b_suspects_1
        refine st_set _ e1 ?_
        have yl : (ys.map (encSu s qs)).length < 100000 := by rw [List.length_map]; omega
        refine st_ifN (c := true) (τ' := [.d (encS s), .d (.tuple (qs.map encQ)), .o ((ys ++ [i]).map (encSu s qs)), .d (.int (i : Nat)), .d (.tuple ((wq qs i).map encQ))]) (by simp [fTr, fB, fV, fC, fCl, fCons, fNil, bnd, lft, wm, ec, isN, truD]) ?_ rfl
        rw [if_pos rfl, List.map_append, List.map_cons, List.map_nil]
        generalize ys.map (encSu s qs) = Y at yl ⊢
        simp [gSeq, gApp, gNil, fTup, fCl, fCons, fNil, fV, bnd, bndS, lof, yl, encSu]
      rw [List.map_cons, forD_cons_nx rfl b, e]
      rw [List.filter_cons, cwt]
      simp
    · have cwf : cw s qs i = false := cw_no.mpr fun ⟨y, cy⟩ => nx y cy
      obtain ⟨w3, w4, e⟩ := sus_loop h g hz nc xs ys (.d (.int (i : Nat))) (.d (.tuple ((wq qs i).map encQ))) (fun z hz => hx z (List.mem_cons_of_mem _ hz)) (by omega)
      refine ⟨w3, w4, ?_⟩
      have isn : isN (encL ring) .none = some (.bool false) := rfl
      have b : b_suspects_1 [.d (encS s), .d (.tuple (qs.map encQ)), .o (ys.map (encSu s qs)), .d (.int (i : Nat)), v4] = some (.nx [.d (encS s), .d (.tuple (qs.map encQ)), .o (ys.map (encSu s qs)), .d (.int (i : Nat)), .d (.tuple ((wq qs i).map encQ))]) := by
        unfold b_suspects_1
        refine st_set _ e1 ?_
        exact st_no (by simp [fTr, fB, fV, fC, fCl, fCons, fNil, bnd, lft, wm, ec, isn, truD]) rfl
      rw [List.map_cons, forD_cons_nx rfl b, e]
      rw [List.filter_cons, cwf]
      simp
theorem law_suspects_ok {s : Sc} (h : s.Ok) {qs : List Rat} {d m E B : Nat} (g : Mg s d m E B qs) (hz : B + E ≤ 2900) : (f__law_suspects [encS s, .tuple (qs.map encQ)] = ok (.str "consistent") ∧ ∃ x, Cons s qs x) ∨ (f__law_suspects [encS s, .tuple (qs.map encQ)] = ok (.list ((sus s qs).map (encSu s qs))) ∧ ∀ x, ¬ Cons s qs x) := by
  have cm := check_margins_ok h g.ln
  have h36 := h.len
  have hl := g.ln
  rcases contradiction_gen h g.ln (g.zq (by omega) (by omega)) g.bl with ⟨ec, x⟩ | ⟨ring, ec, _, nx⟩
  · refine .inl ⟨?_, x⟩
    have cr : f_suspects [encS s, .tuple (qs.map encQ)] = er "Consistent" := by
      unfold f_suspects g_suspects
      simp [runDef, initT, gSeq, gNil, gRet, gRetN, gSet, gSetO, gEx, gIf, gPar, gAsg, gFrz, frzT, gRaise, fCl, fCons, fNil, fB, fU, fN, fV, fC, fTr, fNo, fAnd, fOr, vAnd, vOr, fNoV, fIf, fTup, fLst, fFr, fCh, lft, truD, bnd, bndS, gN, gT, gs0, gs1, isiD, tyD, lenDs, absDs, minDs, maxDs, tupDs, addD, subD, negD, ltD, leD, gtD, geD, isN, notN, ixO, fOix, fOln, gApp, putO, gPut, seqD, fSq, fLs, optD, fSl, slD, ixD, atI_c0, atI_c1, atI_c2, atI_map, modD_ok, lenDs, fRg1, fRg2, cm, ec]
    unfold f__law_suspects g__law_suspects
    simp [runDef, initT, gSeq, gNil, gRet, gRetN, gSet, gSetO, gEx, gIf, gPar, gAsg, gFrz, frzT, gRaise, fCl, fCons, fNil, fB, fU, fN, fV, fC, fTr, fNo, fAnd, fOr, vAnd, vOr, fNoV, fIf, fTup, fLst, fFr, fCh, lft, truD, bnd, bndS, gN, gT, gs0, gs1, isiD, tyD, lenDs, absDs, minDs, maxDs, tupDs, addD, subD, negD, ltD, leD, gtD, geD, isN, notN, ixO, fOix, fOln, gApp, putO, gPut, seqD, fSq, fLs, optD, fSl, slD, ixD, atI_c0, atI_c1, atI_c2, atI_map, modD_ok, lenDs, fRg1, fRg2, cr, gTry, tabOf]
  · refine .inr ⟨?_, nx⟩
    obtain ⟨w3, w4, e⟩ := sus_loop h g hz nx (List.range s.ms.length) [] .u .u (fun i hi => List.mem_range.mp hi) (by simp; omega)
    rw [List.nil_append] at e
    have isn : isN (encL ring) .none = some (.bool false) := rfl
    have cr : f_suspects [encS s, .tuple (qs.map encQ)] = ok (.list ((sus s qs).map (encSu s qs))) := by
      have key : g_suspects [.d (encS s), .d (.tuple (qs.map encQ)), .u, .u, .u] = some (.rt (.list ((sus s qs).map (encSu s qs)))) := by
        unfold g_suspects
        refine st_ex .none (by simp [fCl, fCons, fNil, fB, fU, fN, fV, fC, fTr, fNo, fAnd, fOr, vAnd, vOr, fNoV, fIf, fTup, fLst, fFr, fLs, seqD, fSl, optD, bnd, lft, truD, fRg1, fRg2, fSq, tupDs, ltD, leD, gtD, subD, addD, negD, modD_ok, cm]) ?_
        refine st_no (by simp [fTr, fB, fV, fC, fCl, fCons, fNil, bnd, lft, ec, isn, truD]) ?_
        have rg : fRg1 (fCons (fN lenDs (fCons (fV 1) fNil)) fNil) [.d (encS s), .d (.tuple (qs.map encQ)), .o [], .u, .u] = ok ((List.range s.ms.length).map iN) := by
          simp [fRg1, fCons, fNil, fN, fV, bnd, lft, lenDs, hl, rng_of (show s.ms.length < 2 ^ 62 by omega), rngD_map]
        have s0 : gSetO 2 (fLst fNil) [.d (encS s), .d (.tuple (qs.map encQ)), .u, .u, .u] = some (.nx [.d (encS s), .d (.tuple (qs.map encQ)), .o [], .u, .u]) := by simp [gSetO, fLst, fNil, bnd, bndS]
        refine st_nx s0 ?_
        refine st_for rg e ?_
        unfold sus
        simp [gFrz, frzT, gSeq, gRet, fV, bndS]
      unfold f_suspects
      simp [runDef, initT, key]
    unfold f__law_suspects g__law_suspects
    simp [runDef, initT, gSeq, gNil, gRet, gRetN, gSet, gSetO, gEx, gIf, gPar, gAsg, gFrz, frzT, gRaise, fCl, fCons, fNil, fB, fU, fN, fV, fC, fTr, fNo, fAnd, fOr, vAnd, vOr, fNoV, fIf, fTup, fLst, fFr, fCh, lft, truD, bnd, bndS, gN, gT, gs0, gs1, isiD, tyD, lenDs, absDs, minDs, maxDs, tupDs, addD, subD, negD, ltD, leD, gtD, geD, isN, notN, ixO, fOix, fOln, gApp, putO, gPut, seqD, fSq, fLs, optD, fSl, slD, ixD, atI_c0, atI_c1, atI_c2, atI_map, modD_ok, lenDs, fRg1, fRg2, cr, gTry, tabOf]
end LW
set_option Elab.async false
set_option linter.all false
set_option maxRecDepth 100000
set_option maxHeartbeats 4000000
namespace LW
open PySem PySem.Spec PyProof.Rows L2 DL
noncomputable def b_law_1 : Ta → Option Out := (gSeq (gSet 9 (fB addD (fSl (fV 3) none (some (fV 8))) (fSl (fV 3) (some (fB addD (fV 8) (fC (.int (1))))) none)))
    (gSeq (gIf (fTr (fCl f_is_consistent (fCons (fCl f__law_without (fCons (fV 2) (fCons (fV 8) fNil))) (fCons (fV 9) fNil))))
    (gSeq (gSet 10 (fCl f_left_out (fCons (fV 2) (fCons (fV 3) (fCons (fV 8) fNil)))))
    (gSeq (gSet 11 (fB addD (fB addD (fSl (fV 3) none (some (fV 8))) (fTup (fCons (fV 10) fNil))) (fSl (fV 3) (some (fB addD (fV 8) (fC (.int (1))))) none)))
    (gSeq (gIf (fOr (fTr (fB inD (fV 8) (fCl f_bridges (fCons (fV 2) fNil)))) (fNo (fTr (fCl f_is_consistent (fCons (fV 2) (fCons (fV 11) fNil))))))
    (gSeq (gRet (fC (.bool false)))
    gNil)
    gNil)
    (gSeq (gApp 7 (fTup (fCons (fV 8) (fCons (fV 10) fNil))))
    gNil))))
    gNil)
    gNil))
noncomputable def e_law_1 : Ta → R D := (fV 8)
noncomputable def q_law_10 : Ta → Option Out := (gSeq (gRet (vAnd (fB eqD (fV 6) (fV 7)) (vOr (fB isN (fV 4) (fC .none)) (fB inD (fV 4) (fFr (fLc (fSq (fV 6)) (gT (gs1 (gN 8) (gs1 (gN 10) gs0))) fYes e_law_1 [8, 10]))))))
    gNil)
noncomputable def q_law_9 : Ta → Option Out := (gFrz 7 q_law_10)
noncomputable def q_law_8 : Ta → Option Out := (gSeq (gFor (fRg1 (fCons (fN lenDs (fCons (fV 3) fNil)) fNil)) (gN 8)
    b_law_1)
    q_law_9)
noncomputable def q_law_7 : Ta → Option Out := (gSeq (gSetO 7 (fLst fNil))
    q_law_8)
noncomputable def q_law_6 : Ta → Option Out := (gSeq (gIf (fTr (fCl f_is_consistent (fCons (fV 2) (fCons (fV 3) fNil))))
    (gSeq (gRet (vAnd (fB eqD (fV 6) (fC (.str "consistent"))) (vOr (fB isN (fV 4) (fC .none)) (fB inD (fV 4) (fCl f_bridges (fCons (fV 2) fNil))))))
    gNil)
    gNil)
    q_law_7)
noncomputable def q_law_5 : Ta → Option Out := (gSeq (gSet 6 (fCl f__law_suspects (fCons (fV 2) (fCons (fV 3) fNil))))
    q_law_6)
noncomputable def q_law_4 : Ta → Option Out := (gSeq (gIf (fAnd (fTr (fB eqD (fB modD (fB ixD (fV 1) (fC (.int (0)))) (fC (.int (2)))) (fC (.int (0))))) (fTr (fB gtD (fN lenDs (fCons (fV 3) fNil)) (fC (.int (0))))))
    (gSeq (gSet 5 (fCl f_gradient_part (fCons (fV 2) (fCons (fV 3) fNil))))
    (gSeq (gSet 4 (fB modD (fB ixD (fV 1) (fC (.int (1)))) (fN lenDs (fCons (fV 3) fNil))))
    (gSeq (gSet 3 (fB addD (fB addD (fSl (fV 5) none (some (fV 4))) (fTup (fCons (fCl f__law_plus (fCons (fB ixD (fV 5) (fV 4)) (fCons (fTup (fCons (fB addD (fC (.int (1))) (fB modD (fB ixD (fV 1) (fC (.int (2)))) (fC (.int (3))))) (fCons (fC (.int (2))) fNil))) fNil))) fNil))) (fSl (fV 5) (some (fB addD (fV 4) (fC (.int (1))))) none)))
    gNil)))
    gNil)
    q_law_5)
noncomputable def q_law_3 : Ta → Option Out := (gSeq (gSet 4 (fC .none))
    q_law_4)
noncomputable def q_law_2 : Ta → Option Out := (gSeq (gSet 3 (fCl f__law_margins (fCons (fV 0) (fCons (fC (.int (3))) (fCons (fV 2) fNil)))))
    q_law_3)
noncomputable def q_law_1 : Ta → Option Out := (gSeq (gSet 2 (fCl f__law_schedule (fCons (fV 0) (fCons (fC (.int (2))) (fCons (fC (.int (5))) fNil)))))
    q_law_2)
noncomputable def g_law : Ta → Option Out := (gSeq (gSet 1 (fCl f__law_row (fCons (fV 0) (fCons (fC (.int (5))) fNil))))
    q_law_1)
noncomputable def f_law : List D → R D := runDef 1 12 g_law
end LW
set_option Elab.async false
set_option linter.all false
set_option maxRecDepth 100000
set_option maxHeartbeats 4000000
/-! K20: suspects -/
namespace LW
open PySem DL LA
theorem pl_cst : Pl 0 (.str "consistent") := ⟨by decide +kernel, by decide +kernel⟩
theorem eqv_str_self (x : Str) : PyData.eqv (.str x) (.str x) = true := by simp [PyData.eqv]
theorem eq_cst : eqD (.str "consistent") (.str "consistent") = some (.bool true) := by rw [eqD_of pl_cst pl_cst, eqv_str_self]
theorem mem_brs {s : Sc} {i : Nat} : i ∈ brs s ↔ i < s.ms.length ∧ isBr s i = true := by
  unfold brs
  rw [List.mem_filter, List.mem_range]
theorem encSu_pl (s : Sc) (qs : List Rat) (i : Nat) : Pl 2 (encSu s qs i) := plTup (plCons ((plInt _).le (by decide)) (plCons (encQ_pl _) plNil))
theorem encSu_eqv (s : Sc) (qs : List Rat) (i j : Nat) : PyData.eqv (encSu s qs i) (encSu s qs j) = decide (i = j) := by
  unfold encSu
  rw [PyData.eqv, PyData.eqvAll, PyData.eqvAll, PyData.eqvAll, encQ_eqv, eqv_int]
  by_cases e : i = j
  · subst e; simp
  · simp [e]
    intro z; omega
theorem eq_sus (s : Sc) (qs : List Rat) (xs : List Nat) : eqD (.list (xs.map (encSu s qs))) (.list (xs.map (encSu s qs))) = some (.bool true) := by
  have pl : Pl 3 (.list (xs.map (encSu s qs))) := plLst (plMap (encSu_pl s qs) xs)
  rw [eqD_of pl pl, PyData.eqv, eqvAll_map (encSu_eqv s qs)]
  simp
theorem sq_data (qs : List Rat) (i : Nat) (v : Rat) (hi : i < qs.length) (hl : qs.length ≤ 1000) : addD (.tuple (cutD (qs.map encQ) none (some (i : Int)))) (.tuple [encQ v]) = some (.tuple ((qs.map encQ).take i ++ [encQ v])) ∧ addD (.tuple ((qs.map encQ).take i ++ [encQ v])) (.tuple (cutD (qs.map encQ) (some ((i : Int) + 1)) none)) = some (.tuple ((sq qs i v).map encQ)) := by
  have c1 := cutTo (qs.map encQ) i
  have c2 := cutFrom (qs.map encQ) (i + 1)
  have c2' : cutD (qs.map encQ) (some ((i : Int) + 1)) none = (qs.map encQ).drop (i + 1) := by rw [← c2]; rfl
  rw [c1, c2']
  refine ⟨?_, ?_⟩
  · show (if _ then _ else _) = _
    rw [if_pos (by simp; omega)]
  · show (if _ then _ else _) = _
    rw [if_pos (by simp; omega)]
    unfold sq
    simp [List.map_take, List.map_drop]
theorem dSw {s : Sc} (h : s.Ok) (i : Nat) : dS (wo s i) ≠ 0 ∧ dS (wo s i) ≤ 2 ^ 639 := dS_ok (wo_ok h i)
theorem mend_bl {s : Sc} (h : s.Ok) {qs : List Rat} {d m E B : Nat} (g : Mg s d m E B qs) {i : Nat} (x : Mt) : ∀ q ∈ sq qs i (lo s qs i x), Bq (dS (wo s i) * d) (2 ^ (B + 640)) q := by
  intro q hq
  have own : ∀ q ∈ qs, Bq (dS (wo s i) * d) (2 ^ (B + 640)) q := fun q hq => by
    refine ((g.bl q hq).scale (dSw h i).1 g.d0).le ?_
    have mB := g.mB
    exact Nat.le_trans (mul_pow (dSw h i).2 (show m ≤ 2 ^ B by omega)) (pow_le (by omega))
  unfold sq at hq
  rcases List.mem_append.mp hq with hq | hq
  · exact own q (List.mem_of_mem_take hq)
  · rcases List.mem_cons.mp hq with rfl | hq
    · exact (lo_bq h g i x).le (pow_le (by omega))
    · exact own q (List.mem_of_mem_drop hq)
theorem mend_zq {s : Sc} (h : s.Ok) {qs : List Rat} {d m E B : Nat} (g : Mg s d m E B qs) (hE : E ≤ 1000) (hB : B ≤ 1000) (i : Nat) : Zq (dS (wo s i) * d) (2 ^ (B + 640)) := by
  refine ⟨Nat.mul_ne_zero (dSw h i).1 g.d0, ?_, ?_⟩
  · exact Nat.lt_of_le_of_lt (mul_pow (dSw h i).2 g.dE) (p4000 (by omega))
  · obtain ⟨b, hb⟩ : ∃ b, b = B + 640 := ⟨_, rfl⟩
    rw [← hb]
    exact Nat.lt_of_le_of_lt (mul_pow (show 40 ≤ 2 ^ 6 by decide) (Nat.le_refl (2 ^ b))) (p4000 (by omega))
theorem k20_loop {s : Sc} (h : s.Ok) {qs : List Rat} {d m E B : Nat} (g : Mg s d m E B qs) (hE : E ≤ 1000) (hB : B ≤ 1000) (nc : ∀ x, ¬ Cons s qs x) (v0 v1 v4 v5 v6 : SV) : ∀ (xs ys : List Nat) (v8 v9 v10 v11 : SV), (∀ i ∈ xs, i < s.ms.length) → ys.length + xs.length ≤ 1000 →
    ∃ w8 w9 w10 w11, forD (gN 8) b_law_1 (xs.map iN) [v0, v1, .d (encS s), .d (.tuple (qs.map encQ)), v4, v5, v6, .o (ys.map (encSu s qs)), v8, v9, v10, v11] = some (.nx [v0, v1, .d (encS s), .d (.tuple (qs.map encQ)), v4, v5, v6, .o ((ys ++ xs.filter (cw s qs)).map (encSu s qs)), w8, w9, w10, w11])
  | [], ys, v8, v9, v10, v11, _, _ => ⟨v8, v9, v10, v11, by simp [forD]⟩
  | i :: xs, ys, v8, v9, v10, v11, hx, hy => by
    have hi := hx i List.mem_cons_self
    have h36 := h.len
    have hl := g.ln
    obtain ⟨mm, hm⟩ : ∃ mm, s.ms[i]? = some mm := ⟨_, List.getElem?_eq_getElem hi⟩
    have wd := wq_data qs i (by omega) _ rfl
    have wm := law_without_ok h i
    have ai : addD (.int (i : Nat)) (.int 1) = some (.int ((i : Int) + 1)) := rfl
    have lof := left_out_ok h g (by omega) hm
    obtain ⟨b, eb, hb⟩ := is_consistent_gen (wo_ok h i) (wq_len i hl) (g.zq (by omega) (by omega)) fun q hq => g.bl q (wq_mem hq)
    have e1 : fB addD (fSl (fV 3) none (some (fV 8))) (fSl (fV 3) (some (fB addD (fV 8) (fC (.int (1))))) none) [v0, v1, .d (encS s), .d (.tuple (qs.map encQ)), v4, v5, v6, .o (ys.map (encSu s qs)), .d (.int (i : Nat)), v9, v10, v11] = ok (.tuple ((wq qs i).map encQ)) := by
      simp [fB, fV, fC, fSl, optD, bnd, lft, slD, ai, wd]
    rw [List.length_cons] at hy
    cases b with
    | true =>
      obtain ⟨x, cx⟩ := hb.mp rfl
      have cwt : cw s qs i = true := cw_iff.mpr ⟨x, cx⟩
      have nb : isBr s i = false := by
        cases hbr : isBr s i with
        | false => rfl
        | true =>
          obtain ⟨y, cy⟩ := cons_bridge h hl hm hbr ⟨x, cx⟩
          exact absurd cy (nc y)
      have ln : loi s qs i = lo s qs i mm := by unfold loi; rw [mat_eq hm]
      have lc := lo_cons h hl hm nb cx
      have cs := (cons_sq hl hm (lo s qs i mm) x).mpr ⟨cx, lc⟩
      obtain ⟨b2, eb2, hb2⟩ := is_consistent_gen h (show (sq qs i (lo s qs i mm)).length = s.ms.length by rw [sq_len (by omega)]; exact hl) (mend_zq h g hE hB i) (mend_bl h g mm)
      have b2t := hb2.mpr ⟨x, cs⟩
      subst b2t
      rw [nb, ← ln] at lof
      rw [← ln] at eb2
      simp only [Bool.false_eq_true, if_false] at lof
      obtain ⟨d1, d2⟩ := sq_data qs i (loi s qs i) (by omega) (by omega)
      have ig := in_grp i (brs s)
      have nbr : i ∉ brs s := fun z => by
        have := (mem_brs.mp z).2
        rw [nb] at this
        cases this
      rw [decide_eq_false nbr] at ig
      have ig' : inD (.int (i : Nat)) (encL (brs s)) = some (.bool false) := ig
      have br := bridges_ok h
      obtain ⟨w8, w9, w10, w11, e⟩ := k20_loop h g hE hB nc v0 v1 v4 v5 v6 xs (ys ++ [i]) (.d (.int (i : Nat))) (.d (.tuple ((wq qs i).map encQ))) (.d (encQ (loi s qs i))) (.d (.tuple ((sq qs i (loi s qs i)).map encQ))) (fun z hz => hx z (List.mem_cons_of_mem _ hz)) (by simp; omega)
      refine ⟨w8, w9, w10, w11, ?_⟩
      have bb : b_law_1 [v0, v1, .d (encS s), .d (.tuple (qs.map encQ)), v4, v5, v6, .o (ys.map (encSu s qs)), .d (.int (i : Nat)), v9, v10, v11] = some (.nx [v0, v1, .d (encS s), .d (.tuple (qs.map encQ)), v4, v5, v6, .o ((ys ++ [i]).map (encSu s qs)), .d (.int (i : Nat)), .d (.tuple ((wq qs i).map encQ)), .d (encQ (loi s qs i)), .d (.tuple ((sq qs i (loi s qs i)).map encQ))]) := by
        unfold b_law_1
        refine st_set _ e1 ?_
        have yl : (ys.map (encSu s qs)).length < 100000 := by rw [List.length_map]; omega
        refine st_ifN (c := true) (τ' := [v0, v1, .d (encS s), .d (.tuple (qs.map encQ)), v4, v5, v6, .o ((ys ++ [i]).map (encSu s qs)), .d (.int (i : Nat)), .d (.tuple ((wq qs i).map encQ)), .d (encQ (loi s qs i)), .d (.tuple ((sq qs i (loi s qs i)).map encQ))]) (by simp [fTr, fB, fV, fC, fCl, fCons, fNil, bnd, lft, wm, eb, truD]) ?_ rfl
        rw [if_pos rfl, List.map_append, List.map_cons, List.map_nil]
        generalize ys.map (encSu s qs) = Y at yl ⊢
        refine st_set (encQ (loi s qs i)) (by simp [fCl, fCons, fNil, fV, bnd, lof]) ?_
        refine st_set (.tuple ((sq qs i (loi s qs i)).map encQ)) (by simp [fB, fV, fC, fSl, fTup, fCons, fNil, optD, bnd, lft, slD, ai, d1, d2]) ?_
        refine st_no (by simp [fOr, fNo, fTr, fB, fV, fCl, fCons, fNil, bnd, lft, br, ig', truD, eb2]) ?_
        simp [gSeq, gApp, gNil, fTup, fCl, fCons, fNil, fV, bnd, bndS, yl, encSu]
      rw [List.map_cons, forD_cons_nx rfl bb, e]
      rw [List.filter_cons, cwt]
      simp
    | false =>
      have cwf : cw s qs i = false := cw_no.mpr fun ⟨y, cy⟩ => by
        have := hb.mpr ⟨y, cy⟩
        cases this
      obtain ⟨w8, w9, w10, w11, e⟩ := k20_loop h g hE hB nc v0 v1 v4 v5 v6 xs ys (.d (.int (i : Nat))) (.d (.tuple ((wq qs i).map encQ))) v10 v11 (fun z hz => hx z (List.mem_cons_of_mem _ hz)) (by omega)
      refine ⟨w8, w9, w10, w11, ?_⟩
      have bb : b_law_1 [v0, v1, .d (encS s), .d (.tuple (qs.map encQ)), v4, v5, v6, .o (ys.map (encSu s qs)), .d (.int (i : Nat)), v9, v10, v11] = some (.nx [v0, v1, .d (encS s), .d (.tuple (qs.map encQ)), v4, v5, v6, .o (ys.map (encSu s qs)), .d (.int (i : Nat)), .d (.tuple ((wq qs i).map encQ)), v10, v11]) := by
        unfold b_law_1
        refine st_set _ e1 ?_
        exact st_no (by simp [fTr, fB, fV, fC, fCl, fCons, fNil, bnd, lft, wm, eb, truD]) rfl
      rw [List.map_cons, forD_cons_nx rfl bb, e]
      rw [List.filter_cons, cwf]
      simp
/-- what the law told as changed -/
inductive Chg (s : Sc) (qs : List Rat) : D → Prop
  | non : Chg s qs .none
  | at (c : Nat) : c < s.ms.length → ((∃ x, Cons s qs x) → isBr s c = true) → Cw s qs c → Chg s qs (.int (c : Nat))
theorem k20_tail {s : Sc} (h : s.Ok) {qs : List Rat} {d m E B : Nat} (g : Mg s d m E B qs) (hE : E ≤ 1000) (hB : B ≤ 1000) {ch : D} (hc : Chg s qs ch) (v0 v1 v5 : SV) :
    q_law_5 [v0, v1, .d (encS s), .d (.tuple (qs.map encQ)), .d ch, v5, .u, .u, .u, .u, .u, .u] = some (.rt (.bool true)) := by
  have hl := g.ln
  have h36 := h.len
  have br := bridges_ok h
  obtain ⟨b, eb, hb⟩ := is_consistent_gen h hl (g.zq (by omega) (by omega)) g.bl
  unfold q_law_5
  rcases law_suspects_ok h g (by omega) with ⟨e1, cx⟩ | ⟨e1, nx⟩
  · refine st_set (.str "consistent") (by simp [fCl, fCons, fNil, fB, fU, fN, fV, fC, fTr, fNo, fAnd, fOr, vAnd, vOr, fNoV, fIf, fTup, fLst, fFr, fLs, seqD, fSl, optD, bnd, lft, truD, fRg1, fRg2, fSq, tupDs, ltD, leD, gtD, subD, addD, negD, modD_ok, e1]) ?_
    have bt := hb.mpr cx
    subst bt
    unfold q_law_6
    refine st_rt (by simp [fCl, fCons, fNil, fB, fU, fN, fV, fC, fTr, fNo, fAnd, fOr, vAnd, vOr, fNoV, fIf, fTup, fLst, fFr, fLs, seqD, fSl, optD, bnd, lft, truD, fRg1, fRg2, fSq, tupDs, ltD, leD, gtD, subD, addD, negD, modD_ok, eb]) ?_
    cases hc with
    | non => simp [fCl, fCons, fNil, fB, fU, fN, fV, fC, fTr, fNo, fAnd, fOr, vAnd, vOr, fNoV, fIf, fTup, fLst, fFr, fLs, seqD, fSl, optD, bnd, lft, truD, fRg1, fRg2, fSq, tupDs, ltD, leD, gtD, subD, addD, negD, modD_ok, eq_cst, isN]
    | «at» c hcl hbr hcw =>
      have ig := in_grp c (brs s)
      rw [decide_eq_true (mem_brs.mpr ⟨hcl, hbr cx⟩)] at ig
      have ig' : inD (.int (c : Nat)) (encL (brs s)) = some (.bool true) := ig
      have isn : isN (.int (c : Nat)) .none = some (.bool false) := rfl
      simp [fCl, fCons, fNil, fB, fU, fN, fV, fC, fTr, fNo, fAnd, fOr, vAnd, vOr, fNoV, fIf, fTup, fLst, fFr, fLs, seqD, fSl, optD, bnd, lft, truD, fRg1, fRg2, fSq, tupDs, ltD, leD, gtD, subD, addD, negD, modD_ok, eq_cst, isn, br, ig']
  · refine st_set (.list ((sus s qs).map (encSu s qs))) (by simp [fCl, fCons, fNil, fB, fU, fN, fV, fC, fTr, fNo, fAnd, fOr, vAnd, vOr, fNoV, fIf, fTup, fLst, fFr, fLs, seqD, fSl, optD, bnd, lft, truD, fRg1, fRg2, fSq, tupDs, ltD, leD, gtD, subD, addD, negD, modD_ok, e1]) ?_
    have bf : b = false := by
      cases b with
      | false => rfl
      | true =>
        obtain ⟨x, cx⟩ := hb.mp rfl
        exact absurd cx (nx x)
    subst bf
    unfold q_law_6
    refine st_no (by simp [fCl, fCons, fNil, fB, fU, fN, fV, fC, fTr, fNo, fAnd, fOr, vAnd, vOr, fNoV, fIf, fTup, fLst, fFr, fLs, seqD, fSl, optD, bnd, lft, truD, fRg1, fRg2, fSq, tupDs, ltD, leD, gtD, subD, addD, negD, modD_ok, eb]) ?_
    unfold q_law_7
    have s0 : gSetO 7 (fLst fNil) [v0, v1, .d (encS s), .d (.tuple (qs.map encQ)), .d ch, v5, .d (.list ((sus s qs).map (encSu s qs))), .u, .u, .u, .u, .u] = some (.nx [v0, v1, .d (encS s), .d (.tuple (qs.map encQ)), .d ch, v5, .d (.list ((sus s qs).map (encSu s qs))), .o [], .u, .u, .u, .u]) := by simp [gSetO, fLst, fNil, bnd, bndS]
    refine st_nx s0 ?_
    unfold q_law_8
    obtain ⟨w8, w9, w10, w11, e⟩ := k20_loop h g hE hB nx v0 v1 (.d ch) v5 (.d (.list ((sus s qs).map (encSu s qs)))) (List.range s.ms.length) [] .u .u .u .u (fun i hi => List.mem_range.mp hi) (by simp; omega)
    rw [List.nil_append] at e
    have rg : fRg1 (fCons (fN lenDs (fCons (fV 3) fNil)) fNil) [v0, v1, .d (encS s), .d (.tuple (qs.map encQ)), .d ch, v5, .d (.list ((sus s qs).map (encSu s qs))), .o [], .u, .u, .u, .u] = ok ((List.range s.ms.length).map iN) := by
      simp [fRg1, fCons, fNil, fN, fV, bnd, lft, lenDs, hl, rng_of (show s.ms.length < 2 ^ 62 by omega), rngD_map]
    refine st_for rg e ?_
    have es := eq_sus s qs (sus s qs)
    unfold q_law_9 q_law_10
    have sl : (sus s qs).length ≤ 36 := by
      have := List.length_filter_le (cw s qs) (List.range s.ms.length)
      rw [List.length_range] at this
      unfold sus
      omega
    have lc : lcD (gT (gs1 (gN 8) (gs1 (gN 10) gs0))) fYes e_law_1 [v0, v1, .d (encS s), .d (.tuple (qs.map encQ)), .d ch, v5, .d (.list ((sus s qs).map (encSu s qs))), .d (.list ((sus s qs).map (encSu s qs))), .u, w9, .u, w11] ((sus s qs).map (encSu s qs)) = some ((sus s qs).map iN) := by
      refine lcD_all (f := encSu s qs) (r := iN) (sus s qs) fun i hi => ⟨_, rfl, ?_⟩
      unfold e_law_1
      simp [fV, iN]
    show gSeq (gRet _) gNil [v0, v1, .d (encS s), .d (.tuple (qs.map encQ)), .d ch, v5, .d (.list ((sus s qs).map (encSu s qs))), .d (.list ((sus s qs).map (encSu s qs))), w8, w9, w10, w11] = some (.rt (.bool true))
    refine st_ret ?_
    obtain ⟨L, hL⟩ : ∃ L, L = (sus s qs).map (encSu s qs) := ⟨_, rfl⟩
    have Ll : L.length ≤ 100000 := by rw [hL, List.length_map]; omega
    rw [← hL] at es lc ⊢
    cases hc with
    | non => simp [fCl, fCons, fNil, fB, fU, fN, fV, fC, fTr, fNo, fAnd, fOr, vAnd, vOr, fNoV, fIf, fTup, fLst, fFr, fLs, seqD, fSl, optD, bnd, lft, truD, fRg1, fRg2, fSq, tupDs, ltD, leD, gtD, subD, addD, negD, modD_ok, es, isN]
    | «at» c hcl hbr hcw =>
      have ig := in_grp c (sus s qs)
      have ms : c ∈ sus s qs := List.mem_filter.mpr ⟨List.mem_range.mpr hcl, cw_iff.mpr hcw⟩
      rw [decide_eq_true ms] at ig
      have ig' : inD (.int (c : Nat)) (.list ((sus s qs).map iN)) = some (.bool true) := ig
      have isn : isN (.int (c : Nat)) .none = some (.bool false) := rfl
      simp [fCl, fCons, fNil, fB, fU, fN, fV, fC, fTr, fNo, fAnd, fOr, vAnd, vOr, fNoV, fIf, fTup, fLst, fFr, fLs, seqD, fSl, optD, bnd, lft, truD, fRg1, fRg2, fSq, tupDs, ltD, leD, gtD, subD, addD, negD, modD_ok, es, isn, fLc, Ll, wipeT, lc, ig']
theorem grad_cons {s : Sc} (qs : List Rat) : Cons s (grad s qs) (fit s qs) := by
  intro p hp
  unfold grad at hp
  rw [gr_zip] at hp
  unfold gr at hp
  obtain ⟨m, _, rfl⟩ := List.mem_map.mp hp
  rfl
theorem law_plus_raw {a : Rat} {x y : Int} (ha : Sm 4000 a) (hx : x.natAbs < 2 ^ 4000) (hy : y.natAbs < 2 ^ 4000) (y0 : y ≠ 0) : f__law_plus [encQ a, .tuple [.int x, .int y]] = ok (encQ (a + Rat.divInt x y)) := by
  have a0 : ((a.den : Nat) : Int) ≠ 0 := by have := a.den_nz; omega
  have ne : ((a.den : Nat) : Int) * y ≠ 0 := Int.mul_ne_zero a0 y0
  have r := fraction_ok (a.num * y + x * ((a.den : Nat) : Int)) _ ne (gcd_small ne (mul_lt8 ha.den hy))
  have e : Rat.divInt (a.num * y + x * ((a.den : Nat) : Int)) (((a.den : Nat) : Int) * y) = a + Rat.divInt x y := by
    have := Rat.divInt_add_divInt a.num x (d₁ := ((a.den : Nat) : Int)) (d₂ := y) a0 y0
    rw [Rat.num_divInt_den] at this
    exact this.symm
  rw [e] at r
  unfold f__law_plus g__law_plus
  unfold encQ at r ⊢
  simp [runDef, initT, gSeq, gNil, gRet, gRetN, gSet, gSetO, gEx, gIf, gPar, gAsg, gFrz, frzT, gRaise, fCl, fCons, fNil, fB, fU, fN, fV, fC, fTr, fNo, fAnd, fOr, vAnd, vOr, fNoV, fIf, fTup, fLst, fFr, fCh, lft, truD, bnd, bndS, gN, gT, gs0, gs1, isiD, tyD, lenDs, absDs, minDs, maxDs, tupDs, addD, subD, negD, ltD, leD, gtD, geD, isN, notN, ixO, fOix, fOln, gApp, putO, gPut, seqD, fSq, fLs, optD, fSl, slD, ixD, atI_c0, atI_c1, atI_c2, atI_map, modD_ok, lenDs, fRg1, fRg2, mulD_ok (mulOk_of ha.1 hy), mulD_ok (mulOk_of hx ha.den), mulD_ok (mulOk_of ha.den hy), r]
theorem wq_sq {qs : List Rat} {i : Nat} (hi : i < qs.length) (v : Rat) : wq (sq qs i v) i = wq qs i := by
  unfold wq sq
  rw [List.take_append_of_le_length (by simp; omega), List.take_take, Nat.min_self]
  congr 1
  rw [List.drop_append, List.drop_eq_nil_of_le (by simp; omega)]
  simp [Nat.min_eq_left (Nat.le_of_lt hi)]
theorem grad_bq {s : Sc} (h : s.Ok) {qs : List Rat} (g : Mg s 6 120 3 16 qs) : BL (dS s * 6) (2 ^ 647) (grad s qs) := by
  have := grq_bq (ms := s.ms) (fit_dS h g) (Nat.mul_ne_zero (dS_ok h).1 (by decide))
  intro q hq
  exact (this q hq).le (mul_pow (show 2 ≤ 2 ^ 1 by decide) (Nat.le_refl (2 ^ (16 + 630))))
theorem chg_mg {s : Sc} (h : s.Ok) {qs : List Rat} (g : Mg s 6 120 3 16 qs) {c : Nat} {q dl : Rat} (hq : (grad s qs)[c]? = some q) (hd : Bq 2 3 dl) (hc : c < s.ms.length) : Mg s (dS s * 6) (2 ^ 648) 642 660 (sq (grad s qs) c (q + dl)) := by
  have d0 : dS s * 6 ≠ 0 := Nat.mul_ne_zero (dS_ok h).1 (by decide)
  have gb := grad_bq h g
  have own : ∀ x ∈ grad s qs, Bq (dS s * 6) (2 ^ 648) x := fun x hx => (gb x hx).le (pow_le (by decide))
  refine ⟨?_, fun x hx => ?_, d0, mul_pow (dS_ok h).2 (show 6 ≤ 2 ^ 3 by decide), mul_pow (show 400 ≤ 2 ^ 12 by decide) (Nat.le_refl (2 ^ 648))⟩
  · rw [sq_len (by rw [show (grad s qs).length = s.ms.length from grq_len _ _]; exact hc)]
    exact grq_len _ _
  · unfold sq at hx
    rcases List.mem_append.mp hx with hx | hx
    · exact own x (List.mem_of_mem_take hx)
    · rcases List.mem_cons.mp hx with rfl | hx
      · have b1 := gb q (List.mem_of_getElem? hq)
        have b2 := hd.scale (k := dS s * 3) (Nat.mul_ne_zero (dS_ok h).1 (by decide)) (by decide)
        rw [Nat.mul_assoc] at b2
        have b3 := b1.add b2 d0
        refine b3.le ?_
        have l1 := mul_pow (mul_pow (dS_ok h).2 (show 3 ≤ 2 ^ 2 by decide)) (show 3 ≤ 2 ^ 2 by decide)
        have l2 := Nat.le_trans l1 (pow_le (show 639 + 2 + 2 ≤ 647 by decide))
        have l3 : 2 ^ 647 + 2 ^ 647 = 2 ^ 648 := (Nat.mul_two (2 ^ 647)).symm.trans (Nat.pow_succ (n := 2) (m := 647)).symm
        rw [← l3]
        exact Nat.add_le_add (Nat.le_refl _) l2
      · exact own x (List.mem_of_mem_drop hx)
theorem law_true (ns : List Int) (hns : ns.length ≤ 63) : f_law [scr ns] = ok (.bool true) := by
  obtain ⟨s, es, hs, _⟩ := schedule_ok ns 2 5 (by decide) (by decide)
  obtain ⟨qs, eq, hl, hb⟩ := margins_ok ns 3 s hs
  have g := dm_mg hl hb
  have h36 := hs.len
  have hR := rowOf_row ns 5
  have er := rowOf_eq ns 5
  generalize rowOf ns 5 = ds at *
  have er' : f__law_row [scr ns, .int 5] = ok (.list (ds.map .int)) := er
  have es' : f__law_schedule [scr ns, .int 2, .int 5] = ok (encS s) := es
  have eq' : f__law_margins [scr ns, .int 3, encS s] = ok (.tuple (qs.map encQ)) := eq
  have d0 : ixD (.list (ds.map .int)) (.int 0) = some (.int (dr ds 0)) := dr_ix hR 0 (by decide)
  have d1 : ixD (.list (ds.map .int)) (.int 1) = some (.int (dr ds 1)) := dr_ix hR 1 (by decide)
  have d2 : ixD (.list (ds.map .int)) (.int 2) = some (.int (dr ds 2)) := dr_ix hR 2 (by decide)
  have ll : lenDs [.tuple (qs.map encQ)] = some (.int (s.ms.length : Nat)) := by simp [lenDs, hl]
  have key : g_law [.d (scr ns), .u, .u, .u, .u, .u, .u, .u, .u, .u, .u, .u] = some (.rt (.bool true)) := by
    unfold g_law q_law_1 q_law_2 q_law_3
    refine st_set (.list (ds.map .int)) (by simp [fCl, fCons, fNil, fB, fU, fN, fV, fC, fTr, fNo, fAnd, fOr, vAnd, vOr, fNoV, fIf, fTup, fLst, fFr, fLs, seqD, fSl, optD, bnd, lft, truD, fRg1, fRg2, fSq, tupDs, ltD, leD, gtD, subD, addD, negD, modD_ok, er']) ?_
    refine st_set (encS s) (by simp [fCl, fCons, fNil, fB, fU, fN, fV, fC, fTr, fNo, fAnd, fOr, vAnd, vOr, fNoV, fIf, fTup, fLst, fFr, fLs, seqD, fSl, optD, bnd, lft, truD, fRg1, fRg2, fSq, tupDs, ltD, leD, gtD, subD, addD, negD, modD_ok, es']) ?_
    refine st_set (.tuple (qs.map encQ)) (by simp [fCl, fCons, fNil, fB, fU, fN, fV, fC, fTr, fNo, fAnd, fOr, vAnd, vOr, fNoV, fIf, fTup, fLst, fFr, fLs, seqD, fSl, optD, bnd, lft, truD, fRg1, fRg2, fSq, tupDs, ltD, leD, gtD, subD, addD, negD, modD_ok, eq']) ?_
    refine st_set .none (by simp [fCl, fCons, fNil, fB, fU, fN, fV, fC, fTr, fNo, fAnd, fOr, vAnd, vOr, fNoV, fIf, fTup, fLst, fFr, fLs, seqD, fSl, optD, bnd, lft, truD, fRg1, fRg2, fSq, tupDs, ltD, leD, gtD, subD, addD, negD, modD_ok]) ?_
    unfold q_law_4
    by_cases c0 : (dr ds 0).fmod 2 = 0
    · by_cases c1 : 0 < s.ms.length
      · obtain ⟨c, ec, hc⟩ := fmod_lit (a := dr ds 1) (b := (s.ms.length : Int)) (by omega)
        obtain ⟨k, ek, hk⟩ := fmod_lit (a := dr ds 2) (b := 3) (by decide)
        have hc' : c < s.ms.length := by omega
        have gp := gradient_part_ok hs g (by decide)
        have gln : (grad s qs).length = s.ms.length := grq_len _ _
        obtain ⟨mm, hm⟩ : ∃ mm, s.ms[c]? = some mm := ⟨_, List.getElem?_eq_getElem hc'⟩
        obtain ⟨q, hq⟩ : ∃ q, (grad s qs)[c]? = some q := ⟨_, List.getElem?_eq_getElem (by omega)⟩
        obtain ⟨dl, hdl⟩ : ∃ dl : Rat, dl = Rat.divInt (1 + k : Nat) (2 : Nat) := ⟨_, rfl⟩
        have qsm : Sm 4000 q := (grad_bq hs g q (List.mem_of_getElem? hq)).sm (Nat.mul_ne_zero (dS_ok hs).1 (by decide)) (Nat.lt_of_le_of_lt (mul_pow (dS_ok hs).2 (show 6 ≤ 2 ^ 3 by decide)) (p4000 (by decide))) (p4000 (by decide))
        have dlq : f__law_plus [encQ q, .tuple [.int (1 + (k : Int)), .int 2]] = ok (encQ (q + dl)) := by
          rw [hdl]
          exact law_plus_raw qsm (Nat.lt_of_le_of_lt (show _ ≤ 1000000 by omega) (lt4000 (Nat.le_refl _))) (lt4000 (by decide)) (by decide)
        have g2 : Mg s (dS s * 6) (2 ^ 648) 642 660 (sq (grad s qs) c (q + dl)) := chg_mg hs g hq (show Bq 2 3 dl from ⟨_, hdl, by omega⟩) hc'
        have dl0 : dl ≠ 0 := by
          have : k = 0 ∨ k = 1 ∨ k = 2 := by omega
          rw [hdl]
          rcases this with rfl | rfl | rfl <;> decide
        have chg : Chg s (sq (grad s qs) c (q + dl)) (.int (c : Nat)) := by
          refine .at c hc' (fun ⟨x, cx⟩ => ?_) ?_
          · rw [cons_sq gln hm] at cx
            cases hbr : isBr s c with
            | true => rfl
            | false =>
              exfalso
              have gc := grad_cons (s := s) qs
              have gcs := gc
              rw [← sq_self hq, cons_sq gln hm] at gcs
              have l1 := lo_cons hs gln hm hbr cx.1
              have l2 := lo_cons hs gln hm hbr gcs.1
              apply dl0
              have := cx.2
              have := gcs.2
              grind
          · have gcs := grad_cons (s := s) qs
            rw [← sq_self hq, cons_sq gln hm] at gcs
            refine ⟨fit s qs, ?_⟩
            rw [wq_sq (by omega)]
            exact gcs.1
        refine st_ifN (c := true) (τ' := [.d (scr ns), .d (.list (ds.map .int)), .d (encS s), .d (.tuple ((sq (grad s qs) c (q + dl)).map encQ)), .d (.int (c : Nat)), .d (.tuple ((grad s qs).map encQ)), .u, .u, .u, .u, .u, .u]) ?_ ?_ (k20_tail hs g2 (by decide) (by decide) chg _ _ _)
        · simp [fAnd, fTr, fB, fV, fC, fN, fCons, fNil, bnd, lft, d0, modD_ok, eqD_int, c0, truD, ll, gtD, c1]
        · rw [if_pos rfl]
          have gx : ixD (.tuple ((grad s qs).map encQ)) (.int (c : Nat)) = some (encQ q) := by
            show L2.atI ((grad s qs).map encQ) (c : Int) = _
            rw [atI_map, atI_nat hq]; rfl
          obtain ⟨s1, s2⟩ := sq_data (grad s qs) c (q + dl) (by omega) (by omega)
          have ai : addD (.int (c : Nat)) (.int 1) = some (.int ((c : Int) + 1)) := rfl
          have ml : modD (.int (dr ds 1)) (.int (s.ms.length : Nat)) = some (.int (c : Nat)) := by
            rw [modD_ok, if_neg (by omega), ec]
          refine st_set (.tuple ((grad s qs).map encQ)) (by simp [fCl, fCons, fNil, fV, bnd, gp]) ?_
          refine st_set (.int (c : Nat)) (by simp [fB, fV, fC, fN, fCons, fNil, bnd, lft, d1, ll, ml]) ?_
          have m3 : modD (.int (dr ds 2)) (.int 3) = some (.int (k : Nat)) := by
            rw [modD_ok, if_neg (by decide), ek]
          have a1 : addD (.int 1) (.int (k : Nat)) = some (.int (1 + (k : Int))) := rfl
          refine st_set (.tuple ((sq (grad s qs) c (q + dl)).map encQ)) ?_ rfl
          simp [fB, fV, fC, fSl, fTup, fCl, fCons, fNil, optD, bnd, lft, slD, ai, d2, m3, a1, gx, dlq, s1, s2]
      · refine st_no ?_ (k20_tail hs g (by decide) (by decide) .non _ _ _)
        simp [fAnd, fTr, fB, fV, fC, fN, fCons, fNil, bnd, lft, d0, modD_ok, eqD_int, c0, truD, ll, gtD, show s.ms.length = 0 by omega]
    · refine st_no ?_ (k20_tail hs g (by decide) (by decide) .non _ _ _)
      simp [fAnd, fTr, fB, fV, fC, fN, fCons, fNil, bnd, lft, d0, modD_ok, eqD_int, c0, truD]
  unfold f_law
  simp [runDef, initT, key]
end LW
set_option Elab.async false
set_option linter.all false
set_option maxRecDepth 100000
set_option maxHeartbeats 4000000
namespace LW
open PySem PySem.Spec PyProof.Rows L2 DL
def topS (i : Nat) : Stmt := PySem.Challenge.pw_matchmargins_k20_whole_suspects.main.body.getD i (.Pass ⟨0, 0, 0, 0⟩)
structure Txt (K : PySem.W.Frag) (mg : Str → Option Value) : Prop where
  b_abs : mg "abs" = none
  b_bool : mg "bool" = none
  b_enumerate : mg "enumerate" = none
  b_int : mg "int" = none
  b_isinstance : mg "isinstance" = none
  b_len : mg "len" = none
  b_list : mg "list" = none
  b_max : mg "max" = none
  b_min : mg "min" = none
  b_range : mg "range" = none
  b_set : mg "set" = none
  b_sorted : mg "sorted" = none
  b_tuple : mg "tuple" = none
  b_zip : mg "zip" = none
  c_MAX_PLAYERS : Glo K mg "MAX_PLAYERS" k_MAX_PLAYERS
  c_MAX_WEIGHT : Glo K mg "MAX_WEIGHT" k_MAX_WEIGHT
  c_ONE : Glo K mg "ONE" k_ONE
  c_ZERO : Glo K mg "ZERO" k_ZERO
  d__law_cell : ∃ a fd, Fun K "_law_cell" "_law_cell" (topS 54) a fd ∧ mg "_law_cell" = some (.ref a)
  d__law_fraction : ∃ a fd, Fun K "_law_fraction" "_law_fraction" (topS 57) a fd ∧ mg "_law_fraction" = some (.ref a)
  d__law_gcd : ∃ a fd, Fun K "_law_gcd" "_law_gcd" (topS 56) a fd ∧ mg "_law_gcd" = some (.ref a)
  d__law_margins : ∃ a fd, Fun K "_law_margins" "_law_margins" (topS 60) a fd ∧ mg "_law_margins" = some (.ref a)
  d__law_plus : ∃ a fd, Fun K "_law_plus" "_law_plus" (topS 58) a fd ∧ mg "_law_plus" = some (.ref a)
  d__law_row : ∃ a fd, Fun K "_law_row" "_law_row" (topS 55) a fd ∧ mg "_law_row" = some (.ref a)
  d__law_schedule : ∃ a fd, Fun K "_law_schedule" "_law_schedule" (topS 59) a fd ∧ mg "_law_schedule" = some (.ref a)
  d__law_suspects : ∃ a fd, Fun K "_law_suspects" "_law_suspects" (topS 62) a fd ∧ mg "_law_suspects" = some (.ref a)
  d__law_without : ∃ a fd, Fun K "_law_without" "_law_without" (topS 61) a fd ∧ mg "_law_without" = some (.ref a)
  d_add : ∃ a fd, Fun K "add" "add" (topS 12) a fd ∧ mg "add" = some (.ref a)
  d_balance_rows : ∃ a fd, Fun K "balance_rows" "balance_rows" (topS 42) a fd ∧ mg "balance_rows" = some (.ref a)
  d_bridges : ∃ a fd, Fun K "bridges" "bridges" (topS 31) a fd ∧ mg "bridges" = some (.ref a)
  d_check_index : ∃ a fd, Fun K "check_index" "check_index" (topS 27) a fd ∧ mg "check_index" = some (.ref a)
  d_check_margins : ∃ a fd, Fun K "check_margins" "check_margins" (topS 34) a fd ∧ mg "check_margins" = some (.ref a)
  d_check_schedule : ∃ a fd, Fun K "check_schedule" "check_schedule" (topS 26) a fd ∧ mg "check_schedule" = some (.ref a)
  d_cleared : ∃ a fd, Fun K "cleared" "cleared" (topS 18) a fd ∧ mg "cleared" = some (.ref a)
  d_contradiction : ∃ a fd, Fun K "contradiction" "contradiction" (topS 38) a fd ∧ mg "contradiction" = some (.ref a)
  d_differences_of : ∃ a fd, Fun K "differences_of" "differences_of" (topS 44) a fd ∧ mg "differences_of" = some (.ref a)
  d_divide : ∃ a fd, Fun K "divide" "divide" (topS 15) a fd ∧ mg "divide" = some (.ref a)
  d_eliminate : ∃ a fd, Fun K "eliminate" "eliminate" (topS 17) a fd ∧ mg "eliminate" = some (.ref a)
  d_fitted : ∃ a fd, Fun K "fitted" "fitted" (topS 43) a fd ∧ mg "fitted" = some (.ref a)
  d_gcd : ∃ a fd, Fun K "gcd" "gcd" (topS 10) a fd ∧ mg "gcd" = some (.ref a)
  d_gradient_of : ∃ a fd, Fun K "gradient_of" "gradient_of" (topS 49) a fd ∧ mg "gradient_of" = some (.ref a)
  d_gradient_part : ∃ a fd, Fun K "gradient_part" "gradient_part" (topS 50) a fd ∧ mg "gradient_part" = some (.ref a)
  d_groups_of : ∃ a fd, Fun K "groups_of" "groups_of" (topS 28) a fd ∧ mg "groups_of" = some (.ref a)
  d_in_range : ∃ a fd, Fun K "in_range" "in_range" (topS 23) a fd ∧ mg "in_range" = some (.ref a)
  d_is_consistent : ∃ a fd, Fun K "is_consistent" "is_consistent" (topS 40) a fd ∧ mg "is_consistent" = some (.ref a)
  d_is_integer : ∃ a fd, Fun K "is_integer" "is_integer" (topS 9) a fd ∧ mg "is_integer" = some (.ref a)
  d_is_margins : ∃ a fd, Fun K "is_margins" "is_margins" (topS 33) a fd ∧ mg "is_margins" = some (.ref a)
  d_is_match : ∃ a fd, Fun K "is_match" "is_match" (topS 24) a fd ∧ mg "is_match" = some (.ref a)
  d_is_rational : ∃ a fd, Fun K "is_rational" "is_rational" (topS 16) a fd ∧ mg "is_rational" = some (.ref a)
  d_is_schedule : ∃ a fd, Fun K "is_schedule" "is_schedule" (topS 25) a fd ∧ mg "is_schedule" = some (.ref a)
  d_joined : ∃ a fd, Fun K "joined" "joined" (topS 39) a fd ∧ mg "joined" = some (.ref a)
  d_law : ∃ a fd, Fun K "law" "law" (topS 63) a fd ∧ mg "law" = some (.ref a)
  d_left_out : ∃ a fd, Fun K "left_out" "left_out" (topS 47) a fd ∧ mg "left_out" = some (.ref a)
  d_left_out_of : ∃ a fd, Fun K "left_out_of" "left_out_of" (topS 46) a fd ∧ mg "left_out_of" = some (.ref a)
  d_margin_of : ∃ a fd, Fun K "margin_of" "margin_of" (topS 36) a fd ∧ mg "margin_of" = some (.ref a)
  d_match_index : ∃ a fd, Fun K "match_index" "match_index" (topS 29) a fd ∧ mg "match_index" = some (.ref a)
  d_multiply : ∃ a fd, Fun K "multiply" "multiply" (topS 14) a fd ∧ mg "multiply" = some (.ref a)
  d_reach : ∃ a fd, Fun K "reach" "reach" (topS 37) a fd ∧ mg "reach" = some (.ref a)
  d_reduced : ∃ a fd, Fun K "reduced" "reduced" (topS 11) a fd ∧ mg "reduced" = some (.ref a)
  d_solve : ∃ a fd, Fun K "solve" "solve" (topS 19) a fd ∧ mg "solve" = some (.ref a)
  d_subtract : ∃ a fd, Fun K "subtract" "subtract" (topS 13) a fd ∧ mg "subtract" = some (.ref a)
  d_surplus_of : ∃ a fd, Fun K "surplus_of" "surplus_of" (topS 35) a fd ∧ mg "surplus_of" = some (.ref a)
  d_suspects : ∃ a fd, Fun K "suspects" "suspects" (topS 52) a fd ∧ mg "suspects" = some (.ref a)
  d_without_match : ∃ a fd, Fun K "without_match" "without_match" (topS 30) a fd ∧ mg "without_match" = some (.ref a)
  i_InvalidMargins_Consistent : Isa K mg "InvalidMargins" "Consistent" false
  i_MatchError_Consistent : Isa K mg "MatchError" "Consistent" true
  k_Consistent_Consistent : Cat K mg "Consistent" "Consistent" true
  x_Consistent : Xc K mg "Consistent"
  x_InvalidMargins : Xc K mg "InvalidMargins"
  x_InvalidMatch : Xc K mg "InvalidMatch"
  x_InvalidSchedule : Xc K mg "InvalidSchedule"
section
variable {P : Program} {w : World} {K : PySem.W.Frag} {mg : Str → Option Value} {base : Heap}
abbrev st_is_integer : Stmt := topS 9
theorem sc_is_integer : FnScope ["value"] ["value"] (defScope st_is_integer) := ⟨rfl, rfl, rfl, by decide +kernel, rfl, by decide +kernel, by decide +kernel⟩
theorem ok_is_integer (T : Txt K mg)  : Def P w K mg base "is_integer" 1 1 f_is_integer := by
  obtain ⟨a, fd, F, hm⟩ := T.d_is_integer
  refine mkDef (k := 0) (g := g_is_integer) F sc_is_integer hm (F.binds fun _ _ _ _ _ _ us hl => match us, hl with | [_], _ => rfl) fun cdv A outer s H E hr => ?_
  have hu := room65 hr
  have h70 := room70 hr
  have nd := sc_is_integer.nd
  exact (sCons (sRet (dAnd (dIsi "int" (dv 0) T.b_isinstance T.b_int bt_int) (dOne (dNot (dIsi "bool" (dv 0) T.b_isinstance T.b_bool bt_bool)))))
      sNil)

abbrev st_gcd : Stmt := topS 10
theorem sc_gcd : FnScope ["left", "right"] ["left", "right"] (defScope st_gcd) := ⟨rfl, rfl, rfl, by decide +kernel, rfl, by decide +kernel, by decide +kernel⟩
theorem ok_gcd (T : Txt K mg)  : Def P w K mg base "gcd" 2 1 f_gcd := by
  obtain ⟨a, fd, F, hm⟩ := T.d_gcd
  refine mkDef (k := 0) (g := g_gcd) F sc_gcd hm (F.binds fun _ _ _ _ _ _ us hl => match us, hl with | [_, _], _ => rfl) fun cdv A outer s H E hr => ?_
  have hu := room65 hr
  have h70 := room70 hr
  have nd := sc_gcd.nd
  exact (sCons (sWh (dTCmp bNe (oNe hu) (dv 1) dInt (nomark _))
      (sCons (sPar 0 1 (dv 1) (dOp oMod (dv 0) (dv 1)) nd)
      sNil) cxPo)
      (sCons (sRet (dCallB cAbs T.b_abs bt_abs (aCons (dv 0) aNil)))
      sNil))

abbrev st_reduced : Stmt := topS 11
theorem sc_reduced : FnScope ["numerator", "denominator", "divisor"] ["numerator", "denominator"] (defScope st_reduced) := ⟨rfl, rfl, rfl, by decide +kernel, rfl, by decide +kernel, by decide +kernel⟩
theorem ok_reduced (T : Txt K mg) (G_gcd : Def P w K mg base "gcd" 2 1 f_gcd) : Def P w K mg base "reduced" 2 2 f_reduced := by
  obtain ⟨a, fd, F, hm⟩ := T.d_reduced
  refine mkDef (k := 1) (g := g_reduced) F sc_reduced hm (F.binds fun _ _ _ _ _ _ us hl => match us, hl with | [_, _], _ => rfl) fun cdv A outer s H E hr => ?_
  have hu := room65 hr
  have h70 := room70 hr
  have nd := sc_reduced.nd
  exact (sCons (sSet 2 (dCall (G_gcd) (hr.mono (by decide)) (psd_of cxTk) (aCons (dv 0) (aCons (dv 1) aNil))) nd)
      (sCons (sIf (dTCmp bLt (oLt hu) (dv 1) dInt (nomark _))
      (sCons (sSet 2 (dUn oNeg (dv 2)) nd)
      sNil)
      sNil)
      (sCons (sRet (dTup (aCons (dOp oDiv (dv 0) (dv 2)) (aCons (dOp oDiv (dv 1) (dv 2)) aNil))))
      sNil)))

abbrev st_add : Stmt := topS 12
theorem sc_add : FnScope ["left", "right"] ["left", "right"] (defScope st_add) := ⟨rfl, rfl, rfl, by decide +kernel, rfl, by decide +kernel, by decide +kernel⟩
theorem ok_add (T : Txt K mg) (G_reduced : Def P w K mg base "reduced" 2 2 f_reduced) : Def P w K mg base "add" 2 3 f_add := by
  obtain ⟨a, fd, F, hm⟩ := T.d_add
  refine mkDef (k := 2) (g := g_add) F sc_add hm (F.binds fun _ _ _ _ _ _ us hl => match us, hl with | [_, _], _ => rfl) fun cdv A outer s H E hr => ?_
  have hu := room65 hr
  have h70 := room70 hr
  have nd := sc_add.nd
  exact (sCons (sRet (dCall (G_reduced) (hr.mono (by decide)) (psd_of cxTk) (aCons (dOp oAdd (dOp oMul (dIx oIxD (dv 0) dInt) (dIx oIxD (dv 1) dInt)) (dOp oMul (dIx oIxD (dv 1) dInt) (dIx oIxD (dv 0) dInt))) (aCons (dOp oMul (dIx oIxD (dv 0) dInt) (dIx oIxD (dv 1) dInt)) aNil))))
      sNil)

abbrev st_subtract : Stmt := topS 13
theorem sc_subtract : FnScope ["left", "right"] ["left", "right"] (defScope st_subtract) := ⟨rfl, rfl, rfl, by decide +kernel, rfl, by decide +kernel, by decide +kernel⟩
theorem ok_subtract (T : Txt K mg) (G_reduced : Def P w K mg base "reduced" 2 2 f_reduced) : Def P w K mg base "subtract" 2 3 f_subtract := by
  obtain ⟨a, fd, F, hm⟩ := T.d_subtract
  refine mkDef (k := 2) (g := g_subtract) F sc_subtract hm (F.binds fun _ _ _ _ _ _ us hl => match us, hl with | [_, _], _ => rfl) fun cdv A outer s H E hr => ?_
  have hu := room65 hr
  have h70 := room70 hr
  have nd := sc_subtract.nd
  exact (sCons (sRet (dCall (G_reduced) (hr.mono (by decide)) (psd_of cxTk) (aCons (dOp oSub (dOp oMul (dIx oIxD (dv 0) dInt) (dIx oIxD (dv 1) dInt)) (dOp oMul (dIx oIxD (dv 1) dInt) (dIx oIxD (dv 0) dInt))) (aCons (dOp oMul (dIx oIxD (dv 0) dInt) (dIx oIxD (dv 1) dInt)) aNil))))
      sNil)

abbrev st_multiply : Stmt := topS 14
theorem sc_multiply : FnScope ["left", "right"] ["left", "right"] (defScope st_multiply) := ⟨rfl, rfl, rfl, by decide +kernel, rfl, by decide +kernel, by decide +kernel⟩
theorem ok_multiply (T : Txt K mg) (G_reduced : Def P w K mg base "reduced" 2 2 f_reduced) : Def P w K mg base "multiply" 2 3 f_multiply := by
  obtain ⟨a, fd, F, hm⟩ := T.d_multiply
  refine mkDef (k := 2) (g := g_multiply) F sc_multiply hm (F.binds fun _ _ _ _ _ _ us hl => match us, hl with | [_, _], _ => rfl) fun cdv A outer s H E hr => ?_
  have hu := room65 hr
  have h70 := room70 hr
  have nd := sc_multiply.nd
  exact (sCons (sRet (dCall (G_reduced) (hr.mono (by decide)) (psd_of cxTk) (aCons (dOp oMul (dIx oIxD (dv 0) dInt) (dIx oIxD (dv 1) dInt)) (aCons (dOp oMul (dIx oIxD (dv 0) dInt) (dIx oIxD (dv 1) dInt)) aNil))))
      sNil)

abbrev st_divide : Stmt := topS 15
theorem sc_divide : FnScope ["left", "right"] ["left", "right"] (defScope st_divide) := ⟨rfl, rfl, rfl, by decide +kernel, rfl, by decide +kernel, by decide +kernel⟩
theorem ok_divide (T : Txt K mg) (G_reduced : Def P w K mg base "reduced" 2 2 f_reduced) : Def P w K mg base "divide" 2 3 f_divide := by
  obtain ⟨a, fd, F, hm⟩ := T.d_divide
  refine mkDef (k := 2) (g := g_divide) F sc_divide hm (F.binds fun _ _ _ _ _ _ us hl => match us, hl with | [_, _], _ => rfl) fun cdv A outer s H E hr => ?_
  have hu := room65 hr
  have h70 := room70 hr
  have nd := sc_divide.nd
  exact (sCons (sRet (dCall (G_reduced) (hr.mono (by decide)) (psd_of cxTk) (aCons (dOp oMul (dIx oIxD (dv 0) dInt) (dIx oIxD (dv 1) dInt)) (aCons (dOp oMul (dIx oIxD (dv 0) dInt) (dIx oIxD (dv 1) dInt)) aNil))))
      sNil)

abbrev st_is_rational : Stmt := topS 16
theorem sc_is_rational : FnScope ["value"] ["value"] (defScope st_is_rational) := ⟨rfl, rfl, rfl, by decide +kernel, rfl, by decide +kernel, by decide +kernel⟩
theorem ok_is_rational (T : Txt K mg) (G_is_integer : Def P w K mg base "is_integer" 1 1 f_is_integer) (G_gcd : Def P w K mg base "gcd" 2 1 f_gcd) : Def P w K mg base "is_rational" 1 2 f_is_rational := by
  obtain ⟨a, fd, F, hm⟩ := T.d_is_rational
  refine mkDef (k := 1) (g := g_is_rational) F sc_is_rational hm (F.binds fun _ _ _ _ _ _ us hl => match us, hl with | [_], _ => rfl) fun cdv A outer s H E hr => ?_
  have hu := room65 hr
  have h70 := room70 hr
  have nd := sc_is_rational.nd
  exact (sCons (sIf (L2.PW.pt (wOr (dTNot (dT (dIsi "tuple" (dv 0) T.b_isinstance T.b_tuple bt_tuple))) (wOr (dTCmp bNe (oNe hu) (dCallB cLen T.b_len bt_len (aCons (dv 0) aNil)) dInt (nomark _)) (wOr (dTNot (dT (dCall (G_is_integer) (hr.mono (by decide)) (psd_of cxTk) (aCons (dIx oIxD (dv 0) dInt) aNil)))) (wOr1 (dTNot (dT (dCall (G_is_integer) (hr.mono (by decide)) (psd_of cxTk) (aCons (dIx oIxD (dv 0) dInt) aNil)))))))))
      (sCons (sRet dBl)
      sNil)
      sNil)
      (sCons (sRet (dAnd (dCmp oGt (dIx oIxD (dv 0) dInt) dInt (nomark _)) (dOne (dCmp (oEq hu) (dCall (G_gcd) (hr.mono (by decide)) (psd_of cxTk) (aCons (dIx oIxD (dv 0) dInt) (aCons (dIx oIxD (dv 0) dInt) aNil))) dInt (nomark _)))))
      sNil))

abbrev st_cleared : Stmt := topS 18
theorem sc_cleared : FnScope ["row", "pivot", "column", "factor", "entry", "other"] ["row", "pivot", "column"] (defScope st_cleared) := ⟨rfl, rfl, rfl, by decide +kernel, rfl, by decide +kernel, by decide +kernel⟩
theorem ok_cleared (T : Txt K mg) (G_multiply : Def P w K mg base "multiply" 2 3 f_multiply) (G_subtract : Def P w K mg base "subtract" 2 3 f_subtract) : Def P w K mg base "cleared" 3 4 f_cleared := by
  obtain ⟨a, fd, F, hm⟩ := T.d_cleared
  refine mkDef (k := 3) (g := g_cleared) F sc_cleared hm (F.binds fun _ _ _ _ _ _ us hl => match us, hl with | [_, _, _], _ => rfl) fun cdv A outer s H E hr => ?_
  have hu := room65 hr
  have h70 := room70 hr
  have nd := sc_cleared.nd
  exact (sCons (sSet 3 (dIx oIxD (dv 0) (dv 2)) nd)
      (sCons (sRet (dFr (lLc (own := [("entry", 4), ("other", 5)]) ⟨(iJ (iZp T.b_zip (aCons (dv 0) (aCons (dv 1) aNil)))), blkOk_by (by kernel_rfl), ⟨([4] ++ ([5] ++ [])), by decide, fun _ _ _ _ _ => (tgT (tg1 (tgN 4 nd) (tg1 (tgN 5 nd) tg0)) (gs1_len (gs1_len gs0_len)))⟩, fun _ _ _ _ _ => (pYes rfl), fun _ _ _ _ _ => (dCall (G_subtract) (hr.mono (by decide)) psd0 (aCons (dv 4) (aCons (dCall (G_multiply) (hr.mono (by decide)) psd0 (aCons (dv 3) (aCons (dv 5) aNil))) aNil)))⟩ nd)))
      sNil))

abbrev st_eliminate : Stmt := topS 17
theorem sc_eliminate : FnScope ["rows", "columns", "done", "column", "candidates", "pivot", "row", "entry", "place"] ["rows", "columns"] (defScope st_eliminate) := ⟨rfl, rfl, rfl, by decide +kernel, rfl, by decide +kernel, by decide +kernel⟩
theorem ok_eliminate (T : Txt K mg) (G_divide : Def P w K mg base "divide" 2 3 f_divide) (G_cleared : Def P w K mg base "cleared" 3 4 f_cleared) : Def P w K mg base "eliminate" 2 5 f_eliminate := by
  obtain ⟨a, fd, F, hm⟩ := T.d_eliminate
  refine mkDef (k := 4) (g := g_eliminate) F sc_eliminate hm (F.binds fun _ _ _ _ _ _ us hl => match us, hl with | [_, _], _ => rfl) fun cdv A outer s H E hr => ?_
  have hu := room65 hr
  have h70 := room70 hr
  have nd := sc_eliminate.nd
  exact (sCons (sSetLc 0 (own := [("row", 6)]) ⟨(iJ (iSq (dv 0))), blkOk_by (by kernel_rfl), ⟨[6], by decide, fun _ _ _ _ _ => (tgN 6 nd)⟩, fun _ _ _ _ _ => (pYes rfl), fun _ _ _ _ _ => (dFr (lLs (dv 6) T.b_list))⟩ nd (sw_true rfl rfl rfl (by decide +kernel)))
      (sCons (sSet 2 (dFr (lLst aNil)) nd)
      (sCons (sFor (iRg1 T.b_range (aCons (dv 1) aNil)) (tgN 3 nd)
      (sCons (sSetLc 4 (own := [("row", 6)]) ⟨(iOw 0), blkOk_by (by kernel_rfl), ⟨[6], by decide, fun _ _ _ _ _ => (tgN 6 nd)⟩, fun _ _ _ _ _ => (pIf1 (dTCmp bNe (oNe hu) (dIx oIxD (dv 6) (dv 3)) (dG T.c_ZERO) (nomark _))), fun _ _ _ _ _ => (dv 6)⟩ nd (sw_true rfl rfl rfl (by decide +kernel)))
      (sFrz 4 (sCons (sIf (dT (dv 4))
      (sCons (sSet 5 (dIx oIxD (dv 4) dInt) nd)
      (sCons (oRem 0 hu (dv 5))
      (sCons (sSet 5 (dFr (lLc (own := [("entry", 7)]) ⟨(iJ (iSq (dv 5))), blkOk_by (by kernel_rfl), ⟨[7], by decide, fun _ _ _ _ _ => (tgN 7 nd)⟩, fun _ _ _ _ _ => (pYes rfl), fun _ _ _ _ _ => (dCall (G_divide) (hr.mono (by decide)) psd0 (aCons (dv 7) (aCons (dIx oIxD (dv 5) (dv 3)) aNil)))⟩ nd)) nd)
      (sCons (sSetLc 0 (own := [("row", 6)]) ⟨(iOw 0), blkOk_by (by kernel_rfl), ⟨[6], by decide, fun _ _ _ _ _ => (tgN 6 nd)⟩, fun _ _ _ _ _ => (pYes rfl), fun _ _ _ _ _ => (dCall (G_cleared) (hr.mono (by decide)) psd0 (aCons (dv 6) (aCons (dv 5) (aCons (dv 3) aNil))))⟩ nd (sw_true rfl rfl rfl (by decide +kernel)))
      (sCons (sSet 2 (dOp oAdd (dFr (lLc (own := [("place", 8), ("row", 6)]) ⟨(iJ (iSq (dv 2))), blkOk_by (by kernel_rfl), ⟨([8] ++ ([6] ++ [])), by decide, fun _ _ _ _ _ => (tgT (tg1 (tgN 8 nd) (tg1 (tgN 6 nd) tg0)) (gs1_len (gs1_len gs0_len)))⟩, fun _ _ _ _ _ => (pYes rfl), fun _ _ _ _ _ => (dTup (aCons (dv 8) (aCons (dCall (G_cleared) (hr.mono (by decide)) psd0 (aCons (dv 6) (aCons (dv 5) (aCons (dv 3) aNil)))) aNil)))⟩ nd)) (dFr (lLst (aCons (dTup (aCons (dv 3) (aCons (dv 5) aNil))) aNil)))) nd)
      sNil)))))
      sNil)
      sNil))) cxPo)
      (sCons (sRet (dv 2))
      sNil))))

abbrev st_solve : Stmt := topS 19
theorem sc_solve : FnScope ["rows", "columns", "result", "column", "row"] ["rows", "columns"] (defScope st_solve) := ⟨rfl, rfl, rfl, by decide +kernel, rfl, by decide +kernel, by decide +kernel⟩
theorem ok_solve (T : Txt K mg) (G_eliminate : Def P w K mg base "eliminate" 2 5 f_eliminate) : Def P w K mg base "solve" 2 6 f_solve := by
  obtain ⟨a, fd, F, hm⟩ := T.d_solve
  refine mkDef (k := 5) (g := g_solve) F sc_solve hm (F.binds fun _ _ _ _ _ _ us hl => match us, hl with | [_, _], _ => rfl) fun cdv A outer s H E hr => ?_
  have hu := room65 hr
  have h70 := room70 hr
  have nd := sc_solve.nd
  exact (sCons (sSetO 2 (lRep (lLst (aCons (dG T.c_ZERO) aNil)) (dv 1)) nd)
      (sCons (sFor (iSq (dCall (G_eliminate) (hr.mono (by decide)) (psd_of cxTk) (aCons (dv 0) (aCons (dv 1) aNil)))) (tgT (tg1 (tgN 3 nd) (tg1 (tgN 4 nd) tg0)) (gs1_len (gs1_len gs0_len)))
      (sCons (oPut 2 (dIx oIxD (dv 4) (dUn oNeg dInt)) (dv 3))
      sNil) cxPo)
      (sFrz 2 (sCons (sRet (dv 2))
      sNil))))

abbrev st_in_range : Stmt := topS 23
theorem sc_in_range : FnScope ["value", "low", "high"] ["value", "low", "high"] (defScope st_in_range) := ⟨rfl, rfl, rfl, by decide +kernel, rfl, by decide +kernel, by decide +kernel⟩
theorem ok_in_range (T : Txt K mg) (G_is_integer : Def P w K mg base "is_integer" 1 1 f_is_integer) : Def P w K mg base "in_range" 3 2 f_in_range := by
  obtain ⟨a, fd, F, hm⟩ := T.d_in_range
  refine mkDef (k := 1) (g := g_in_range) F sc_in_range hm (F.binds fun _ _ _ _ _ _ us hl => match us, hl with | [_, _, _], _ => rfl) fun cdv A outer s H E hr => ?_
  have hu := room65 hr
  have h70 := room70 hr
  have nd := sc_in_range.nd
  exact (sCons (sRet (dAnd (dCall (G_is_integer) (hr.mono (by decide)) (psd_of cxTk) (aCons (dv 0) aNil)) (dOne (dCh oLe oLe (dv 1) (dv 0) (dv 2)))))
      sNil)

abbrev st_is_match : Stmt := topS 24
theorem sc_is_match : FnScope ["players", "value"] ["players", "value"] (defScope st_is_match) := ⟨rfl, rfl, rfl, by decide +kernel, rfl, by decide +kernel, by decide +kernel⟩
theorem ok_is_match (T : Txt K mg) (G_in_range : Def P w K mg base "in_range" 3 2 f_in_range) : Def P w K mg base "is_match" 2 3 f_is_match := by
  obtain ⟨a, fd, F, hm⟩ := T.d_is_match
  refine mkDef (k := 2) (g := g_is_match) F sc_is_match hm (F.binds fun _ _ _ _ _ _ us hl => match us, hl with | [_, _], _ => rfl) fun cdv A outer s H E hr => ?_
  have hu := room65 hr
  have h70 := room70 hr
  have nd := sc_is_match.nd
  exact (sCons (sIf (L2.PW.pt (wOr (dTNot (dT (dIsi "tuple" (dv 1) T.b_isinstance T.b_tuple bt_tuple))) (wOr (dTCmp bNe (oNe hu) (dCallB cLen T.b_len bt_len (aCons (dv 1) aNil)) dInt (nomark _)) (wOr1 (dTNot (dT (dCall (G_in_range) (hr.mono (by decide)) (psd_of cxTk) (aCons (dIx oIxD (dv 1) dInt) (aCons dInt (aCons (dOp oSub (dv 0) dInt) aNil))))))))))
      (sCons (sRet dBl)
      sNil)
      sNil)
      (sCons (sRet (dAnd (dCall (G_in_range) (hr.mono (by decide)) (psd_of cxTk) (aCons (dIx oIxD (dv 1) dInt) (aCons (dOp oAdd (dIx oIxD (dv 1) dInt) dInt) (aCons (dOp oSub (dv 0) dInt) aNil)))) (dOne (dCall (G_in_range) (hr.mono (by decide)) (psd_of cxTk) (aCons (dIx oIxD (dv 1) dInt) (aCons dInt (aCons (dG T.c_MAX_WEIGHT) aNil)))))))
      sNil))

abbrev st_is_schedule : Stmt := topS 25
theorem sc_is_schedule : FnScope ["value", "match", "other"] ["value"] (defScope st_is_schedule) := ⟨rfl, rfl, rfl, by decide +kernel, rfl, by decide +kernel, by decide +kernel⟩
theorem ok_is_schedule (T : Txt K mg) (G_in_range : Def P w K mg base "in_range" 3 2 f_in_range) (G_is_match : Def P w K mg base "is_match" 2 3 f_is_match) : Def P w K mg base "is_schedule" 1 4 f_is_schedule := by
  obtain ⟨a, fd, F, hm⟩ := T.d_is_schedule
  refine mkDef (k := 3) (g := g_is_schedule) F sc_is_schedule hm (F.binds fun _ _ _ _ _ _ us hl => match us, hl with | [_], _ => rfl) fun cdv A outer s H E hr => ?_
  have hu := room65 hr
  have h70 := room70 hr
  have nd := sc_is_schedule.nd
  exact (sCons (sIf (L2.PW.pt (wOr (dTNot (dT (dIsi "tuple" (dv 0) T.b_isinstance T.b_tuple bt_tuple))) (wOr (dTCmp bNe (oNe hu) (dCallB cLen T.b_len bt_len (aCons (dv 0) aNil)) dInt (nomark _)) (wOr1 (dTNot (dT (dCall (G_in_range) (hr.mono (by decide)) (psd_of cxTk) (aCons (dIx oIxD (dv 0) dInt) (aCons dInt (aCons (dG T.c_MAX_PLAYERS) aNil))))))))))
      (sCons (sRet dBl)
      sNil)
      sNil)
      (sCons (sIf (L2.PW.pt (wOr (dTNot (dT (dIsi "tuple" (dIx oIxD (dv 0) dInt) T.b_isinstance T.b_tuple bt_tuple))) (wOr1 (dT (dFr (lLc (own := [("match", 1)]) ⟨(iJ (iSq (dIx oIxD (dv 0) dInt))), blkOk_by (by kernel_rfl), ⟨[1], by decide, fun _ _ _ _ _ => (tgN 1 nd)⟩, fun _ _ _ _ _ => (pIf1 (dTNot (dT (dCall (G_is_match) (hr.mono (by decide)) psd0 (aCons (dIx oIxD (dv 0) dInt) (aCons (dv 1) aNil)))))), fun _ _ _ _ _ => (dv 1)⟩ nd))))))
      (sCons (sRet dBl)
      sNil)
      sNil)
      (sCons (sRet (dNot (dFr (lLc (own := [("match", 1), ("other", 2)]) ⟨(iJ (iZp T.b_zip (aCons (dIx oIxD (dv 0) dInt) (aCons (dSl (dIx oIxD (dv 0) dInt) (p1 dInt) p0) aNil)))), blkOk_by (by kernel_rfl), ⟨([1] ++ ([2] ++ [])), by decide, fun _ _ _ _ _ => (tgT (tg1 (tgN 1 nd) (tg1 (tgN 2 nd) tg0)) (gs1_len (gs1_len gs0_len)))⟩, fun _ _ _ _ _ => (pIf1 (dTCmp bGe (oGe hu) (dSl (dv 1) p0 (p1 dInt)) (dSl (dv 2) p0 (p1 dInt)) (nomark _))), fun _ _ _ _ _ => dInt⟩ nd))))
      sNil)))

abbrev st_check_schedule : Stmt := topS 26
theorem sc_check_schedule : FnScope ["schedule"] ["schedule"] (defScope st_check_schedule) := ⟨rfl, rfl, rfl, by decide +kernel, rfl, by decide +kernel, by decide +kernel⟩
theorem ok_check_schedule (T : Txt K mg) (G_is_schedule : Def P w K mg base "is_schedule" 1 4 f_is_schedule) : Def P w K mg base "check_schedule" 1 5 f_check_schedule := by
  obtain ⟨a, fd, F, hm⟩ := T.d_check_schedule
  refine mkDef (k := 4) (g := g_check_schedule) F sc_check_schedule hm (F.binds fun _ _ _ _ _ _ us hl => match us, hl with | [_], _ => rfl) fun cdv A outer s H E hr => ?_
  have hu := room65 hr
  have h70 := room70 hr
  have nd := sc_check_schedule.nd
  exact (sCons (sIf (dTNot (dT (dCall (G_is_schedule) (hr.mono (by decide)) (psd_of cxTk) (aCons (dv 0) aNil))))
      (sCons (sRaise T.x_InvalidSchedule cxTk)
      sNil)
      sNil)
      sNil)

abbrev st_check_index : Stmt := topS 27
theorem sc_check_index : FnScope ["schedule", "index"] ["schedule", "index"] (defScope st_check_index) := ⟨rfl, rfl, rfl, by decide +kernel, rfl, by decide +kernel, by decide +kernel⟩
theorem ok_check_index (T : Txt K mg) (G_check_schedule : Def P w K mg base "check_schedule" 1 5 f_check_schedule) (G_in_range : Def P w K mg base "in_range" 3 2 f_in_range) : Def P w K mg base "check_index" 2 6 f_check_index := by
  obtain ⟨a, fd, F, hm⟩ := T.d_check_index
  refine mkDef (k := 5) (g := g_check_index) F sc_check_index hm (F.binds fun _ _ _ _ _ _ us hl => match us, hl with | [_, _], _ => rfl) fun cdv A outer s H E hr => ?_
  have hu := room65 hr
  have h70 := room70 hr
  have nd := sc_check_index.nd
  exact (sCons (sEx (dCall (G_check_schedule) (hr.mono (by decide)) (psd_of cxTk) (aCons (dv 0) aNil)))
      (sCons (sIf (dTNot (dT (dCall (G_in_range) (hr.mono (by decide)) (psd_of cxTk) (aCons (dv 1) (aCons dInt (aCons (dOp oSub (dCallB cLen T.b_len bt_len (aCons (dIx oIxD (dv 0) dInt) aNil)) dInt) aNil))))))
      (sCons (sRaise T.x_InvalidMatch cxTk)
      sNil)
      sNil)
      sNil))

abbrev st_groups_of : Stmt := topS 28
theorem sc_groups_of : FnScope ["schedule", "marks", "left", "right", "weight", "low", "high", "mark", "player"] ["schedule"] (defScope st_groups_of) := ⟨rfl, rfl, rfl, by decide +kernel, rfl, by decide +kernel, by decide +kernel⟩
theorem ok_groups_of (T : Txt K mg)  : Def P w K mg base "groups_of" 1 1 f_groups_of := by
  obtain ⟨a, fd, F, hm⟩ := T.d_groups_of
  refine mkDef (k := 0) (g := g_groups_of) F sc_groups_of hm (F.binds fun _ _ _ _ _ _ us hl => match us, hl with | [_], _ => rfl) fun cdv A outer s H E hr => ?_
  have hu := room65 hr
  have h70 := room70 hr
  have nd := sc_groups_of.nd
  exact (sCons (sSet 1 (dFr (lLr (dIx oIxD (dv 0) dInt) T.b_list T.b_range)) nd)
      (sCons (sFor (iSq (dIx oIxD (dv 0) dInt)) (tgT (tg1 (tgN 2 nd) (tg1 (tgN 3 nd) (tg1 (tgN 4 nd) tg0))) (gs1_len (gs1_len (gs1_len gs0_len))))
      (sCons (sAsg (dTup (aCons (dCallB (cMin rfl) T.b_min bt_min (aCons (dIx oIxD (dv 1) (dv 2)) (aCons (dIx oIxD (dv 1) (dv 3)) aNil))) (aCons (dCallB (cMax rfl) T.b_max bt_max (aCons (dIx oIxD (dv 1) (dv 2)) (aCons (dIx oIxD (dv 1) (dv 3)) aNil))) aNil))) (tgT (tg1 (tgN 5 nd) (tg1 (tgN 6 nd) tg0)) (gs1_len (gs1_len gs0_len))))
      (sCons (sSet 1 (dFr (lLc (own := [("mark", 7)]) ⟨(iJ (iSq (dv 1))), blkOk_by (by kernel_rfl), ⟨[7], by decide, fun _ _ _ _ _ => (tgN 7 nd)⟩, fun _ _ _ _ _ => (pYes rfl), fun _ _ _ _ _ => (dIf (dTCmp bEq (oEq hu) (dv 7) (dv 6) (nomark _)) (dv 5) (dv 7))⟩ nd)) nd)
      sNil)) cxPo)
      (sCons (sRet (dFr (lLc (own := [("mark", 7)]) ⟨(iJ (iSq (dSortSet (dv 1) T.b_sorted T.b_set))), blkOk_by (by kernel_rfl), ⟨[7], by decide, fun _ _ _ _ _ => (tgN 7 nd)⟩, fun _ _ _ _ _ => (pYes rfl), fun _ _ _ _ _ => (dFr (lLc (own := [("player", 8)]) ⟨(iJ (iRg1 T.b_range (aCons (dIx oIxD (dv 0) dInt) aNil))), blkOk_by (by kernel_rfl), ⟨[8], by decide, fun _ _ _ _ _ => (tgN 8 nd)⟩, fun _ _ _ _ _ => (pIf1 (dTCmp bEq (oEq hu) (dIx oIxD (dv 1) (dv 8)) (dv 7) (nomark _))), fun _ _ _ _ _ => (dv 8)⟩ nd))⟩ nd)))
      sNil)))

abbrev st_match_index : Stmt := topS 29
theorem sc_match_index : FnScope ["schedule", "left", "right", "pair", "found", "index", "match"] ["schedule", "left", "right"] (defScope st_match_index) := ⟨rfl, rfl, rfl, by decide +kernel, rfl, by decide +kernel, by decide +kernel⟩
theorem ok_match_index (T : Txt K mg)  : Def P w K mg base "match_index" 3 1 f_match_index := by
  obtain ⟨a, fd, F, hm⟩ := T.d_match_index
  refine mkDef (k := 0) (g := g_match_index) F sc_match_index hm (F.binds fun _ _ _ _ _ _ us hl => match us, hl with | [_, _, _], _ => rfl) fun cdv A outer s H E hr => ?_
  have hu := room65 hr
  have h70 := room70 hr
  have nd := sc_match_index.nd
  exact (sCons (sSet 3 (dTup (aCons (dCallB (cMin rfl) T.b_min bt_min (aCons (dv 1) (aCons (dv 2) aNil))) (aCons (dCallB (cMax rfl) T.b_max bt_max (aCons (dv 1) (aCons (dv 2) aNil))) aNil))) nd)
      (sCons (sSetLc 4 (own := [("index", 5), ("match", 6)]) ⟨(iJ (iEn T.b_enumerate (aCons (dIx oIxD (dv 0) dInt) aNil))), blkOk_by (by kernel_rfl), ⟨([5] ++ ([6] ++ [])), by decide, fun _ _ _ _ _ => (tgT (tg1 (tgN 5 nd) (tg1 (tgN 6 nd) tg0)) (gs1_len (gs1_len gs0_len)))⟩, fun _ _ _ _ _ => (pIf1 (dTCmp bEq (oEq hu) (dSl (dv 6) p0 (p1 dInt)) (dv 3) (nomark _))), fun _ _ _ _ _ => (dv 5)⟩ nd (sw_true rfl rfl rfl (by decide +kernel)))
      (sFrz 4 (sCons (sRet (dIf (dT (dv 4)) (dIx oIxD (dv 4) dInt) dNon))
      sNil))))

abbrev st_without_match : Stmt := topS 30
theorem sc_without_match : FnScope ["schedule", "index"] ["schedule", "index"] (defScope st_without_match) := ⟨rfl, rfl, rfl, by decide +kernel, rfl, by decide +kernel, by decide +kernel⟩
theorem ok_without_match (T : Txt K mg)  : Def P w K mg base "without_match" 2 1 f_without_match := by
  obtain ⟨a, fd, F, hm⟩ := T.d_without_match
  refine mkDef (k := 0) (g := g_without_match) F sc_without_match hm (F.binds fun _ _ _ _ _ _ us hl => match us, hl with | [_, _], _ => rfl) fun cdv A outer s H E hr => ?_
  have hu := room65 hr
  have h70 := room70 hr
  have nd := sc_without_match.nd
  exact (sCons (sRet (dTup (aCons (dIx oIxD (dv 0) dInt) (aCons (dOp oAdd (dSl (dIx oIxD (dv 0) dInt) p0 (p1 (dv 1))) (dSl (dIx oIxD (dv 0) dInt) (p1 (dOp oAdd (dv 1) dInt)) p0)) aNil))))
      sNil)

abbrev st_bridges : Stmt := topS 31
theorem sc_bridges : FnScope ["schedule", "count", "index"] ["schedule"] (defScope st_bridges) := ⟨rfl, rfl, rfl, by decide +kernel, rfl, by decide +kernel, by decide +kernel⟩
theorem ok_bridges (T : Txt K mg) (G_check_schedule : Def P w K mg base "check_schedule" 1 5 f_check_schedule) (G_groups_of : Def P w K mg base "groups_of" 1 1 f_groups_of) (G_without_match : Def P w K mg base "without_match" 2 1 f_without_match) : Def P w K mg base "bridges" 1 6 f_bridges := by
  obtain ⟨a, fd, F, hm⟩ := T.d_bridges
  refine mkDef (k := 5) (g := g_bridges) F sc_bridges hm (F.binds fun _ _ _ _ _ _ us hl => match us, hl with | [_], _ => rfl) fun cdv A outer s H E hr => ?_
  have hu := room65 hr
  have h70 := room70 hr
  have nd := sc_bridges.nd
  exact (sCons (sEx (dCall (G_check_schedule) (hr.mono (by decide)) (psd_of cxTk) (aCons (dv 0) aNil)))
      (sCons (sSet 1 (dCallB cLen T.b_len bt_len (aCons (dCall (G_groups_of) (hr.mono (by decide)) (psd_of cxTk) (aCons (dv 0) aNil)) aNil)) nd)
      (sCons (sRet (dFr (lLc (own := [("index", 2)]) ⟨(iJ (iRg1 T.b_range (aCons (dCallB cLen T.b_len bt_len (aCons (dIx oIxD (dv 0) dInt) aNil)) aNil))), blkOk_by (by kernel_rfl), ⟨[2], by decide, fun _ _ _ _ _ => (tgN 2 nd)⟩, fun _ _ _ _ _ => (pIf1 (dTCmp bGt oGt (dCallB cLen T.b_len bt_len (aCons (dCall (G_groups_of) (hr.mono (by decide)) psd0 (aCons (dCall (G_without_match) (hr.mono (by decide)) psd0 (aCons (dv 0) (aCons (dv 2) aNil))) aNil)) aNil)) (dv 1) (nomark _))), fun _ _ _ _ _ => (dv 2)⟩ nd)))
      sNil)))

abbrev st_is_margins : Stmt := topS 33
theorem sc_is_margins : FnScope ["schedule", "value", "number"] ["schedule", "value"] (defScope st_is_margins) := ⟨rfl, rfl, rfl, by decide +kernel, rfl, by decide +kernel, by decide +kernel⟩
theorem ok_is_margins (T : Txt K mg) (G_is_rational : Def P w K mg base "is_rational" 1 2 f_is_rational) : Def P w K mg base "is_margins" 2 3 f_is_margins := by
  obtain ⟨a, fd, F, hm⟩ := T.d_is_margins
  refine mkDef (k := 2) (g := g_is_margins) F sc_is_margins hm (F.binds fun _ _ _ _ _ _ us hl => match us, hl with | [_, _], _ => rfl) fun cdv A outer s H E hr => ?_
  have hu := room65 hr
  have h70 := room70 hr
  have nd := sc_is_margins.nd
  exact (sCons (sIf (L2.PW.pt (wOr (dTNot (dT (dIsi "tuple" (dv 1) T.b_isinstance T.b_tuple bt_tuple))) (wOr1 (dTCmp bNe (oNe hu) (dCallB cLen T.b_len bt_len (aCons (dv 1) aNil)) (dCallB cLen T.b_len bt_len (aCons (dIx oIxD (dv 0) dInt) aNil)) (nomark _)))))
      (sCons (sRet dBl)
      sNil)
      sNil)
      (sCons (sRet (dNot (dFr (lLc (own := [("number", 2)]) ⟨(iJ (iSq (dv 1))), blkOk_by (by kernel_rfl), ⟨[2], by decide, fun _ _ _ _ _ => (tgN 2 nd)⟩, fun _ _ _ _ _ => (pIf1 (dTNot (dT (dCall (G_is_rational) (hr.mono (by decide)) psd0 (aCons (dv 2) aNil))))), fun _ _ _ _ _ => (dv 2)⟩ nd))))
      sNil))

abbrev st_check_margins : Stmt := topS 34
theorem sc_check_margins : FnScope ["schedule", "margins"] ["schedule", "margins"] (defScope st_check_margins) := ⟨rfl, rfl, rfl, by decide +kernel, rfl, by decide +kernel, by decide +kernel⟩
theorem ok_check_margins (T : Txt K mg) (G_check_schedule : Def P w K mg base "check_schedule" 1 5 f_check_schedule) (G_is_margins : Def P w K mg base "is_margins" 2 3 f_is_margins) : Def P w K mg base "check_margins" 2 6 f_check_margins := by
  obtain ⟨a, fd, F, hm⟩ := T.d_check_margins
  refine mkDef (k := 5) (g := g_check_margins) F sc_check_margins hm (F.binds fun _ _ _ _ _ _ us hl => match us, hl with | [_, _], _ => rfl) fun cdv A outer s H E hr => ?_
  have hu := room65 hr
  have h70 := room70 hr
  have nd := sc_check_margins.nd
  exact (sCons (sEx (dCall (G_check_schedule) (hr.mono (by decide)) (psd_of cxTk) (aCons (dv 0) aNil)))
      (sCons (sIf (dTNot (dT (dCall (G_is_margins) (hr.mono (by decide)) (psd_of cxTk) (aCons (dv 0) (aCons (dv 1) aNil)))))
      (sCons (sRaise T.x_InvalidMargins cxTk)
      sNil)
      sNil)
      sNil))

abbrev st_surplus_of : Stmt := topS 35
theorem sc_surplus_of : FnScope ["schedule", "margins", "result", "left", "right", "weight", "margin", "part"] ["schedule", "margins"] (defScope st_surplus_of) := ⟨rfl, rfl, rfl, by decide +kernel, rfl, by decide +kernel, by decide +kernel⟩
theorem ok_surplus_of (T : Txt K mg) (G_multiply : Def P w K mg base "multiply" 2 3 f_multiply) (G_add : Def P w K mg base "add" 2 3 f_add) (G_subtract : Def P w K mg base "subtract" 2 3 f_subtract) : Def P w K mg base "surplus_of" 2 4 f_surplus_of := by
  obtain ⟨a, fd, F, hm⟩ := T.d_surplus_of
  refine mkDef (k := 3) (g := g_surplus_of) F sc_surplus_of hm (F.binds fun _ _ _ _ _ _ us hl => match us, hl with | [_, _], _ => rfl) fun cdv A outer s H E hr => ?_
  have hu := room65 hr
  have h70 := room70 hr
  have nd := sc_surplus_of.nd
  exact (sCons (sSetO 2 (lRep (lLst (aCons (dG T.c_ZERO) aNil)) (dIx oIxD (dv 0) dInt)) nd)
      (sCons (sFor (iZp T.b_zip (aCons (dIx oIxD (dv 0) dInt) (aCons (dv 1) aNil))) (tgT (tg1 (tgT (tg1 (tgN 3 nd) (tg1 (tgN 4 nd) (tg1 (tgN 5 nd) tg0))) (gs1_len (gs1_len (gs1_len gs0_len)))) (tg1 (tgN 6 nd) tg0)) (gs1_len (gs1_len gs0_len)))
      (sCons (sSet 7 (dCall (G_multiply) (hr.mono (by decide)) (psd_of cxTk) (aCons (dTup (aCons (dv 5) (aCons dInt aNil))) (aCons (dv 6) aNil))) nd)
      (sCons (oPut 2 (dCall (G_add) (hr.mono (by decide)) (psd_of cxTk) (aCons (oIx 2 (dv 3)) (aCons (dv 7) aNil))) (dv 3))
      (sCons (oPut 2 (dCall (G_subtract) (hr.mono (by decide)) (psd_of cxTk) (aCons (oIx 2 (dv 4)) (aCons (dv 7) aNil))) (dv 4))
      sNil))) cxPo)
      (sFrz 2 (sCons (sRet (dv 2))
      sNil))))

abbrev st_margin_of : Stmt := topS 36
theorem sc_margin_of : FnScope ["schedule", "margins", "left", "right", "margin"] ["schedule", "margins", "left", "right"] (defScope st_margin_of) := ⟨rfl, rfl, rfl, by decide +kernel, rfl, by decide +kernel, by decide +kernel⟩
theorem ok_margin_of (T : Txt K mg) (G_match_index : Def P w K mg base "match_index" 3 1 f_match_index) : Def P w K mg base "margin_of" 4 2 f_margin_of := by
  obtain ⟨a, fd, F, hm⟩ := T.d_margin_of
  refine mkDef (k := 1) (g := g_margin_of) F sc_margin_of hm (F.binds fun _ _ _ _ _ _ us hl => match us, hl with | [_, _, _, _], _ => rfl) fun cdv A outer s H E hr => ?_
  have hu := room65 hr
  have h70 := room70 hr
  have nd := sc_margin_of.nd
  exact (sCons (sSet 4 (dIx oIxD (dv 1) (dCall (G_match_index) (hr.mono (by decide)) (psd_of cxTk) (aCons (dv 0) (aCons (dv 2) (aCons (dv 3) aNil))))) nd)
      (sCons (sRet (dIf (dTCmp bLt (oLt hu) (dv 2) (dv 3) (nomark _)) (dv 4) (dTup (aCons (dUn oNeg (dIx oIxD (dv 4) dInt)) (aCons (dIx oIxD (dv 4) dInt) aNil)))))
      sNil))

abbrev st_reach : Stmt := topS 37
theorem sc_reach : FnScope ["schedule", "margins", "start", "found", "queue", "player", "other", "path", "much"] ["schedule", "margins", "start"] (defScope st_reach) := ⟨rfl, rfl, rfl, by decide +kernel, rfl, by decide +kernel, by decide +kernel⟩
theorem ok_reach (T : Txt K mg) (G_match_index : Def P w K mg base "match_index" 3 1 f_match_index) (G_margin_of : Def P w K mg base "margin_of" 4 2 f_margin_of) (G_add : Def P w K mg base "add" 2 3 f_add) : Def P w K mg base "reach" 3 4 f_reach := by
  obtain ⟨a, fd, F, hm⟩ := T.d_reach
  refine mkDef (k := 3) (g := g_reach) F sc_reach hm (F.binds fun _ _ _ _ _ _ us hl => match us, hl with | [_, _, _], _ => rfl) fun cdv A outer s H E hr => ?_
  have hu := room65 hr
  have h70 := room70 hr
  have nd := sc_reach.nd
  exact (sCons (sSetK 3 (dv 2) (dTup (aCons (dFr (lLst (aCons (dv 2) aNil))) (aCons (dG T.c_ZERO) aNil))) nd)
      (sCons (sSetO 4 (lLst (aCons (dv 2) aNil)) nd)
      (sCons (sWh (oTr 4)
      (sCons (oPop 5 4 dInt nd)
      (sCons (sFor (iRg1 T.b_range (aCons (dIx oIxD (dv 0) dInt) aNil)) (tgN 6 nd)
      (sCons (sIf (L2.PW.pt (wAnd (kNin 3 hu (dv 6)) (wAnd (dTCmp bNe (oNe hu) (dv 6) (dv 5) (nomark _)) (wAnd1 (dTCmp bNot oIsNot (dCall (G_match_index) (hr.mono (by decide)) (psd_of cxTk) (aCons (dv 0) (aCons (dv 5) (aCons (dv 6) aNil)))) dNon (nomark _))))))
      (sCons (sAsg (kIx 3 hu (dv 5)) (tgT (tg1 (tgN 7 nd) (tg1 (tgN 8 nd) tg0)) (gs1_len (gs1_len gs0_len))))
      (sCons (kPut 3 hu (dTup (aCons (dOp oAdd (dv 7) (dFr (lLst (aCons (dv 6) aNil)))) (aCons (dCall (G_add) (hr.mono (by decide)) (psd_of cxTk) (aCons (dv 8) (aCons (dCall (G_margin_of) (hr.mono (by decide)) (psd_of cxTk) (aCons (dv 0) (aCons (dv 1) (aCons (dv 5) (aCons (dv 6) aNil))))) aNil))) aNil))) (dv 6))
      (sCons (oApp 4 (dv 6))
      sNil)))
      sNil)
      sNil) cxPo)
      sNil)) cxPo)
      (sFrzK 3 (sCons (sRet (dv 3))
      sNil)))))

abbrev st_joined : Stmt := topS 39
theorem sc_joined : FnScope ["one", "other", "shared"] ["one", "other"] (defScope st_joined) := ⟨rfl, rfl, rfl, by decide +kernel, rfl, by decide +kernel, by decide +kernel⟩
theorem ok_joined (T : Txt K mg)  : Def P w K mg base "joined" 2 1 f_joined := by
  obtain ⟨a, fd, F, hm⟩ := T.d_joined
  refine mkDef (k := 0) (g := g_joined) F sc_joined hm (F.binds fun _ _ _ _ _ _ us hl => match us, hl with | [_, _], _ => rfl) fun cdv A outer s H E hr => ?_
  have hu := room65 hr
  have h70 := room70 hr
  have nd := sc_joined.nd
  exact (sCons (sSet 2 dInt nd)
      (sCons (sWh (L2.PW.pt (wAnd (dTCmp bLt (oLt hu) (dv 2) (dCallB (cMin rfl) T.b_min bt_min (aCons (dCallB cLen T.b_len bt_len (aCons (dv 0) aNil)) (aCons (dCallB cLen T.b_len bt_len (aCons (dv 1) aNil)) aNil))) (nomark _)) (wAnd1 (dTCmp bEq (oEq hu) (dIx oIxD (dv 0) (dv 2)) (dIx oIxD (dv 1) (dv 2)) (nomark _)))))
      (sCons (sAug 2 dInt nd)
      sNil) cxPo)
      (sCons (sRet (dOp oAdd (dSl (dv 0) (p1 (dOp oSub (dv 2) dInt)) p0) (dFr (lRv (dSl (dv 1) (p1 (dv 2)) p0)))))
      sNil)))

abbrev st_contradiction : Stmt := topS 38
theorem sc_contradiction : FnScope ["schedule", "margins", "start", "found", "left", "right", "weight", "margin"] ["schedule", "margins"] (defScope st_contradiction) := ⟨rfl, rfl, rfl, by decide +kernel, rfl, by decide +kernel, by decide +kernel⟩
theorem ok_contradiction (T : Txt K mg) (G_reach : Def P w K mg base "reach" 3 4 f_reach) (G_add : Def P w K mg base "add" 2 3 f_add) (G_joined : Def P w K mg base "joined" 2 1 f_joined) : Def P w K mg base "contradiction" 2 5 f_contradiction := by
  obtain ⟨a, fd, F, hm⟩ := T.d_contradiction
  refine mkDef (k := 4) (g := g_contradiction) F sc_contradiction hm (F.binds fun _ _ _ _ _ _ us hl => match us, hl with | [_, _], _ => rfl) fun cdv A outer s H E hr => ?_
  have hu := room65 hr
  have h70 := room70 hr
  have nd := sc_contradiction.nd
  exact (sCons (sFor (iRg1 T.b_range (aCons (dIx oIxD (dv 0) dInt) aNil)) (tgN 2 nd)
      (sCons (sSet 3 (dCall (G_reach) (hr.mono (by decide)) (psd_of cxTk) (aCons (dv 0) (aCons (dv 1) (aCons (dv 2) aNil)))) nd)
      (sCons (sFor (iZp T.b_zip (aCons (dIx oIxD (dv 0) dInt) (aCons (dv 1) aNil))) (tgT (tg1 (tgT (tg1 (tgN 4 nd) (tg1 (tgN 5 nd) (tg1 (tgN 6 nd) tg0))) (gs1_len (gs1_len (gs1_len gs0_len)))) (tg1 (tgN 7 nd) tg0)) (gs1_len (gs1_len gs0_len)))
      (sCons (sIf (L2.PW.pt (wAnd (dKin hu (dv 4) (dv 3)) (wAnd1 (dTCmp bNe (oNe hu) (dCall (G_add) (hr.mono (by decide)) (psd_of cxTk) (aCons (dIx oIxD (dKix hu (dv 3) (dv 4)) dInt) (aCons (dv 7) aNil))) (dIx oIxD (dKix hu (dv 3) (dv 5)) dInt) (nomark _)))))
      (sCons (sRet (dCall (G_joined) (hr.mono (by decide)) (psd_of cxTk) (aCons (dIx oIxD (dKix hu (dv 3) (dv 4)) dInt) (aCons (dIx oIxD (dKix hu (dv 3) (dv 5)) dInt) aNil))))
      sNil)
      sNil)
      sNil) cxPo)
      sNil)) cxPo)
      (sCons (sRet dNon)
      sNil))

abbrev st_is_consistent : Stmt := topS 40
theorem sc_is_consistent : FnScope ["schedule", "margins"] ["schedule", "margins"] (defScope st_is_consistent) := ⟨rfl, rfl, rfl, by decide +kernel, rfl, by decide +kernel, by decide +kernel⟩
theorem ok_is_consistent (T : Txt K mg) (G_check_margins : Def P w K mg base "check_margins" 2 6 f_check_margins) (G_contradiction : Def P w K mg base "contradiction" 2 5 f_contradiction) : Def P w K mg base "is_consistent" 2 7 f_is_consistent := by
  obtain ⟨a, fd, F, hm⟩ := T.d_is_consistent
  refine mkDef (k := 6) (g := g_is_consistent) F sc_is_consistent hm (F.binds fun _ _ _ _ _ _ us hl => match us, hl with | [_, _], _ => rfl) fun cdv A outer s H E hr => ?_
  have hu := room65 hr
  have h70 := room70 hr
  have nd := sc_is_consistent.nd
  exact (sCons (sEx (dCall (G_check_margins) (hr.mono (by decide)) (psd_of cxTk) (aCons (dv 0) (aCons (dv 1) aNil))))
      (sCons (sRet (dCmp oIs (dCall (G_contradiction) (hr.mono (by decide)) (psd_of cxTk) (aCons (dv 0) (aCons (dv 1) aNil))) dNon (nomark _)))
      sNil))

abbrev st_balance_rows : Stmt := topS 42
theorem sc_balance_rows : FnScope ["schedule", "sides", "rows", "left", "right", "weight", "one", "other", "group", "player"] ["schedule", "sides"] (defScope st_balance_rows) := ⟨rfl, rfl, rfl, by decide +kernel, rfl, by decide +kernel, by decide +kernel⟩
theorem ok_balance_rows (T : Txt K mg) (G_add : Def P w K mg base "add" 2 3 f_add) (G_subtract : Def P w K mg base "subtract" 2 3 f_subtract) (G_groups_of : Def P w K mg base "groups_of" 1 1 f_groups_of) : Def P w K mg base "balance_rows" 2 4 f_balance_rows := by
  obtain ⟨a, fd, F, hm⟩ := T.d_balance_rows
  refine mkDef (k := 3) (g := g_balance_rows) F sc_balance_rows hm (F.binds fun _ _ _ _ _ _ us hl => match us, hl with | [_, _], _ => rfl) fun cdv A outer s H E hr => ?_
  have hu := room65 hr
  have h70 := room70 hr
  have nd := sc_balance_rows.nd
  exact (sCons (sSetLcM 2 (own := [("player", 9)]) ⟨(iJ (iRg1 T.b_range (aCons (dIx oIxD (dv 0) dInt) aNil))), blkOk_by (by kernel_rfl), ⟨[9], by decide, fun _ _ _ _ _ => (tgN 9 nd)⟩, fun _ _ _ _ _ => (lCat (lRep (lLst (aCons (dG T.c_ZERO) aNil)) (dIx oIxD (dv 0) dInt)) (lLst (aCons (dIx oIxD (dv 1) (dv 9)) aNil)))⟩ nd (sw_true rfl rfl rfl (by decide +kernel)))
      (sCons (sFor (iSq (dIx oIxD (dv 0) dInt)) (tgT (tg1 (tgN 3 nd) (tg1 (tgN 4 nd) (tg1 (tgN 5 nd) tg0))) (gs1_len (gs1_len (gs1_len gs0_len))))
      (sCons (sFor (iSq (dTup (aCons (dTup (aCons (dv 3) (aCons (dv 4) aNil))) (aCons (dTup (aCons (dv 4) (aCons (dv 3) aNil))) aNil)))) (tgT (tg1 (tgN 6 nd) (tg1 (tgN 7 nd) tg0)) (gs1_len (gs1_len gs0_len)))
      (sCons (mPut 2 (dCall (G_add) (hr.mono (by decide)) (psd_of cxTk) (aCons (mIx 2 (dv 6) (dv 6)) (aCons (dTup (aCons (dv 5) (aCons dInt aNil))) aNil))) (dv 6) (dv 6))
      (sCons (mPut 2 (dCall (G_subtract) (hr.mono (by decide)) (psd_of cxTk) (aCons (mIx 2 (dv 6) (dv 7)) (aCons (dTup (aCons (dv 5) (aCons dInt aNil))) aNil))) (dv 6) (dv 7))
      sNil)) cxPo)
      sNil) cxPo)
      (sCons (sFor (iSq (dCall (G_groups_of) (hr.mono (by decide)) (psd_of cxTk) (aCons (dv 0) aNil))) (tgN 8 nd)
      (sCons (mApp 2 (lCat (lLc (own := [("player", 9)]) ⟨(iJ (iRg1 T.b_range (aCons (dIx oIxD (dv 0) dInt) aNil))), blkOk_by (by kernel_rfl), ⟨[9], by decide, fun _ _ _ _ _ => (tgN 9 nd)⟩, fun _ _ _ _ _ => (pYes rfl), fun _ _ _ _ _ => (dIf (dTCmp bIn (oIn hu) (dv 9) (dv 8) (by rfl)) (dG T.c_ONE) (dG T.c_ZERO))⟩ nd) (lLst (aCons (dG T.c_ZERO) aNil))))
      sNil) cxPo)
      (sFrzM 2 (sCons (sRet (dv 2))
      sNil)))))

abbrev st_fitted : Stmt := topS 43
theorem sc_fitted : FnScope ["schedule", "margins"] ["schedule", "margins"] (defScope st_fitted) := ⟨rfl, rfl, rfl, by decide +kernel, rfl, by decide +kernel, by decide +kernel⟩
theorem ok_fitted (T : Txt K mg) (G_surplus_of : Def P w K mg base "surplus_of" 2 4 f_surplus_of) (G_balance_rows : Def P w K mg base "balance_rows" 2 4 f_balance_rows) (G_solve : Def P w K mg base "solve" 2 6 f_solve) : Def P w K mg base "fitted" 2 7 f_fitted := by
  obtain ⟨a, fd, F, hm⟩ := T.d_fitted
  refine mkDef (k := 6) (g := g_fitted) F sc_fitted hm (F.binds fun _ _ _ _ _ _ us hl => match us, hl with | [_, _], _ => rfl) fun cdv A outer s H E hr => ?_
  have hu := room65 hr
  have h70 := room70 hr
  have nd := sc_fitted.nd
  exact (sCons (sRet (dCallT cTup T.b_tuple bt_tuple (aCons (dCall (G_solve) (hr.mono (by decide)) (psd_of cxTk) (aCons (dCall (G_balance_rows) (hr.mono (by decide)) (psd_of cxTk) (aCons (dv 0) (aCons (dCall (G_surplus_of) (hr.mono (by decide)) (psd_of cxTk) (aCons (dv 0) (aCons (dv 1) aNil))) aNil))) (aCons (dIx oIxD (dv 0) dInt) aNil))) aNil)))
      sNil)

abbrev st_differences_of : Stmt := topS 44
theorem sc_differences_of : FnScope ["schedule", "values", "left", "right", "weight"] ["schedule", "values"] (defScope st_differences_of) := ⟨rfl, rfl, rfl, by decide +kernel, rfl, by decide +kernel, by decide +kernel⟩
theorem ok_differences_of (T : Txt K mg) (G_subtract : Def P w K mg base "subtract" 2 3 f_subtract) : Def P w K mg base "differences_of" 2 4 f_differences_of := by
  obtain ⟨a, fd, F, hm⟩ := T.d_differences_of
  refine mkDef (k := 3) (g := g_differences_of) F sc_differences_of hm (F.binds fun _ _ _ _ _ _ us hl => match us, hl with | [_, _], _ => rfl) fun cdv A outer s H E hr => ?_
  have hu := room65 hr
  have h70 := room70 hr
  have nd := sc_differences_of.nd
  exact (sCons (sRet (dCallT cTup T.b_tuple bt_tuple (aCons (dFr (lLc (own := [("left", 2), ("right", 3), ("weight", 4)]) ⟨(iJ (iSq (dIx oIxD (dv 0) dInt))), blkOk_by (by kernel_rfl), ⟨([2] ++ ([3] ++ ([4] ++ []))), by decide, fun _ _ _ _ _ => (tgT (tg1 (tgN 2 nd) (tg1 (tgN 3 nd) (tg1 (tgN 4 nd) tg0))) (gs1_len (gs1_len (gs1_len gs0_len))))⟩, fun _ _ _ _ _ => (pYes rfl), fun _ _ _ _ _ => (dCall (G_subtract) (hr.mono (by decide)) psd0 (aCons (dIx oIxD (dv 1) (dv 2)) (aCons (dIx oIxD (dv 1) (dv 3)) aNil)))⟩ nd)) aNil)))
      sNil)

abbrev st_left_out_of : Stmt := topS 46
theorem sc_left_out_of : FnScope ["schedule", "margins", "index", "left", "right", "weight", "others", "values", "group"] ["schedule", "margins", "index"] (defScope st_left_out_of) := ⟨rfl, rfl, rfl, by decide +kernel, rfl, by decide +kernel, by decide +kernel⟩
theorem ok_left_out_of (T : Txt K mg) (G_without_match : Def P w K mg base "without_match" 2 1 f_without_match) (G_groups_of : Def P w K mg base "groups_of" 1 1 f_groups_of) (G_fitted : Def P w K mg base "fitted" 2 7 f_fitted) (G_subtract : Def P w K mg base "subtract" 2 3 f_subtract) : Def P w K mg base "left_out_of" 3 8 f_left_out_of := by
  obtain ⟨a, fd, F, hm⟩ := T.d_left_out_of
  refine mkDef (k := 7) (g := g_left_out_of) F sc_left_out_of hm (F.binds fun _ _ _ _ _ _ us hl => match us, hl with | [_, _, _], _ => rfl) fun cdv A outer s H E hr => ?_
  have hu := room65 hr
  have h70 := room70 hr
  have nd := sc_left_out_of.nd
  exact (sCons (sAsg (dIx oIxD (dIx oIxD (dv 0) dInt) (dv 2)) (tgT (tg1 (tgN 3 nd) (tg1 (tgN 4 nd) (tg1 (tgN 5 nd) tg0))) (gs1_len (gs1_len (gs1_len gs0_len)))))
      (sCons (sSet 6 (dCall (G_without_match) (hr.mono (by decide)) (psd_of cxTk) (aCons (dv 0) (aCons (dv 2) aNil))) nd)
      (sCons (sIf (dTNot (dT (dFr (lLc (own := [("group", 8)]) ⟨(iJ (iSq (dCall (G_groups_of) (hr.mono (by decide)) (psd_of cxTk) (aCons (dv 6) aNil)))), blkOk_by (by kernel_rfl), ⟨[8], by decide, fun _ _ _ _ _ => (tgN 8 nd)⟩, fun _ _ _ _ _ => (pIf1 (L2.PW.pt (wAnd (dTCmp bIn (oIn hu) (dv 3) (dv 8) (by rfl)) (wAnd1 (dTCmp bIn (oIn hu) (dv 4) (dv 8) (by rfl)))))), fun _ _ _ _ _ => (dv 8)⟩ nd))))
      (sCons (sRet dNon)
      sNil)
      sNil)
      (sCons (sSet 7 (dCall (G_fitted) (hr.mono (by decide)) (psd_of cxTk) (aCons (dv 6) (aCons (dOp oAdd (dSl (dv 1) p0 (p1 (dv 2))) (dSl (dv 1) (p1 (dOp oAdd (dv 2) dInt)) p0)) aNil))) nd)
      (sCons (sRet (dCall (G_subtract) (hr.mono (by decide)) (psd_of cxTk) (aCons (dIx oIxD (dv 7) (dv 3)) (aCons (dIx oIxD (dv 7) (dv 4)) aNil))))
      sNil)))))

abbrev st_left_out : Stmt := topS 47
theorem sc_left_out : FnScope ["schedule", "margins", "index"] ["schedule", "margins", "index"] (defScope st_left_out) := ⟨rfl, rfl, rfl, by decide +kernel, rfl, by decide +kernel, by decide +kernel⟩
theorem ok_left_out (T : Txt K mg) (G_check_margins : Def P w K mg base "check_margins" 2 6 f_check_margins) (G_check_index : Def P w K mg base "check_index" 2 6 f_check_index) (G_left_out_of : Def P w K mg base "left_out_of" 3 8 f_left_out_of) : Def P w K mg base "left_out" 3 9 f_left_out := by
  obtain ⟨a, fd, F, hm⟩ := T.d_left_out
  refine mkDef (k := 8) (g := g_left_out) F sc_left_out hm (F.binds fun _ _ _ _ _ _ us hl => match us, hl with | [_, _, _], _ => rfl) fun cdv A outer s H E hr => ?_
  have hu := room65 hr
  have h70 := room70 hr
  have nd := sc_left_out.nd
  exact (sCons (sEx (dCall (G_check_margins) (hr.mono (by decide)) (psd_of cxTk) (aCons (dv 0) (aCons (dv 1) aNil))))
      (sCons (sEx (dCall (G_check_index) (hr.mono (by decide)) (psd_of cxTk) (aCons (dv 0) (aCons (dv 2) aNil))))
      (sCons (sRet (dCall (G_left_out_of) (hr.mono (by decide)) (psd_of cxTk) (aCons (dv 0) (aCons (dv 1) (aCons (dv 2) aNil)))))
      sNil)))

abbrev st_gradient_of : Stmt := topS 49
theorem sc_gradient_of : FnScope ["schedule", "margins"] ["schedule", "margins"] (defScope st_gradient_of) := ⟨rfl, rfl, rfl, by decide +kernel, rfl, by decide +kernel, by decide +kernel⟩
theorem ok_gradient_of (T : Txt K mg) (G_fitted : Def P w K mg base "fitted" 2 7 f_fitted) (G_differences_of : Def P w K mg base "differences_of" 2 4 f_differences_of) : Def P w K mg base "gradient_of" 2 8 f_gradient_of := by
  obtain ⟨a, fd, F, hm⟩ := T.d_gradient_of
  refine mkDef (k := 7) (g := g_gradient_of) F sc_gradient_of hm (F.binds fun _ _ _ _ _ _ us hl => match us, hl with | [_, _], _ => rfl) fun cdv A outer s H E hr => ?_
  have hu := room65 hr
  have h70 := room70 hr
  have nd := sc_gradient_of.nd
  exact (sCons (sRet (dCall (G_differences_of) (hr.mono (by decide)) (psd_of cxTk) (aCons (dv 0) (aCons (dCall (G_fitted) (hr.mono (by decide)) (psd_of cxTk) (aCons (dv 0) (aCons (dv 1) aNil))) aNil))))
      sNil)

abbrev st_gradient_part : Stmt := topS 50
theorem sc_gradient_part : FnScope ["schedule", "margins"] ["schedule", "margins"] (defScope st_gradient_part) := ⟨rfl, rfl, rfl, by decide +kernel, rfl, by decide +kernel, by decide +kernel⟩
theorem ok_gradient_part (T : Txt K mg) (G_check_margins : Def P w K mg base "check_margins" 2 6 f_check_margins) (G_gradient_of : Def P w K mg base "gradient_of" 2 8 f_gradient_of) : Def P w K mg base "gradient_part" 2 9 f_gradient_part := by
  obtain ⟨a, fd, F, hm⟩ := T.d_gradient_part
  refine mkDef (k := 8) (g := g_gradient_part) F sc_gradient_part hm (F.binds fun _ _ _ _ _ _ us hl => match us, hl with | [_, _], _ => rfl) fun cdv A outer s H E hr => ?_
  have hu := room65 hr
  have h70 := room70 hr
  have nd := sc_gradient_part.nd
  exact (sCons (sEx (dCall (G_check_margins) (hr.mono (by decide)) (psd_of cxTk) (aCons (dv 0) (aCons (dv 1) aNil))))
      (sCons (sRet (dCall (G_gradient_of) (hr.mono (by decide)) (psd_of cxTk) (aCons (dv 0) (aCons (dv 1) aNil))))
      sNil))

abbrev st_suspects : Stmt := topS 52
theorem sc_suspects : FnScope ["schedule", "margins", "result", "index", "others"] ["schedule", "margins"] (defScope st_suspects) := ⟨rfl, rfl, rfl, by decide +kernel, rfl, by decide +kernel, by decide +kernel⟩
theorem ok_suspects (T : Txt K mg) (G_check_margins : Def P w K mg base "check_margins" 2 6 f_check_margins) (G_contradiction : Def P w K mg base "contradiction" 2 5 f_contradiction) (G_without_match : Def P w K mg base "without_match" 2 1 f_without_match) (G_left_out_of : Def P w K mg base "left_out_of" 3 8 f_left_out_of) : Def P w K mg base "suspects" 2 9 f_suspects := by
  obtain ⟨a, fd, F, hm⟩ := T.d_suspects
  refine mkDef (k := 8) (g := g_suspects) F sc_suspects hm (F.binds fun _ _ _ _ _ _ us hl => match us, hl with | [_, _], _ => rfl) fun cdv A outer s H E hr => ?_
  have hu := room65 hr
  have h70 := room70 hr
  have nd := sc_suspects.nd
  exact (sCons (sEx (dCall (G_check_margins) (hr.mono (by decide)) (psd_of cxTk) (aCons (dv 0) (aCons (dv 1) aNil))))
      (sCons (sIf (dTCmp bIs oIs (dCall (G_contradiction) (hr.mono (by decide)) (psd_of cxTk) (aCons (dv 0) (aCons (dv 1) aNil))) dNon (nomark _))
      (sCons (sRaise T.x_Consistent cxTk)
      sNil)
      sNil)
      (sCons (sSetO 2 (lLst aNil) nd)
      (sCons (sFor (iRg1 T.b_range (aCons (dCallB cLen T.b_len bt_len (aCons (dv 1) aNil)) aNil)) (tgN 3 nd)
      (sCons (sSet 4 (dOp oAdd (dSl (dv 1) p0 (p1 (dv 3))) (dSl (dv 1) (p1 (dOp oAdd (dv 3) dInt)) p0)) nd)
      (sCons (sIf (dTCmp bIs oIs (dCall (G_contradiction) (hr.mono (by decide)) (psd_of cxTk) (aCons (dCall (G_without_match) (hr.mono (by decide)) (psd_of cxTk) (aCons (dv 0) (aCons (dv 3) aNil))) (aCons (dv 4) aNil))) dNon (nomark _))
      (sCons (oApp 2 (dTup (aCons (dv 3) (aCons (dCall (G_left_out_of) (hr.mono (by decide)) (psd_of cxTk) (aCons (dv 0) (aCons (dv 1) (aCons (dv 3) aNil)))) aNil))))
      sNil)
      sNil)
      sNil)) cxPo)
      (sFrz 2 (sCons (sRet (dv 2))
      sNil))))))

abbrev st__law_cell : Stmt := topS 54
theorem sc__law_cell : FnScope ["script", "k"] ["script", "k"] (defScope st__law_cell) := ⟨rfl, rfl, rfl, by decide +kernel, rfl, by decide +kernel, by decide +kernel⟩
theorem ok__law_cell (T : Txt K mg)  : Def P w K mg base "_law_cell" 2 1 f__law_cell := by
  obtain ⟨a, fd, F, hm⟩ := T.d__law_cell
  refine mkDef (k := 0) (g := g__law_cell) F sc__law_cell hm (F.binds fun _ _ _ _ _ _ us hl => match us, hl with | [_, _], _ => rfl) fun cdv A outer s H E hr => ?_
  have hu := room65 hr
  have h70 := room70 hr
  have nd := sc__law_cell.nd
  exact (sCons (sIf (dTCmp bLt (oLt hu) (dv 1) (dCallB cLen T.b_len bt_len (aCons (dv 0) aNil)) (nomark _))
      (sCons (sRet (dIx oIxD (dv 0) (dv 1)))
      sNil)
      sNil)
      (sCons (sRet dInt)
      sNil))

abbrev st__law_row : Stmt := topS 55
theorem sc__law_row : FnScope ["script", "at", "cell", "found", "time"] ["script", "at"] (defScope st__law_row) := ⟨rfl, rfl, rfl, by decide +kernel, rfl, by decide +kernel, by decide +kernel⟩
theorem ok__law_row (T : Txt K mg) (G__law_cell : Def P w K mg base "_law_cell" 2 1 f__law_cell) : Def P w K mg base "_law_row" 2 2 f__law_row := by
  obtain ⟨a, fd, F, hm⟩ := T.d__law_row
  refine mkDef (k := 1) (g := g__law_row) F sc__law_row hm (F.binds fun _ _ _ _ _ _ us hl => match us, hl with | [_, _], _ => rfl) fun cdv A outer s H E hr => ?_
  have hu := room65 hr
  have h70 := room70 hr
  have nd := sc__law_row.nd
  exact (sCons (sSet 2 (dCall (G__law_cell) (hr.mono (by decide)) (psd_of cxTk) (aCons (dv 0) (aCons (dv 1) aNil))) nd)
      (sCons (sSetO 3 (lLst aNil) nd)
      (sCons (sFor (iRg1 T.b_range (aCons dInt aNil)) (tgN 4 nd)
      (sCons (sIf (dTCmp bLt (oLt hu) (dCall (G__law_cell) (hr.mono (by decide)) (psd_of cxTk) (aCons (dv 0) (aCons (dv 1) aNil))) (dOp oPow dInt dInt) (nomark _))
      (sCons (sSet 2 (dOp oMod (dOp oAdd (dOp oAdd (dOp oAdd (dOp oMul (dv 2) dInt) (dOp oMul dInt (dv 4))) dInt) (dCall (G__law_cell) (hr.mono (by decide)) (psd_of cxTk) (aCons (dv 0) (aCons (dOp oMod (dOp oAdd (dOp oAdd (dv 1) dInt) (dv 4)) dInt) aNil)))) dInt) nd)
      (sCons (oApp 3 (dOp oMod (dOp oDiv (dv 2) dInt) dInt))
      sNil))
      (sCons (oApp 3 (dOp oMod (dv 2) dInt))
      (sCons (sSet 2 (dOp oDiv (dv 2) dInt) nd)
      sNil)))
      sNil) cxPo)
      (sFrz 3 (sCons (sRet (dv 3))
      sNil)))))

abbrev st__law_gcd : Stmt := topS 56
theorem sc__law_gcd : FnScope ["left", "right"] ["left", "right"] (defScope st__law_gcd) := ⟨rfl, rfl, rfl, by decide +kernel, rfl, by decide +kernel, by decide +kernel⟩
theorem ok__law_gcd (T : Txt K mg)  : Def P w K mg base "_law_gcd" 2 1 f__law_gcd := by
  obtain ⟨a, fd, F, hm⟩ := T.d__law_gcd
  refine mkDef (k := 0) (g := g__law_gcd) F sc__law_gcd hm (F.binds fun _ _ _ _ _ _ us hl => match us, hl with | [_, _], _ => rfl) fun cdv A outer s H E hr => ?_
  have hu := room65 hr
  have h70 := room70 hr
  have nd := sc__law_gcd.nd
  exact (sCons (sWh (dTCmp bNe (oNe hu) (dv 1) dInt (nomark _))
      (sCons (sPar 0 1 (dv 1) (dOp oMod (dv 0) (dv 1)) nd)
      sNil) cxPo)
      (sCons (sRet (dCallB cAbs T.b_abs bt_abs (aCons (dv 0) aNil)))
      sNil))

abbrev st__law_fraction : Stmt := topS 57
theorem sc__law_fraction : FnScope ["top", "bottom", "part"] ["top", "bottom"] (defScope st__law_fraction) := ⟨rfl, rfl, rfl, by decide +kernel, rfl, by decide +kernel, by decide +kernel⟩
theorem ok__law_fraction (T : Txt K mg) (G__law_gcd : Def P w K mg base "_law_gcd" 2 1 f__law_gcd) : Def P w K mg base "_law_fraction" 2 2 f__law_fraction := by
  obtain ⟨a, fd, F, hm⟩ := T.d__law_fraction
  refine mkDef (k := 1) (g := g__law_fraction) F sc__law_fraction hm (F.binds fun _ _ _ _ _ _ us hl => match us, hl with | [_, _], _ => rfl) fun cdv A outer s H E hr => ?_
  have hu := room65 hr
  have h70 := room70 hr
  have nd := sc__law_fraction.nd
  exact (sCons (sIf (dTCmp bLt (oLt hu) (dv 1) dInt (nomark _))
      (sCons (sPar 0 1 (dUn oNeg (dv 0)) (dUn oNeg (dv 1)) nd)
      sNil)
      sNil)
      (sCons (sSet 2 (dCall (G__law_gcd) (hr.mono (by decide)) (psd_of cxTk) (aCons (dv 0) (aCons (dv 1) aNil))) nd)
      (sCons (sRet (dTup (aCons (dOp oDiv (dv 0) (dv 2)) (aCons (dOp oDiv (dv 1) (dv 2)) aNil))))
      sNil)))

abbrev st__law_plus : Stmt := topS 58
theorem sc__law_plus : FnScope ["left", "right"] ["left", "right"] (defScope st__law_plus) := ⟨rfl, rfl, rfl, by decide +kernel, rfl, by decide +kernel, by decide +kernel⟩
theorem ok__law_plus (T : Txt K mg) (G__law_fraction : Def P w K mg base "_law_fraction" 2 2 f__law_fraction) : Def P w K mg base "_law_plus" 2 3 f__law_plus := by
  obtain ⟨a, fd, F, hm⟩ := T.d__law_plus
  refine mkDef (k := 2) (g := g__law_plus) F sc__law_plus hm (F.binds fun _ _ _ _ _ _ us hl => match us, hl with | [_, _], _ => rfl) fun cdv A outer s H E hr => ?_
  have hu := room65 hr
  have h70 := room70 hr
  have nd := sc__law_plus.nd
  exact (sCons (sRet (dCall (G__law_fraction) (hr.mono (by decide)) (psd_of cxTk) (aCons (dOp oAdd (dOp oMul (dIx oIxD (dv 0) dInt) (dIx oIxD (dv 1) dInt)) (dOp oMul (dIx oIxD (dv 1) dInt) (dIx oIxD (dv 0) dInt))) (aCons (dOp oMul (dIx oIxD (dv 0) dInt) (dIx oIxD (dv 1) dInt)) aNil))))
      sNil)

abbrev st__law_schedule : Stmt := topS 59
theorem sc__law_schedule : FnScope ["script", "at", "most_players", "draws", "players", "matches", "left", "right"] ["script", "at", "most_players"] (defScope st__law_schedule) := ⟨rfl, rfl, rfl, by decide +kernel, rfl, by decide +kernel, by decide +kernel⟩
theorem ok__law_schedule (T : Txt K mg) (G__law_row : Def P w K mg base "_law_row" 2 2 f__law_row) : Def P w K mg base "_law_schedule" 3 3 f__law_schedule := by
  obtain ⟨a, fd, F, hm⟩ := T.d__law_schedule
  refine mkDef (k := 2) (g := g__law_schedule) F sc__law_schedule hm (F.binds fun _ _ _ _ _ _ us hl => match us, hl with | [_, _, _], _ => rfl) fun cdv A outer s H E hr => ?_
  have hu := room65 hr
  have h70 := room70 hr
  have nd := sc__law_schedule.nd
  exact (sCons (sSet 3 (dCall (G__law_row) (hr.mono (by decide)) (psd_of cxTk) (aCons (dv 0) (aCons (dv 1) aNil))) nd)
      (sCons (sSet 4 (dOp oAdd dInt (dOp oMod (dIx oIxD (dv 3) dInt) (dOp oSub (dv 2) dInt))) nd)
      (sCons (sSetO 5 (lLst aNil) nd)
      (sCons (sFor (iRg1 T.b_range (aCons (dv 4) aNil)) (tgN 6 nd)
      (sCons (sFor (iRg2 T.b_range (aCons (dOp oAdd (dv 6) dInt) (aCons (dv 4) aNil))) (tgN 7 nd)
      (sCons (sIf (dTCmp bLe oLe (dOp oMod (dIx oIxD (dv 3) (dOp oMod (dOp oAdd (dOp oAdd dInt (dOp oMul dInt (dv 6))) (dv 7)) dInt)) dInt) (dOp oMod (dIx oIxD (dv 3) dInt) dInt) (nomark _))
      (sCons (oApp 5 (dTup (aCons (dv 6) (aCons (dv 7) (aCons (dOp oAdd dInt (dOp oMod (dIx oIxD (dv 3) (dOp oMod (dOp oAdd (dOp oAdd dInt (dOp oMul dInt (dv 6))) (dv 7)) dInt)) (dIx oIxD (dFr (lLst (aCons dInt (aCons dInt (aCons dInt aNil))))) (dOp oMod (dIx oIxD (dv 3) dInt) dInt)))) aNil)))))
      sNil)
      sNil)
      sNil) cxPo)
      sNil) cxPo)
      (sFrz 5 (sCons (sRet (dTup (aCons (dv 4) (aCons (dCallT cTup T.b_tuple bt_tuple (aCons (dv 5) aNil)) aNil))))
      sNil))))))

abbrev st__law_margins : Stmt := topS 60
theorem sc__law_margins : FnScope ["script", "at", "schedule", "draws", "count", "found", "index", "values", "player", "left", "right", "weight"] ["script", "at", "schedule"] (defScope st__law_margins) := ⟨rfl, rfl, rfl, by decide +kernel, rfl, by decide +kernel, by decide +kernel⟩
theorem ok__law_margins (T : Txt K mg) (G__law_row : Def P w K mg base "_law_row" 2 2 f__law_row) (G__law_fraction : Def P w K mg base "_law_fraction" 2 2 f__law_fraction) : Def P w K mg base "_law_margins" 3 3 f__law_margins := by
  obtain ⟨a, fd, F, hm⟩ := T.d__law_margins
  refine mkDef (k := 2) (g := g__law_margins) F sc__law_margins hm (F.binds fun _ _ _ _ _ _ us hl => match us, hl with | [_, _, _], _ => rfl) fun cdv A outer s H E hr => ?_
  have hu := room65 hr
  have h70 := room70 hr
  have nd := sc__law_margins.nd
  exact (sCons (sSet 3 (dCall (G__law_row) (hr.mono (by decide)) (psd_of cxTk) (aCons (dv 0) (aCons (dv 1) aNil))) nd)
      (sCons (sSet 4 (dCallB cLen T.b_len bt_len (aCons (dIx oIxD (dv 2) dInt) aNil)) nd)
      (sCons (sSetO 5 (lLst aNil) nd)
      (sCons (sFor (iRg1 T.b_range (aCons (dv 4) aNil)) (tgN 6 nd)
      (sCons (oApp 5 (dCall (G__law_fraction) (hr.mono (by decide)) (psd_of cxTk) (aCons (dOp oSub (dOp oMod (dIx oIxD (dv 3) (dOp oMod (dv 6) dInt)) dInt) dInt) (aCons (dIx oIxD (dFr (lLst (aCons dInt (aCons dInt (aCons dInt (aCons dInt aNil)))))) (dOp oMod (dIx oIxD (dv 3) (dOp oMod (dOp oAdd dInt (dv 6)) dInt)) dInt)) aNil))))
      sNil) cxPo)
      (sCons (sIf (dTCmp bGt oGt (dOp oMod (dIx oIxD (dv 3) dInt) dInt) dInt (nomark _))
      (sCons (sSet 7 (dFr (lLc (own := [("player", 8)]) ⟨(iJ (iRg1 T.b_range (aCons (dIx oIxD (dv 2) dInt) aNil))), blkOk_by (by kernel_rfl), ⟨[8], by decide, fun _ _ _ _ _ => (tgN 8 nd)⟩, fun _ _ _ _ _ => (pYes rfl), fun _ _ _ _ _ => (dOp oSub (dOp oMod (dIx oIxD (dv 3) (dOp oAdd dInt (dv 8))) dInt) dInt)⟩ nd)) nd)
      (sCons (sSetLc 5 (own := [("left", 9), ("right", 10), ("weight", 11)]) ⟨(iJ (iSq (dIx oIxD (dv 2) dInt))), blkOk_by (by kernel_rfl), ⟨([9] ++ ([10] ++ ([11] ++ []))), by decide, fun _ _ _ _ _ => (tgT (tg1 (tgN 9 nd) (tg1 (tgN 10 nd) (tg1 (tgN 11 nd) tg0))) (gs1_len (gs1_len (gs1_len gs0_len))))⟩, fun _ _ _ _ _ => (pYes rfl), fun _ _ _ _ _ => (dTup (aCons (dOp oSub (dIx oIxD (dv 7) (dv 9)) (dIx oIxD (dv 7) (dv 10))) (aCons dInt aNil)))⟩ nd (sw_true rfl rfl rfl (by decide +kernel)))
      (sCons (sIf (L2.PW.pt (wAnd (dTCmp bEq (oEq hu) (dOp oMod (dIx oIxD (dv 3) dInt) dInt) dInt (nomark _)) (wAnd1 (dTCmp bGt oGt (dv 4) dInt (nomark _)))))
      (sCons (oPut 5 (dTup (aCons (dOp oSub (dOp oMod (dIx oIxD (dv 3) dInt) dInt) dInt) (aCons dInt aNil))) (dOp oMod (dIx oIxD (dv 3) dInt) (dv 4)))
      sNil)
      sNil)
      sNil)))
      sNil)
      (sFrz 5 (sCons (sRet (dCallT cTup T.b_tuple bt_tuple (aCons (dv 5) aNil)))
      sNil)))))))

abbrev st__law_without : Stmt := topS 61
theorem sc__law_without : FnScope ["schedule", "index"] ["schedule", "index"] (defScope st__law_without) := ⟨rfl, rfl, rfl, by decide +kernel, rfl, by decide +kernel, by decide +kernel⟩
theorem ok__law_without (T : Txt K mg)  : Def P w K mg base "_law_without" 2 1 f__law_without := by
  obtain ⟨a, fd, F, hm⟩ := T.d__law_without
  refine mkDef (k := 0) (g := g__law_without) F sc__law_without hm (F.binds fun _ _ _ _ _ _ us hl => match us, hl with | [_, _], _ => rfl) fun cdv A outer s H E hr => ?_
  have hu := room65 hr
  have h70 := room70 hr
  have nd := sc__law_without.nd
  exact (sCons (sRet (dTup (aCons (dIx oIxD (dv 0) dInt) (aCons (dOp oAdd (dSl (dIx oIxD (dv 0) dInt) p0 (p1 (dv 1))) (dSl (dIx oIxD (dv 0) dInt) (p1 (dOp oAdd (dv 1) dInt)) p0)) aNil))))
      sNil)

abbrev st__law_suspects : Stmt := topS 62
theorem sc__law_suspects : FnScope ["schedule", "margins", "e"] ["schedule", "margins"] (defScope st__law_suspects) := ⟨rfl, rfl, rfl, by decide +kernel, rfl, by decide +kernel, by decide +kernel⟩
theorem ok__law_suspects (T : Txt K mg) (G_suspects : Def P w K mg base "suspects" 2 9 f_suspects) : Def P w K mg base "_law_suspects" 2 10 f__law_suspects := by
  obtain ⟨a, fd, F, hm⟩ := T.d__law_suspects
  refine mkDef (k := 9) (g := g__law_suspects) F sc__law_suspects hm (F.binds fun _ _ _ _ _ _ us hl => match us, hl with | [_, _], _ => rfl) fun cdv A outer s H E hr => ?_
  have hu := room65 hr
  have h70 := room70 hr
  have nd := sc__law_suspects.nd
  exact (sCons (sTry (l := [("Consistent", (some 2), [("Consistent", "consistent")])]) rfl rfl nd cxTk (fun W1 pn1 xe1 tk1 po1 => (sCons (sRet (dCall (G_suspects) (hr.mono (by decide)) (psd_of tk1) (aCons (dv 0) (aCons (dv 1) aNil))))
      sNil))
      (.named (nm_of T.k_Consistent_Consistent) (by rfl) (by rfl) (suiteN (j := 2) fun a oe pn hf => (tC' (fun hz => (kIf (kAnd (kTr (kIs (i := 2) (C := 0) (u := .none) T.i_MatchError_Consistent hz hf rfl (.inl rfl) T.b_isinstance)) (kNo (kTr (kIs (i := 2) (C := 0) (u := .none) T.i_InvalidMargins_Consistent hz hf rfl (.inl rfl) T.b_isinstance)))) (kC pe_str) (kC pe_str))) tN)) ClsOk.nil)
      (htC (.inl ⟨T.k_Consistent_Consistent, by simp⟩) htN))
      sNil)

abbrev st_law : Stmt := topS 63
theorem sc_law : FnScope ["script", "draws", "schedule", "margins", "changed", "fit", "found", "due", "index", "others", "value", "mended"] ["script"] (defScope st_law) := ⟨rfl, rfl, rfl, by decide +kernel, rfl, by decide +kernel, by decide +kernel⟩
theorem fn_law (T : Txt K mg) (G__law_row : Def P w K mg base "_law_row" 2 2 f__law_row) (G__law_schedule : Def P w K mg base "_law_schedule" 3 3 f__law_schedule) (G__law_margins : Def P w K mg base "_law_margins" 3 3 f__law_margins) (G_gradient_part : Def P w K mg base "gradient_part" 2 9 f_gradient_part) (G__law_plus : Def P w K mg base "_law_plus" 2 3 f__law_plus) (G__law_suspects : Def P w K mg base "_law_suspects" 2 10 f__law_suspects) (G_is_consistent : Def P w K mg base "is_consistent" 2 7 f_is_consistent) (G_bridges : Def P w K mg base "bridges" 1 6 f_bridges) (G__law_without : Def P w K mg base "_law_without" 2 1 f__law_without) (G_left_out : Def P w K mg base "left_out" 3 9 f_left_out) {a : Addr} {fd : FuncData} (F : Fun K "law" "law" st_law a fd) : FnOk P w K mg base (L2.CX P w) 11 a fd ["script"] (spR K mg 1 f_law) := by
  refine mkFn (k := 10) (g := g_law) F sc_law fun cdv A outer s H E hr => ?_
  have hu := room65 hr
  have h70 := room70 hr
  have nd := sc_law.nd
  exact (sCons (sSet 1 (dCall (G__law_row) (hr.mono (by decide)) (psd_of cxTk) (aCons (dv 0) (aCons dInt aNil))) nd)
      (sCons (sSet 2 (dCall (G__law_schedule) (hr.mono (by decide)) (psd_of cxTk) (aCons (dv 0) (aCons dInt (aCons dInt aNil)))) nd)
      (sCons (sSet 3 (dCall (G__law_margins) (hr.mono (by decide)) (psd_of cxTk) (aCons (dv 0) (aCons dInt (aCons (dv 2) aNil)))) nd)
      (sCons (sSet 4 dNon nd)
      (sCons (sIf (L2.PW.pt (wAnd (dTCmp bEq (oEq hu) (dOp oMod (dIx oIxD (dv 1) dInt) dInt) dInt (nomark _)) (wAnd1 (dTCmp bGt oGt (dCallB cLen T.b_len bt_len (aCons (dv 3) aNil)) dInt (nomark _)))))
      (sCons (sSet 5 (dCall (G_gradient_part) (hr.mono (by decide)) (psd_of cxTk) (aCons (dv 2) (aCons (dv 3) aNil))) nd)
      (sCons (sSet 4 (dOp oMod (dIx oIxD (dv 1) dInt) (dCallB cLen T.b_len bt_len (aCons (dv 3) aNil))) nd)
      (sCons (sSet 3 (dOp oAdd (dOp oAdd (dSl (dv 5) p0 (p1 (dv 4))) (dTup (aCons (dCall (G__law_plus) (hr.mono (by decide)) (psd_of cxTk) (aCons (dIx oIxD (dv 5) (dv 4)) (aCons (dTup (aCons (dOp oAdd dInt (dOp oMod (dIx oIxD (dv 1) dInt) dInt)) (aCons dInt aNil))) aNil))) aNil))) (dSl (dv 5) (p1 (dOp oAdd (dv 4) dInt)) p0)) nd)
      sNil)))
      sNil)
      (sCons (sSet 6 (dCall (G__law_suspects) (hr.mono (by decide)) (psd_of cxTk) (aCons (dv 2) (aCons (dv 3) aNil))) nd)
      (sCons (sIf (dT (dCall (G_is_consistent) (hr.mono (by decide)) (psd_of cxTk) (aCons (dv 2) (aCons (dv 3) aNil))))
      (sCons (sRet (dAnd (dCmp (oEq hu) (dv 6) dStr (nomark _)) (dOne (dOr (dCmp oIs (dv 4) dNon (nomark _)) (dOne (dCmp (oIn hu) (dv 4) (dCall (G_bridges) (hr.mono (by decide)) (psd_of cxTk) (aCons (dv 2) aNil)) (by rfl)))))))
      sNil)
      sNil)
      (sCons (sSetO 7 (lLst aNil) nd)
      (sCons (sFor (iRg1 T.b_range (aCons (dCallB cLen T.b_len bt_len (aCons (dv 3) aNil)) aNil)) (tgN 8 nd)
      (sCons (sSet 9 (dOp oAdd (dSl (dv 3) p0 (p1 (dv 8))) (dSl (dv 3) (p1 (dOp oAdd (dv 8) dInt)) p0)) nd)
      (sCons (sIf (dT (dCall (G_is_consistent) (hr.mono (by decide)) (psd_of cxTk) (aCons (dCall (G__law_without) (hr.mono (by decide)) (psd_of cxTk) (aCons (dv 2) (aCons (dv 8) aNil))) (aCons (dv 9) aNil))))
      (sCons (sSet 10 (dCall (G_left_out) (hr.mono (by decide)) (psd_of cxTk) (aCons (dv 2) (aCons (dv 3) (aCons (dv 8) aNil)))) nd)
      (sCons (sSet 11 (dOp oAdd (dOp oAdd (dSl (dv 3) p0 (p1 (dv 8))) (dTup (aCons (dv 10) aNil))) (dSl (dv 3) (p1 (dOp oAdd (dv 8) dInt)) p0)) nd)
      (sCons (sIf (L2.PW.pt (wOr (dTCmp bIn (oIn hu) (dv 8) (dCall (G_bridges) (hr.mono (by decide)) (psd_of cxTk) (aCons (dv 2) aNil)) (by rfl)) (wOr1 (dTNot (dT (dCall (G_is_consistent) (hr.mono (by decide)) (psd_of cxTk) (aCons (dv 2) (aCons (dv 11) aNil))))))))
      (sCons (sRet dBl)
      sNil)
      sNil)
      (sCons (oApp 7 (dTup (aCons (dv 8) (aCons (dv 10) aNil))))
      sNil))))
      sNil)
      sNil)) cxPo)
      (sFrz 7 (sCons (sRet (dAnd (dCmp (oEq hu) (dv 6) (dv 7) (nomark _)) (dOne (dOr (dCmp oIs (dv 4) dNon (nomark _)) (dOne (dCmp (oIn hu) (dv 4) (dFr (lLc (own := [("index", 8), ("value", 10)]) ⟨(iJ (iSq (dv 6))), blkOk_by (by kernel_rfl), ⟨([8] ++ ([10] ++ [])), by decide, fun _ _ _ _ _ => (tgT (tg1 (tgN 8 nd) (tg1 (tgN 10 nd) tg0)) (gs1_len (gs1_len gs0_len)))⟩, fun _ _ _ _ _ => (pYes rfl), fun _ _ _ _ _ => (dv 8)⟩ nd)) (by rfl)))))))
      sNil)))))))))))
theorem all_ok (T : Txt K mg) {fa : Addr} (hfa : mg "law" = some (.ref fa)) : ∃ fd : FuncData, (∀ (s : Shared) (u : Value), BindsTo s fd ⟨[u], []⟩ [("script", u)]) ∧ ∀ base : Heap, K.In base → base.Ns mainGlobals mg → FnOk P w K mg base (L2.CX P w) 11 fa fd ["script"] (spL K f_law) := by
  refine lawEnd hfa T.d_law (fun F s u => ?_) fun base a fd F => ?_
  · obtain ⟨oc, od, kV, doc, pm, an, cdv, ct, osl, rfl, lk, hcd⟩ := F.ex
    exact .of_eq rfl
  have o_is_integer := ok_is_integer (P := P) (w := w) (base := base) T 
  have o_gcd := ok_gcd (P := P) (w := w) (base := base) T 
  have o_reduced := ok_reduced (P := P) (w := w) (base := base) T o_gcd
  have o_add := ok_add (P := P) (w := w) (base := base) T o_reduced
  have o_subtract := ok_subtract (P := P) (w := w) (base := base) T o_reduced
  have o_multiply := ok_multiply (P := P) (w := w) (base := base) T o_reduced
  have o_divide := ok_divide (P := P) (w := w) (base := base) T o_reduced
  have o_is_rational := ok_is_rational (P := P) (w := w) (base := base) T o_is_integer o_gcd
  have o_cleared := ok_cleared (P := P) (w := w) (base := base) T o_multiply o_subtract
  have o_eliminate := ok_eliminate (P := P) (w := w) (base := base) T o_divide o_cleared
  have o_solve := ok_solve (P := P) (w := w) (base := base) T o_eliminate
  have o_in_range := ok_in_range (P := P) (w := w) (base := base) T o_is_integer
  have o_is_match := ok_is_match (P := P) (w := w) (base := base) T o_in_range
  have o_is_schedule := ok_is_schedule (P := P) (w := w) (base := base) T o_in_range o_is_match
  have o_check_schedule := ok_check_schedule (P := P) (w := w) (base := base) T o_is_schedule
  have o_check_index := ok_check_index (P := P) (w := w) (base := base) T o_check_schedule o_in_range
  have o_groups_of := ok_groups_of (P := P) (w := w) (base := base) T 
  have o_match_index := ok_match_index (P := P) (w := w) (base := base) T 
  have o_without_match := ok_without_match (P := P) (w := w) (base := base) T 
  have o_bridges := ok_bridges (P := P) (w := w) (base := base) T o_check_schedule o_groups_of o_without_match
  have o_is_margins := ok_is_margins (P := P) (w := w) (base := base) T o_is_rational
  have o_check_margins := ok_check_margins (P := P) (w := w) (base := base) T o_check_schedule o_is_margins
  have o_surplus_of := ok_surplus_of (P := P) (w := w) (base := base) T o_multiply o_add o_subtract
  have o_margin_of := ok_margin_of (P := P) (w := w) (base := base) T o_match_index
  have o_reach := ok_reach (P := P) (w := w) (base := base) T o_match_index o_margin_of o_add
  have o_joined := ok_joined (P := P) (w := w) (base := base) T 
  have o_contradiction := ok_contradiction (P := P) (w := w) (base := base) T o_reach o_add o_joined
  have o_is_consistent := ok_is_consistent (P := P) (w := w) (base := base) T o_check_margins o_contradiction
  have o_balance_rows := ok_balance_rows (P := P) (w := w) (base := base) T o_add o_subtract o_groups_of
  have o_fitted := ok_fitted (P := P) (w := w) (base := base) T o_surplus_of o_balance_rows o_solve
  have o_differences_of := ok_differences_of (P := P) (w := w) (base := base) T o_subtract
  have o_left_out_of := ok_left_out_of (P := P) (w := w) (base := base) T o_without_match o_groups_of o_fitted o_subtract
  have o_left_out := ok_left_out (P := P) (w := w) (base := base) T o_check_margins o_check_index o_left_out_of
  have o_gradient_of := ok_gradient_of (P := P) (w := w) (base := base) T o_fitted o_differences_of
  have o_gradient_part := ok_gradient_part (P := P) (w := w) (base := base) T o_check_margins o_gradient_of
  have o_suspects := ok_suspects (P := P) (w := w) (base := base) T o_check_margins o_contradiction o_without_match o_left_out_of
  have o__law_cell := ok__law_cell (P := P) (w := w) (base := base) T 
  have o__law_row := ok__law_row (P := P) (w := w) (base := base) T o__law_cell
  have o__law_gcd := ok__law_gcd (P := P) (w := w) (base := base) T 
  have o__law_fraction := ok__law_fraction (P := P) (w := w) (base := base) T o__law_gcd
  have o__law_plus := ok__law_plus (P := P) (w := w) (base := base) T o__law_fraction
  have o__law_schedule := ok__law_schedule (P := P) (w := w) (base := base) T o__law_row
  have o__law_margins := ok__law_margins (P := P) (w := w) (base := base) T o__law_row o__law_fraction
  have o__law_without := ok__law_without (P := P) (w := w) (base := base) T 
  have o__law_suspects := ok__law_suspects (P := P) (w := w) (base := base) T o_suspects
  exact fn_law T o__law_row o__law_schedule o__law_margins o_gradient_part o__law_plus o__law_suspects o_is_consistent o_bridges o__law_without o_left_out F
end
end LW
open PySem PySem.W PyProof.Rows DL in
set_option maxRecDepth 100000 in
set_option maxHeartbeats 0 in
theorem PySem.Challenge.cw_matchmargins_k20_whole_suspects_holds : PySem.Challenge.rw_matchmargins_k20_whole_suspects.Holds := by
  w_on; o_law; k_head; (case hw => w_witness2)
  k_fill
  refine L2.walk_of (l := PySem.Challenge.rw_matchmargins_k20_whole_suspects) (n := 63) (k := 11) (x := "script") (CX := fun w => L2.CX PySem.Challenge.rw_matchmargins_k20_whole_suspects.prog w) (sp := fun w => spL _ LW.f_law) rfl (by decide) rfl ⟨rfl, by decide, by decide⟩ (fun w h Y => PySem.W.kIn_of Y) ?F (fun w H a ns hl _ hS => law_spL hS (LW.law_true ns hl)) (fun w H s e s' => cx_no H s e s')
  case F =>
    intro w mg fa h KX G hmg
    exact LW.all_ok ⟨bmk KX G (by k_is),
      bmk KX G (by k_is),
      bmk KX G (by k_is),
      bmk KX G (by k_is),
      bmk KX G (by k_is),
      bmk KX G (by k_is),
      bmk KX G (by k_is),
      bmk KX G (by k_is),
      bmk KX G (by k_is),
      bmk KX G (by k_is),
      bmk KX G (by k_is),
      bmk KX G (by k_is),
      bmk KX G (by k_is),
      bmk KX G (by k_is),
      imk KX G (by k_is),
      imk KX G (by k_is),
      qmk KX G (by k_is) (by k_is),
      qmk KX G (by k_is) (by k_is),
      dmk (st := LW.topS 54) KX G (by k_is) (by k_is) (by k_is) (by k_is),
      dmk (st := LW.topS 57) KX G (by k_is) (by k_is) (by k_is) (by k_is),
      dmk (st := LW.topS 56) KX G (by k_is) (by k_is) (by k_is) (by k_is),
      dmk (st := LW.topS 60) KX G (by k_is) (by k_is) (by k_is) (by k_is),
      dmk (st := LW.topS 58) KX G (by k_is) (by k_is) (by k_is) (by k_is),
      dmk (st := LW.topS 55) KX G (by k_is) (by k_is) (by k_is) (by k_is),
      dmk (st := LW.topS 59) KX G (by k_is) (by k_is) (by k_is) (by k_is),
      dmk (st := LW.topS 62) KX G (by k_is) (by k_is) (by k_is) (by k_is),
      dmk (st := LW.topS 61) KX G (by k_is) (by k_is) (by k_is) (by k_is),
      dmk (st := LW.topS 12) KX G (by k_is) (by k_is) (by k_is) (by k_is),
      dmk (st := LW.topS 42) KX G (by k_is) (by k_is) (by k_is) (by k_is),
      dmk (st := LW.topS 31) KX G (by k_is) (by k_is) (by k_is) (by k_is),
      dmk (st := LW.topS 27) KX G (by k_is) (by k_is) (by k_is) (by k_is),
      dmk (st := LW.topS 34) KX G (by k_is) (by k_is) (by k_is) (by k_is),
      dmk (st := LW.topS 26) KX G (by k_is) (by k_is) (by k_is) (by k_is),
      dmk (st := LW.topS 18) KX G (by k_is) (by k_is) (by k_is) (by k_is),
      dmk (st := LW.topS 38) KX G (by k_is) (by k_is) (by k_is) (by k_is),
      dmk (st := LW.topS 44) KX G (by k_is) (by k_is) (by k_is) (by k_is),
      dmk (st := LW.topS 15) KX G (by k_is) (by k_is) (by k_is) (by k_is),
      dmk (st := LW.topS 17) KX G (by k_is) (by k_is) (by k_is) (by k_is),
      dmk (st := LW.topS 43) KX G (by k_is) (by k_is) (by k_is) (by k_is),
      dmk (st := LW.topS 10) KX G (by k_is) (by k_is) (by k_is) (by k_is),
      dmk (st := LW.topS 49) KX G (by k_is) (by k_is) (by k_is) (by k_is),
      dmk (st := LW.topS 50) KX G (by k_is) (by k_is) (by k_is) (by k_is),
      dmk (st := LW.topS 28) KX G (by k_is) (by k_is) (by k_is) (by k_is),
      dmk (st := LW.topS 23) KX G (by k_is) (by k_is) (by k_is) (by k_is),
      dmk (st := LW.topS 40) KX G (by k_is) (by k_is) (by k_is) (by k_is),
      dmk (st := LW.topS 9) KX G (by k_is) (by k_is) (by k_is) (by k_is),
      dmk (st := LW.topS 33) KX G (by k_is) (by k_is) (by k_is) (by k_is),
      dmk (st := LW.topS 24) KX G (by k_is) (by k_is) (by k_is) (by k_is),
      dmk (st := LW.topS 16) KX G (by k_is) (by k_is) (by k_is) (by k_is),
      dmk (st := LW.topS 25) KX G (by k_is) (by k_is) (by k_is) (by k_is),
      dmk (st := LW.topS 39) KX G (by k_is) (by k_is) (by k_is) (by k_is),
      dmk (st := LW.topS 63) KX G (by k_is) (by k_is) (by k_is) (by k_is),
      dmk (st := LW.topS 47) KX G (by k_is) (by k_is) (by k_is) (by k_is),
      dmk (st := LW.topS 46) KX G (by k_is) (by k_is) (by k_is) (by k_is),
      dmk (st := LW.topS 36) KX G (by k_is) (by k_is) (by k_is) (by k_is),
      dmk (st := LW.topS 29) KX G (by k_is) (by k_is) (by k_is) (by k_is),
      dmk (st := LW.topS 14) KX G (by k_is) (by k_is) (by k_is) (by k_is),
      dmk (st := LW.topS 37) KX G (by k_is) (by k_is) (by k_is) (by k_is),
      dmk (st := LW.topS 11) KX G (by k_is) (by k_is) (by k_is) (by k_is),
      dmk (st := LW.topS 19) KX G (by k_is) (by k_is) (by k_is) (by k_is),
      dmk (st := LW.topS 13) KX G (by k_is) (by k_is) (by k_is) (by k_is),
      dmk (st := LW.topS 35) KX G (by k_is) (by k_is) (by k_is) (by k_is),
      dmk (st := LW.topS 52) KX G (by k_is) (by k_is) (by k_is) (by k_is),
      dmk (st := LW.topS 30) KX G (by k_is) (by k_is) (by k_is) (by k_is),
      isamk KX G (by k_is) (by k_is) (by k_is) (by k_is) (by k_is) (by k_is) (by k_is) (by k_is) (by k_is) (by k_is) (by k_is) (by k_is) (by k_is) (by decide),
      isamk KX G (by k_is) (by k_is) (by k_is) (by k_is) (by k_is) (by k_is) (by k_is) (by k_is) (by k_is) (by k_is) (by k_is) (by k_is) (by k_is) (by decide),
      catmk KX G (by k_is) (by k_is) (by k_is) (by k_is) (by k_is) (by k_is),
      xmk KX G (by k_is) (by k_exc) (by k_is) (by k_is) (by k_is),
      xmk KX G (by k_is) (by k_exc) (by k_is) (by k_is) (by k_is),
      xmk KX G (by k_is) (by k_exc) (by k_is) (by k_is) (by k_is),
      xmk KX G (by k_is) (by k_exc) (by k_is) (by k_is) (by k_is)⟩ hmg
