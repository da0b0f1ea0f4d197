import PyProof.Rows.All
import Wide.All
import OpenK.AllK
import Wide.FinOn
import HandS.ForExc
import HandS.ForMost
import HandS.Deep
import HandS.TupAny
import HandS.TupMul
import HandS.Style
import HandS.Star
import HandS.Flow
import HandS.Text
import HandS.Walk
import HandS.TryOnly
import HandS.Zip
import KE.GoesEnum
import HandS.Words
import HandS.Conv
import HandS.SortInts
import HandS.Set
import HandS.More
import HandS.DictComp
import HandS.SortRule
import HandS.SetFor
import HandS.Strs
import HandS.Ends
import HandS.Defaults
import PySem.Challenge.RW_heardclear_k01_whole_silence_makes_no_fa
import PyProof.ReprLen
import PyProof.Rows.ReprShort
set_option Elab.async false
set_option linter.all false
set_option maxRecDepth 100000
/-! DLa: data D for values, what is frozen (F), own objects, the relation of a pure environment with slots and heap. -/
namespace DL
open PySem PySem.Spec PyProof.Rows L2

abbrev D := PyData
abbrev Frg := PySem.W.Frag

/-- a dict's key as data -/
def kD : Key → D
  | .inl i => .int i
  | .inr x => .str x
def kDs (ks : List Key) : D := .tuple (ks.map kD)

mutual
/-- v is the data d; all objects that it leans on are in F (or of the module) -/
inductive RD (K : Frg) (F : Hp) : V → D → Prop
  | non : RD K F .non .none
  | bl (b : Bool) : RD K F (.bl b) (.bool b)
  | int (i : Int) : RD K F (.int i) (.int i)
  | str (x : Str) : RD K F (.str x) (.str x)
  | lst {a : Addr} {xs : List V} {ds : List D} : Rd F a (.lst xs) → xs.length ≤ sizeLine → RDs K F xs ds → RD K F (.ref a) (.list ds)
  | tup {a : Addr} {xs : List V} {ds : List D} : SqT K F a xs → xs.length ≤ sizeLine → RDs K F xs ds → RD K F (.ref a) (.tuple ds)
  | dic {a : Addr} {ks : List Key} {xs : List V} {ds : List D} : Rd F a (.dK (ks.zip xs)) → ks.length = xs.length → RDs K F xs ds → RD K F (.ref a) (.dict ((ks.map kD).zip ds))
  | dit {a : Addr} {ks : List (List Key)} {xs : List V} {ds : List D} : Rd F a (.dT (ks.zip xs)) → ks.length = xs.length → RDs K F xs ds → RD K F (.ref a) (.dict ((.none, .none) :: (ks.map kDs).zip ds))
inductive RDs (K : Frg) (F : Hp) : List V → List D → Prop
  | nil : RDs K F [] []
  | cons {v : V} {vs : List V} {d : D} {ds : List D} : RD K F v d → RDs K F vs ds → RDs K F (v :: vs) (d :: ds)
end

section
variable {K : Frg} {F F' H H' : Hp} {v : V} {d : D} {vs ws : List V} {ds es : List D}
theorem sqT_mono {a : Addr} {xs : List V} (e : Same F F') (h : SqT K F a xs) : SqT K F' a xs := by
  rcases h with (h | ⟨o, h⟩) | h
  · exact Or.inl (Or.inl (e _ _ h))
  · exact Or.inl (Or.inr ⟨o, e _ _ h⟩)
  · exact Or.inr h
theorem rd_mono {a : Addr} {u : HO} (e : Same F F') (h : Rd F a u) : Rd F' a u := by
  rcases h with h | ⟨o, h⟩
  · exact Or.inl (e _ _ h)
  · exact Or.inr ⟨o, e _ _ h⟩
theorem RD.mono (e : Same F F') (h : RD K F v d) : RD K F' v d :=
  RD.rec (K := K) (F := F) (motive_1 := fun v d _ => RD K F' v d) (motive_2 := fun vs ds _ => RDs K F' vs ds)
    RD.non RD.bl RD.int RD.str (fun s z _ r => RD.lst (rd_mono e s) z r) (fun s z _ r => RD.tup (sqT_mono e s) z r)
    (fun s l _ r => RD.dic (rd_mono e s) l r) (fun s l _ r => RD.dit (rd_mono e s) l r) RDs.nil (fun _ _ r rs => RDs.cons r rs) h
theorem RDs.mono (e : Same F F') : ∀ {vs : List V} {ds : List D}, RDs K F vs ds → RDs K F' vs ds
  | _, _, .nil => .nil
  | _, _, .cons r rs => .cons (r.mono e) (RDs.mono e rs)
theorem RDs.length : ∀ {vs : List V} {ds : List D}, RDs K F vs ds → vs.length = ds.length
  | _, _, .nil => rfl
  | _, _, .cons _ rs => congrArg (· + 1) (RDs.length rs)
theorem RDs.get : ∀ {vs : List V} {ds : List D} {i : Nat} {d : D}, RDs K F vs ds → ds[i]? = some d → ∃ v, vs[i]? = some v ∧ RD K F v d
  | _, _, _, _, .nil, e => by simp at e
  | _, _, 0, _, .cons r _, e => by
    simp at e
    exact ⟨_, rfl, e ▸ r⟩
  | _, _, i + 1, _, .cons _ rs, e => by
    obtain ⟨v, h1, h2⟩ := RDs.get (i := i) rs (by simpa using e)
    exact ⟨v, by simpa using h1, h2⟩
theorem RDs.getV : ∀ {vs : List V} {ds : List D} {i : Nat} {v : V}, RDs K F vs ds → vs[i]? = some v → ∃ d, ds[i]? = some d ∧ RD K F v d
  | _, _, _, _, .nil, e => by simp at e
  | _, _, 0, _, .cons r _, e => by
    simp at e
    exact ⟨_, rfl, e ▸ r⟩
  | _, _, i + 1, _, .cons _ rs, e => by
    obtain ⟨v, h1, h2⟩ := RDs.getV (i := i) rs (by simpa using e)
    exact ⟨v, by simpa using h1, h2⟩
theorem RDs.append : ∀ {vs ws : List V} {ds es : List D}, RDs K F vs ds → RDs K F ws es → RDs K F (vs ++ ws) (ds ++ es)
  | _, _, _, _, .nil, s => s
  | _, _, _, _, .cons r rs, s => .cons r (RDs.append rs s)
theorem RDs.take (n : Nat) : ∀ {vs : List V} {ds : List D} (n : Nat), RDs K F vs ds → RDs K F (vs.take n) (ds.take n)
  | _, _, 0, _ => by simpa using RDs.nil
  | _, _, _ + 1, .nil => .nil
  | _, _, n + 1, .cons r rs => .cons r (RDs.take n n rs)
theorem RDs.drop : ∀ {vs : List V} {ds : List D} (n : Nat), RDs K F vs ds → RDs K F (vs.drop n) (ds.drop n)
  | _, _, 0, r => r
  | _, _, _ + 1, .nil => .nil
  | _, _, n + 1, .cons _ rs => RDs.drop n rs
theorem RDs.reverse : ∀ {vs : List V} {ds : List D}, RDs K F vs ds → RDs K F vs.reverse ds.reverse
  | _, _, .nil => .nil
  | _, _, .cons r rs => by
    rw [List.reverse_cons, List.reverse_cons]
    exact (RDs.reverse rs).append (.cons r .nil)
theorem RDs.of_get : ∀ {vs : List V} {ds : List D}, vs.length = ds.length → (∀ (i : Nat) (v : V) (d : D), vs[i]? = some v → ds[i]? = some d → RD K F v d) → RDs K F vs ds
  | [], [], _, _ => .nil
  | [], _ :: _, h, _ => by simp at h
  | _ :: _, [], h, _ => by simp at h
  | v :: vs, d :: ds, h, g => .cons (g 0 v d rfl rfl) (RDs.of_get (by simpa using h) fun i v d e1 e2 => g (i + 1) v d (by simpa using e1) (by simpa using e2))
theorem RDs.ints : ∀ (ns : List Int), RDs K F (ns.map V.int) (ns.map PyData.int)
  | [] => .nil
  | n :: ns => .cons (.int n) (RDs.ints ns)
theorem RDs.of_ints : ∀ {ns : List Int} {vs : List V}, RDs K F vs (ns.map PyData.int) → vs = ns.map V.int
  | [], _, h => by cases h; rfl
  | n :: ns, _, h => by
    cases h with
    | cons r rs =>
      cases r
      rw [RDs.of_ints rs]
      rfl
theorem RDs.of_bools : ∀ {bs : List Bool} {vs : List V}, RDs K F vs (bs.map PyData.bool) → vs = bs.map V.bl
  | [], _, h => by cases h; rfl
  | n :: ns, _, h => by
    cases h with
    | cons r rs =>
      cases r
      rw [RDs.of_bools rs]
      rfl
theorem RDs.of_strs : ∀ {bs : List Str} {vs : List V}, RDs K F vs (bs.map PyData.str) → vs = bs.map V.str
  | [], _, h => by cases h; rfl
  | n :: ns, _, h => by
    cases h with
    | cons r rs =>
      cases r
      rw [RDs.of_strs rs]
      rfl
end

/-! ### data in which nothing can change -/
mutual
def imm : D → Bool
  | .list _ => false
  | .dict _ => false
  | .tuple xs => imms xs
  | _ => true
def imms : List D → Bool
  | [] => true
  | d :: ds => imm d && imms ds
end
/-- F without p -/
def cutP (F : Hp) (p : Addr) : Hp := fun q => if q = p then none else F q
theorem cutP_self {F : Hp} {p : Addr} : cutP F p p = none := by unfold cutP; rw [if_pos rfl]
theorem cutP_ne {F : Hp} {p q : Addr} (h : q ≠ p) : cutP F p q = F q := by unfold cutP; rw [if_neg h]
theorem sqT_cut {K : Frg} {F : Hp} {p a : Addr} {xs : List V} (hp : ∀ ys, ¬ Rd F p (.tup ys)) (h : SqT K F a xs) : SqT K (cutP F p) a xs := by
  rcases h with h | h
  · have ne : a ≠ p := fun e => hp xs (e ▸ h)
    rcases h with h | ⟨o, h⟩
    · exact Or.inl (Or.inl (by rw [cutP_ne ne]; exact h))
    · exact Or.inl (Or.inr ⟨o, by rw [cutP_ne ne]; exact h⟩)
  · exact Or.inr h
theorem RD.cut {K : Frg} {F : Hp} {p : Addr} (hp : ∀ ys, ¬ Rd F p (.tup ys)) {v : V} {d : D} (h : RD K F v d) (hi : imm d = true) : RD K (cutP F p) v d :=
  RD.rec (K := K) (F := F) (motive_1 := fun v d _ => imm d = true → RD K (cutP F p) v d) (motive_2 := fun vs ds _ => imms ds = true → RDs K (cutP F p) vs ds)
    (fun _ => RD.non) (fun b _ => RD.bl b) (fun i _ => RD.int i) (fun x _ => RD.str x) (fun _ _ _ _ q => by simp [imm] at q)
    (fun s z _ r q => RD.tup (sqT_cut hp s) z (r (by simpa [imm] using q))) (fun _ _ _ _ q => by simp [imm] at q) (fun _ _ _ _ q => by simp [imm] at q)
    (fun _ => RDs.nil) (fun _ _ r rs q => by
      simp only [imms, Bool.and_eq_true] at q
      exact RDs.cons (r q.1) (rs q.2)) h hi

/-! ### the frozen part grows, the heap grows -/
structure Ext (F H F' H' : Hp) : Prop where
  ff : Same F F'
  fh : Same F' H'
  hh : Same H H'
  nw : ∀ p, F p = none → H p ≠ none → F' p = none
section
variable {F F1 F2 H H1 H2 : Hp}
theorem Ext.refl (h : Same F H) : Ext F H F H := ⟨Same.refl F, h, Same.refl H, fun _ e _ => e⟩
theorem Ext.trans (a : Ext F H F1 H1) (b : Ext F1 H1 F2 H2) : Ext F H F2 H2 := ⟨a.ff.trans b.ff, b.fh, a.hh.trans b.hh, fun p e n => by
  refine b.nw p (a.nw p e n) fun z => ?_
  cases q : H p with
  | none => exact n q
  | some o => rw [a.hh p o q] at z; cases z⟩
theorem same_upd {p : Addr} {o : HO} (h : H p = none) : Same H (upd H p o) := fun b x e => by
  rw [upd_ne (ne_of_none e h)]
  exact e
theorem same_updL {p : Addr} {o : HO} (s : Same F H) (h : H p = none) : Same F (upd H p o) := s.trans (same_upd h)
theorem same_updB {p : Addr} {o : HO} (s : Same F H) : Same (upd F p o) (upd H p o) := fun b x e => by
  by_cases hb : b = p
  · subst hb; rw [upd_same] at e ⊢; exact e
  · rw [upd_ne hb] at e ⊢; exact s b x e
/-- a new frozen object -/
theorem Ext.new {p : Addr} {o : HO} (s : Same F H) (h : H p = none) : Ext F H (upd F p o) (upd H p o) :=
  ⟨same_upd (L2.Same.free s h), same_updB s, same_upd h, fun q e n => by
    rw [upd_ne (fun z => n (by rw [z]; exact h))]
    exact e⟩
/-- a new object that is not frozen -/
theorem Ext.newO {p : Addr} {o : HO} (s : Same F H) (h : H p = none) : Ext F H F (upd H p o) :=
  ⟨Same.refl F, same_updL s h, same_upd h, fun q e _ => e⟩
/-- a new object is frozen later -/
theorem Ext.freeze {p : Addr} {o : HO} (x : Ext F H F1 H1) (h : H p = none) (h1 : F1 p = none) (ho : H1 p = some o) : Ext F H (upd F1 p o) H1 :=
  ⟨x.ff.trans (same_upd h1), fun b u e => by
    by_cases hb : b = p
    · subst hb; rw [upd_same] at e; cases e; exact ho
    · rw [upd_ne hb] at e; exact x.fh b u e, x.hh, fun q e n => by
    rw [upd_ne (fun z => n (by rw [z]; exact h))]
    exact x.nw q e n⟩
end

/-! ### own objects -/
inductive O where
  | l (ds : List D)
  | d (kvs : List (D × D))
  | t (kvs : List (D × D))
@[simp] def O.dat : O → D
  | .l ds => .list ds
  | .d kvs => .dict kvs
  | .t kvs => .dict ((.none, .none) :: kvs)
/-- at p, in the heap H, the object o; its parts are frozen in F -/
def RO (K : Frg) (F H : Hp) (p : Addr) : O → Prop
  | .l ds => ∃ xs, H p = some (.lst xs) ∧ xs.length ≤ sizeLine ∧ RDs K F xs ds
  | .d kvs => ∃ (ks : List Key) (xs : List V) (ds : List D), kvs = (ks.map kD).zip ds ∧ H p = some (.dK (ks.zip xs)) ∧ ks.length = xs.length ∧ RDs K F xs ds
  | .t kvs => ∃ (ks : List (List Key)) (xs : List V) (ds : List D), kvs = (ks.map kDs).zip ds ∧ H p = some (.dT (ks.zip xs)) ∧ ks.length = xs.length ∧ RDs K F xs ds
section
variable {K : Frg} {F F' H H' : Hp} {p : Addr} {o : O}
theorem RO.mono (e : Same F F') (hp : H' p = H p) (h : RO K F H p o) : RO K F' H' p o := by
  cases o with
  | l ds =>
    obtain ⟨xs, h1, hz, h2⟩ := h
    exact ⟨xs, hp.trans h1, hz, h2.mono e⟩
  | d kvs =>
    obtain ⟨ks, xs, ds, h0, h1, h2, h3⟩ := h
    exact ⟨ks, xs, ds, h0, hp.trans h1, h2, h3.mono e⟩
  | t kvs =>
    obtain ⟨ks, xs, ds, h0, h1, h2, h3⟩ := h
    exact ⟨ks, xs, ds, h0, hp.trans h1, h2, h3.mono e⟩
theorem RO.ex (h : RO K F H p o) : ∃ u, H p = some u ∧ ∀ ys, u ≠ .tup ys ∧ ∀ ob, u ≠ .frz ob (.tup ys) := by
  cases o with
  | l ds =>
    obtain ⟨xs, h1, _, h2⟩ := h
    exact ⟨_, h1, fun ys => ⟨(fun z => by cases z), (fun ob z => by cases z)⟩⟩
  | d kvs =>
    obtain ⟨ks, xs, ds, h0, h1, h2, h3⟩ := h
    exact ⟨_, h1, fun ys => ⟨(fun z => by cases z), (fun ob z => by cases z)⟩⟩
  | t kvs =>
    obtain ⟨ks, xs, ds, h0, h1, h2, h3⟩ := h
    exact ⟨_, h1, fun ys => ⟨(fun z => by cases z), (fun ob z => by cases z)⟩⟩
theorem RO.ne (h : RO K F H p o) : H p ≠ none := by
  obtain ⟨u, e, _⟩ := h.ex
  rw [e]
  exact fun z => by cases z
/-- frozen, it is data -/
theorem RO.rd (h : RO K F H p o) {u : HO} (e : H p = some u) (hf : F p = none) : RD K (upd F p u) (.ref p) o.dat := by
  have s : Same F (upd F p u) := same_upd hf
  cases o with
  | l ds =>
    obtain ⟨xs, h1, hz, h2⟩ := h
    rw [h1] at e; cases e
    exact .lst (.of upd_same) hz (h2.mono s)
  | d kvs =>
    obtain ⟨ks, xs, ds, h0, h1, h2, h3⟩ := h
    rw [h1] at e; cases e
    show RD K _ _ (PyData.dict kvs)
    rw [h0]
    exact .dic (.of upd_same) h2 (h3.mono s)
  | t kvs =>
    obtain ⟨ks, xs, ds, h0, h1, h2, h3⟩ := h
    rw [h1] at e; cases e
    show RD K _ _ (PyData.dict ((.none, .none) :: kvs))
    rw [h0]
    exact .dit (.of upd_same) h2 (h3.mono s)
end

/-! ### pure environments -/
/-- a name holds data, or an own object; the first parameter's own object is pinned (true) -/
inductive E where
  | dat (d : D)
  | own (b : Bool) (o : O)
def E.d : E → D
  | .dat d => d
  | .own _ o => o.dat
abbrev Ev := List (Option E)
abbrev Sl := L2.St
def RE (K : Frg) (G F H : Hp) (v : V) : E → Prop
  | .dat d => RD K F v d
  | .own _ o => ∃ p, v = .ref p ∧ F p = none ∧ G p = none ∧ RO K F H p o
/-- the frame: what others own, and the first parameter's own object -/
structure Fz where
  G : Hp
  p0 : Option Addr
def Pind (ρ : Ev) (i : Nat) : Prop := ∃ o, ρ[i]? = some (some (.own true o))
structure SR (K : Frg) (Z : Fz) (F : Hp) (ρ : Ev) (σ : Sl) (H : Hp) : Prop where
  sf : Same F H
  sg : Same Z.G H
  dj : ∀ p u, Z.G p = some u → F p = none
  len : σ.length = ρ.length
  sl : ∀ (i : Nat) (e : E), ρ[i]? = some (some e) → ∃ v, σ[i]? = some (some v) ∧ RE K Z.G F H v e
  ap : ∀ (i j : Nat) (b b' : Bool) (o o' : O) (p : Addr), i ≠ j → ρ[i]? = some (some (.own b o)) → ρ[j]? = some (some (.own b' o')) → σ[i]? = some (some (.ref p)) → σ[j]? = some (some (.ref p)) → False
  pin : ∀ p, Z.p0 = some p → σ[0]? = some (some (.ref p)) ∧ Pind ρ 0
/-- no own object stands at p -/
def Sep (ρ : Ev) (σ : Sl) (p : Addr) : Prop := ∀ (j : Nat) (b : Bool) (o' : O), ρ[j]? = some (some (.own b o')) → σ[j]? ≠ some (some (.ref p))
section
variable {K : Frg} {Z : Fz} {F F' H H' : Hp} {ρ : Ev} {σ : Sl}
theorem SR.dat (S : SR K Z F ρ σ H) {i : Nat} {d : D} (h : ρ[i]? = some (some (.dat d))) : ∃ v, σ[i]? = some (some v) ∧ RD K F v d := S.sl i _ h
theorem SR.own (S : SR K Z F ρ σ H) {i : Nat} {b : Bool} {o : O} (h : ρ[i]? = some (some (.own b o))) : ∃ p, σ[i]? = some (some (.ref p)) ∧ F p = none ∧ Z.G p = none ∧ RO K F H p o := by
  obtain ⟨v, h1, p, rfl, h2, h3, h4⟩ := S.sl i _ h
  exact ⟨p, h1, h2, h3, h4⟩
theorem SR.apart (S : SR K Z F ρ σ H) {p : Addr} (h : H p = none) : Sep ρ σ p := fun j b o' hj hs => by
  obtain ⟨q, e1, _, _, r⟩ := S.own hj
  rw [hs] at e1
  cases e1
  exact r.ne h
theorem SR.ext (S : SR K Z F ρ σ H) (x : Ext F H F' H') : SR K Z F' ρ σ H' := by
  refine ⟨x.fh, S.sg.trans x.hh, fun p u e => x.nw p (S.dj p u e) (by rw [S.sg p u e]; exact fun z => by cases z), S.len, fun i e h => ?_, S.ap, S.pin⟩
  cases e with
  | dat d =>
    obtain ⟨v, h1, h2⟩ := S.dat h
    exact ⟨v, h1, h2.mono x.ff⟩
  | own b o =>
    obtain ⟨p, h1, h2, h3, h4⟩ := S.own h
    obtain ⟨u, hu, _⟩ := h4.ex
    exact ⟨_, h1, p, rfl, x.nw p h2 h4.ne, h3, h4.mono x.ff ((x.hh p u hu).trans hu.symm)⟩
/-- slots may be forgotten -/
theorem SR.weak {ρ' : Ev} (S : SR K Z F ρ σ H) (hl : ρ'.length = ρ.length) (h : ∀ (i : Nat) (e : E), ρ'[i]? = some (some e) → ρ[i]? = some (some e)) (hp : Pind ρ 0 → Pind ρ' 0) : SR K Z F ρ' σ H :=
  ⟨S.sf, S.sg, S.dj, S.len.trans hl.symm, fun i e q => S.sl i e (h i e q), fun i j b b' o o' p ne h1 h2 => S.ap i j b b' o o' p ne (h i _ h1) (h j _ h2), fun p e => ⟨(S.pin p e).1, hp (S.pin p e).2⟩⟩
theorem getSet {α : Type} {l : List α} {i j : Nat} {x : α} {y : α} (h : (l.set i x)[j]? = some y) : (j = i ∧ y = x ∧ i < l.length) ∨ (j ≠ i ∧ l[j]? = some y) := by
  by_cases e : i = j
  · subst e
    by_cases hl : i < l.length
    · rw [List.getElem?_set_self hl] at h
      exact .inl ⟨rfl, (Option.some.inj h).symm, hl⟩
    · rw [List.getElem?_eq_none (by rw [List.length_set]; omega)] at h
      cases h
  · rw [List.getElem?_set_ne e] at h
    exact .inr ⟨fun z => e z.symm, h⟩
theorem Pind.set {i j : Nat} {x : Option E} (h : Pind ρ j) (hi : ¬ Pind ρ i) : Pind (ρ.set i x) j := by
  obtain ⟨o, e⟩ := h
  refine ⟨o, ?_⟩
  rw [List.getElem?_set_ne fun z => hi ⟨o, by rw [z]; exact e⟩]
  exact e
theorem SR.forget (S : SR K Z F ρ σ H) {i : Nat} (hi : ¬ Pind ρ i) : SR K Z F (ρ.set i none) σ H := S.weak (by simp) (fun j e h => by
  rcases getSet h with ⟨_, z, _⟩ | ⟨_, h⟩
  · cases z
  · exact h) fun q => q.set hi
/-- a slot gets data -/
theorem SR.setDat (S : SR K Z F ρ σ H) {i : Nat} {v : V} {d : D} (r : RD K F v d) (hp : ¬ Pind ρ i) : SR K Z F (ρ.set i (some (.dat d))) (σ.set i (some v)) H := by
  refine ⟨S.sf, S.sg, S.dj, by simpa using S.len, fun j e h => ?_, fun j k b b' o o' p ne h1 h2 h3 h4 => ?_, fun p e => ?_⟩
  · rcases getSet h with ⟨rfl, z, hl⟩ | ⟨ne, h⟩
    · cases z
      exact ⟨v, List.getElem?_set_self (by rw [S.len]; exact hl), r⟩
    · rw [List.getElem?_set_ne (Ne.symm ne)]
      exact S.sl j e h
  · rcases getSet h1 with ⟨_, z, _⟩ | ⟨n1, h1⟩
    · cases z
    rcases getSet h2 with ⟨_, z, _⟩ | ⟨n2, h2⟩
    · cases z
    rw [List.getElem?_set_ne (Ne.symm n1)] at h3
    rw [List.getElem?_set_ne (Ne.symm n2)] at h4
    exact S.ap j k b b' o o' p ne h1 h2 h3 h4
  · obtain ⟨h1, h2⟩ := S.pin p e
    rw [List.getElem?_set_ne fun z => hp (by rw [z]; exact h2)]
    exact ⟨h1, h2.set hp⟩
/-- a slot gets a new own object -/
theorem SR.setOwn (S : SR K Z F ρ σ H) {i : Nat} {p : Addr} {o : O} (hf : F p = none) (hg : Z.G p = none) (hn : Sep ρ σ p) (r : RO K F H p o) (hp : ¬ Pind ρ i) :
    SR K Z F (ρ.set i (some (.own false o))) (σ.set i (some (.ref p))) H := by
  refine ⟨S.sf, S.sg, S.dj, by simpa using S.len, fun j e h => ?_, fun j k b1 b2 o1 o2 q ne h1 h2 h3 h4 => ?_, fun q e => ?_⟩
  · rcases getSet h with ⟨rfl, z, hl⟩ | ⟨ne, h⟩
    · cases z
      exact ⟨_, List.getElem?_set_self (by rw [S.len]; exact hl), p, rfl, hf, hg, r⟩
    · rw [List.getElem?_set_ne (Ne.symm ne)]
      exact S.sl j e h
  · rcases getSet h1 with ⟨e1, z, l1⟩ | ⟨n1, h1⟩
    · rcases getSet h2 with ⟨e2, _, _⟩ | ⟨n2, h2⟩
      · exact ne (e1.trans e2.symm)
      · rw [e1, List.getElem?_set_self (by rw [S.len]; exact l1)] at h3
        cases h3
        rw [List.getElem?_set_ne (Ne.symm n2)] at h4
        exact hn _ _ _ h2 h4
    · rw [List.getElem?_set_ne (Ne.symm n1)] at h3
      rcases getSet h2 with ⟨e2, _, l2⟩ | ⟨n2, h2⟩
      · rw [e2, List.getElem?_set_self (by rw [S.len]; exact l2)] at h4
        cases h4
        exact hn _ _ _ h1 h3
      · rw [List.getElem?_set_ne (Ne.symm n2)] at h4
        exact S.ap j k b1 b2 o1 o2 q ne h1 h2 h3 h4
  · obtain ⟨h1, h2⟩ := S.pin q e
    rw [List.getElem?_set_ne fun z => hp (by rw [z]; exact h2)]
    exact ⟨h1, h2.set hp⟩
/-- the own object of a slot is changed -/
theorem SR.chg (S : SR K Z F ρ σ H) {i : Nat} {b : Bool} {o o' : O} {p : Addr} {u : HO} (h : ρ[i]? = some (some (.own b o))) (hs : σ[i]? = some (some (.ref p))) (r : RO K F (upd H p u) p o') : SR K Z F (ρ.set i (some (.own b o'))) σ (upd H p u) := by
  obtain ⟨q, e1, hf, hg, r0⟩ := S.own h
  rw [hs] at e1; cases e1
  have hil : i < ρ.length := (List.getElem?_eq_some_iff.mp h).1
  refine ⟨fun b x e => ?_, fun b x e => ?_, S.dj, by simpa using S.len, fun j e hj => ?_, fun j k b1 b2 o1 o2 q ne h1 h2 h3 h4 => ?_, fun q e => ?_⟩
  · rw [upd_ne (fun z => by rw [z, hf] at e; cases e)]
    exact S.sf b x e
  · rw [upd_ne (fun z => by rw [z, hg] at e; cases e)]
    exact S.sg b x e
  · rcases getSet hj with ⟨rfl, z, hl⟩ | ⟨ne, hj⟩
    · cases z
      exact ⟨_, hs, p, rfl, hf, hg, r⟩
    · obtain ⟨v, a1, a2⟩ := S.sl j e hj
      refine ⟨v, a1, ?_⟩
      cases e with
      | dat d => exact a2
      | own b2 o2 =>
        obtain ⟨q, rfl, c1, c2, c3⟩ := a2
        exact ⟨q, rfl, c1, c2, c3.mono (Same.refl F) (upd_ne fun z => S.ap j i b2 b o2 o p ne hj h (by rw [← z]; exact a1) hs)⟩
  · have back : ∀ (j : Nat) (b1 : Bool) (o1 : O), (ρ.set i (some (.own b o')))[j]? = some (some (.own b1 o1)) → ∃ b1' o1', ρ[j]? = some (some (.own b1' o1')) := fun j b1 o1 hj => by
      rcases getSet hj with ⟨rfl, _, _⟩ | ⟨_, hj⟩
      · exact ⟨b, o, h⟩
      · exact ⟨b1, o1, hj⟩
    obtain ⟨_, _, c1⟩ := back _ _ _ h1
    obtain ⟨_, _, c2⟩ := back _ _ _ h2
    exact S.ap j k _ _ _ _ q ne c1 c2 h3 h4
  · obtain ⟨h1, o1, h2⟩ := S.pin q e
    refine ⟨h1, ?_⟩
    by_cases hi : i = 0
    · subst hi
      rw [h] at h2
      cases h2
      exact ⟨o', List.getElem?_set_self hil⟩
    · exact ⟨o1, by rw [List.getElem?_set_ne hi]; exact h2⟩
/-- a new object that no slot holds is frozen -/
theorem SR.frzNew (S : SR K Z F ρ σ H) {p : Addr} {u : HO} (hf : F p = none) (hg : Z.G p = none) (hu : H p = some u) (hn : Sep ρ σ p) : SR K Z (upd F p u) ρ σ H := by
  have sff : Same F (upd F p u) := same_upd hf
  refine ⟨fun b x e => ?_, S.sg, fun b x e => ?_, S.len, fun j e hj => ?_, S.ap, S.pin⟩
  · by_cases hb : b = p
    · subst hb; rw [upd_same] at e; cases e; exact hu
    · rw [upd_ne hb] at e; exact S.sf b x e
  · rw [upd_ne (fun z => by rw [z, hg] at e; cases e)]
    exact S.dj b x e
  · obtain ⟨v, a1, a2⟩ := S.sl j e hj
    refine ⟨v, a1, ?_⟩
    cases e with
    | dat d => exact RD.mono sff a2
    | own b2 o2 =>
      obtain ⟨q, rfl, b1, b2, b3⟩ := a2
      exact ⟨q, rfl, (upd_ne fun z => hn j _ o2 hj (by rw [← z]; exact a1)).trans b1, b2, b3.mono sff rfl⟩
/-- the own object of a slot is frozen -/
theorem SR.frz (S : SR K Z F ρ σ H) {i : Nat} {o : O} {p : Addr} {u : HO} (h : ρ[i]? = some (some (.own false o))) (hs : σ[i]? = some (some (.ref p))) (hu : H p = some u) : SR K Z (upd F p u) (ρ.set i (some (.dat o.dat))) σ H := by
  obtain ⟨q, e1, hf, hg, r0⟩ := S.own h
  rw [hs] at e1; cases e1
  have hi : ¬ Pind ρ i := fun ⟨o', e⟩ => by rw [h] at e; cases e
  have S0 := S.forget hi
  have S1 := S0.frzNew hf hg hu fun j b o' hj hs' => by
    rcases getSet hj with ⟨_, z, _⟩ | ⟨ne, hj⟩
    · cases z
    · exact S.ap j i b false o' o p ne hj h hs' hs
  have S2 := S1.setDat (i := i) (r0.rd hu hf) fun ⟨o', e⟩ => by
    rcases getSet e with ⟨_, z, _⟩ | ⟨ne, _⟩
    · cases z
    · exact ne rfl
  rw [List.set_set] at S2
  have hil : i < σ.length := (List.getElem?_eq_some_iff.mp hs).1
  have es : σ.set i (some (V.ref p)) = σ := by
    apply List.ext_getElem?
    intro j
    by_cases hj : i = j
    · subst hj
      rw [List.getElem?_set_self hil, hs]
    · rw [List.getElem?_set_ne hj]
  rw [es] at S2
  exact S2
end
end DL
/-! DLb: results, the readings of pure and of changing expressions, the first rules. -/
namespace DL
open PySem PySem.Spec PyProof.Rows L2

/-! ### results -/
inductive Rs (α : Type) where
  | ok (a : α)
  | xc (n : Str) (as : List D)
  | bad
def Rs.bind {α β : Type} (r : Rs α) (k : α → Rs β) : Rs β := match r with
  | .ok a => k a
  | .xc n as => .xc n as
  | .bad => .bad
def Rs.of {α : Type} : Option α → Rs α
  | some a => .ok a
  | none => .bad
def Rs.map {α β : Type} (f : α → β) (r : Rs α) : Rs β := r.bind fun a => .ok (f a)
@[simp] theorem Rs.bind_ok {α β : Type} (a : α) (k : α → Rs β) : (Rs.ok a).bind k = k a := rfl
@[simp] theorem Rs.bind_xc {α β : Type} (n : Str) (as : List D) (k : α → Rs β) : (Rs.xc n as : Rs α).bind k = .xc n as := rfl
@[simp] theorem Rs.bind_bad {α β : Type} (k : α → Rs β) : (Rs.bad : Rs α).bind k = .bad := rfl
@[simp] theorem Rs.of_some {α : Type} (a : α) : Rs.of (some a) = .ok a := rfl
@[simp] theorem Rs.of_none {α : Type} : Rs.of (none : Option α) = .bad := rfl
@[simp] theorem Rs.map_ok {α β : Type} (f : α → β) (a : α) : (Rs.ok a).map f = .ok (f a) := rfl

/-- what is wanted of an exception: its class by name, its one argument -/
def XW (X : Cx) (W : WX) (F : Hp) (n : Str) (as : List D) (σ : Sl) (H : Hp) : Prop := ∀ C, X.mg n = some (.ref C) → match as with
  | [] => W (.ref C) none σ H
  | d :: _ => ∀ dx f v, H dx = some (.xd [(f, v)]) → RD X.K F v d → W (.ref C) (some dx) σ H

/-! ### pure readings -/
section
variable {α β γ δ : Type}
def U (X : Cx) (W : WX) (R : Hp → Hp → Hp → β → α → Prop) (F H : Hp) (σ : Sl) (Q : β → Hp → Prop) : Rs α → Prop
  | .ok a => ∀ b F' H', Ext F H F' H' → R H F' H' b a → Q b H'
  | .xc n as => ∀ F' H', Ext F H F' H' → XW X W F' n as σ H'
  | .bad => False
class Mn (R : Hp → Hp → Hp → β → α → Prop) : Prop where
  mn : ∀ H H1 F' H' b a, Same H H1 → R H1 F' H' b a → R H F' H' b a
theorem U.ext {X : Cx} {W : WX} {R : Hp → Hp → Hp → β → α → Prop} [Mn R] {F H F1 H1 : Hp} {σ : Sl} {Q : β → Hp → Prop} {r : Rs α} (x : Ext F H F1 H1) (u : U X W R F H σ Q r) : U X W R F1 H1 σ Q r := by
  cases r with
  | ok a => exact fun b F' H' y q => u b F' H' (x.trans y) (Mn.mn _ _ _ _ _ _ x.hh q)
  | xc n as => exact fun F' H' y => u F' H' (x.trans y)
  | bad => exact u
theorem U.bind {X : Cx} {W : WX} {R : Hp → Hp → Hp → β → α → Prop} [Mn R] {R' : Hp → Hp → Hp → δ → γ → Prop} {F H : Hp} {σ : Sl} {Q : β → Hp → Prop} {Q' : δ → Hp → Prop} {r : Rs γ} {k : γ → Rs α}
    (u : U X W R F H σ Q (r.bind k)) (h : ∀ c d F1 H1, Ext F H F1 H1 → R' H F1 H1 d c → U X W R F1 H1 σ Q (k c) → Q' d H1) : U X W R' F H σ Q' r := by
  cases r with
  | ok c => exact fun d F1 H1 x q => h c d F1 H1 x q (U.ext x u)
  | xc n as => exact u
  | bad => exact u
def tU (X : Cx) (W : WX) (R : Hp → Hp → Hp → β → α → Prop) (g : Ev → Rs α) : Sl → Hp → (β → Hp → Prop) → Prop :=
  fun σ H Q => ∃ Z F ρ, SR X.K Z F ρ σ H ∧ U X W R F H σ Q (g ρ)
end
def rD (K : Frg) : Hp → Hp → Hp → V → D → Prop := fun _ F' _ v d => RD K F' v d
def rA (K : Frg) : Hp → Hp → Hp → List V → List D → Prop := fun _ F' _ v d => RDs K F' v d
def rT : Hp → Hp → Hp → Bool → Bool → Prop := fun _ _ _ b a => b = a
def rO (K : Frg) : Hp → Hp → Hp → V → O → Prop := fun H F' H' v o => ∃ p, v = .ref p ∧ H p = none ∧ F' p = none ∧ RO K F' H' p o
instance {K : Frg} : Mn (rD K) := ⟨fun _ _ _ _ _ _ _ q => q⟩
instance {K : Frg} : Mn (rA K) := ⟨fun _ _ _ _ _ _ _ q => q⟩
instance : Mn rT := ⟨fun _ _ _ _ _ _ _ q => q⟩
instance {K : Frg} : Mn (rO K) := ⟨fun _ _ _ _ _ _ s ⟨p, e, n, q⟩ => ⟨p, e, L2.Same.free s n, q⟩⟩
abbrev PU (X : Cx) (W : WX) (e : Expr) (g : Ev → Rs D) : Prop := PE X e (tU X W (rD X.K) g)
abbrev PO (X : Cx) (W : WX) (e : Expr) (g : Ev → Rs O) : Prop := PE X e (tU X W (rO X.K) g)
abbrev PUT (X : Cx) (W : WX) (e : Expr) (g : Ev → Rs Bool) : Prop := PT X e (tU X W rT g)
abbrev PUW (X : Cx) (W : WX) (e : Expr) (g : Ev → Rs Bool) : Prop := PW X e (tU X W rT g)
abbrev PUA (X : Cx) (W : WX) (es : List Expr) (g : Ev → Rs (List D)) : Prop := PA X es (tU X W (rA X.K) g)
/-- a consequence -/
theorem pe_imp {X : Cx} {e : Expr} {t t' : TE} (h : PE X e t) (i : ∀ σ H Q, t' σ H Q → t σ H Q) : PE X e t' := ⟨fun pins s σ H Q I q => h.run pins s σ H Q I (i σ H Q q)⟩
theorem pt_imp {X : Cx} {e : Expr} {t t' : TT} (h : PT X e t) (i : ∀ σ H Q, t' σ H Q → t σ H Q) : PT X e t' := ⟨fun pins s σ H Q I q => h.run pins s σ H Q I (i σ H Q q)⟩
theorem pw_imp {X : Cx} {e : Expr} {t t' : TT} (h : PW X e t) (i : ∀ σ H Q, t' σ H Q → t σ H Q) : PW X e t' := ⟨fun wh pins s σ H Q I q => h.run wh pins s σ H Q I (i σ H Q q)⟩
theorem pa_imp {X : Cx} {e : List Expr} {t t' : TA} (h : PA X e t) (i : ∀ σ H Q, t' σ H Q → t σ H Q) : PA X e t' := ⟨fun pos pins s σ H Q I q => h.run pos pins s σ H Q I (i σ H Q q)⟩
theorem ps_imp {X : Cx} {e : Stmt} {t t' : TS} (h : PS X e t) (i : ∀ D σ H, t' D σ H → t D σ H) : PS X e t' := ⟨fun pins s σ H D I q => h.run pins s σ H D I (i D σ H q)⟩
theorem pss_imp {X : Cx} {e : List Stmt} {t t' : TS} (h : PSs X e t) (i : ∀ D σ H, t' D σ H → t D σ H) : PSs X e t' := ⟨fun pins s σ H D I q => h.run pins s σ H D I (i D σ H q)⟩

/-! ### changing readings -/
section
variable {α β γ δ : Type}
def M (X : Cx) (R : Fz → Hp → Ev → Sl → Hp → β → α → Prop) (Z : Fz) (F : Hp) (σ : Sl) (Q : β → Hp → Prop) : Rs (α × Ev) → Prop
  | .ok (a, ρ') => ∀ b F' H', Same F F' → SR X.K Z F' ρ' σ H' → R Z F' ρ' σ H' b a → Q b H'
  | _ => False
def mbind (r : Rs (γ × Ev)) (k : γ → Ev → Rs (α × Ev)) : Rs (α × Ev) := r.bind fun p => k p.1 p.2
@[simp] theorem mbind_ok (c : γ) (ρ : Ev) (k : γ → Ev → Rs (α × Ev)) : mbind (.ok (c, ρ)) k = k c ρ := rfl
@[simp] theorem mbind_bad (k : γ → Ev → Rs (α × Ev)) : mbind .bad k = .bad := rfl
theorem M.ext {X : Cx} {R : Fz → Hp → Ev → Sl → Hp → β → α → Prop} {Z : Fz} {F F1 : Hp} {σ : Sl} {Q : β → Hp → Prop} {r : Rs (α × Ev)} (x : Same F F1) (u : M X R Z F σ Q r) : M X R Z F1 σ Q r := by
  cases r with
  | ok p => exact fun b F' H' y => u b F' H' (x.trans y)
  | xc n as => exact u
  | bad => exact u
theorem M.bind {X : Cx} {R : Fz → Hp → Ev → Sl → Hp → β → α → Prop} {R' : Fz → Hp → Ev → Sl → Hp → δ → γ → Prop} {Z : Fz} {F : Hp} {σ : Sl} {Q : β → Hp → Prop} {Q' : δ → Hp → Prop} {r : Rs (γ × Ev)} {k : γ → Ev → Rs (α × Ev)}
    (u : M X R Z F σ Q (mbind r k)) (h : ∀ c ρ1 d F1 H1, Same F F1 → SR X.K Z F1 ρ1 σ H1 → R' Z F1 ρ1 σ H1 d c → M X R Z F1 σ Q (k c ρ1) → Q' d H1) : M X R' Z F σ Q' r := by
  cases r with
  | ok c => exact fun d F1 H1 x s q => h c.1 c.2 d F1 H1 x s q (M.ext x u)
  | xc n as => exact u
  | bad => exact u
def tM (X : Cx) (R : Fz → Hp → Ev → Sl → Hp → β → α → Prop) (f : Ev → Rs (α × Ev)) : Sl → Hp → (β → Hp → Prop) → Prop :=
  fun σ H Q => ∃ Z F ρ, SR X.K Z F ρ σ H ∧ M X R Z F σ Q (f ρ)
end
def mD (K : Frg) : Fz → Hp → Ev → Sl → Hp → V → D → Prop := fun _ F' _ _ _ v d => RD K F' v d
def mA (K : Frg) : Fz → Hp → Ev → Sl → Hp → List V → List D → Prop := fun _ F' _ _ _ v d => RDs K F' v d
def mT : Fz → Hp → Ev → Sl → Hp → Bool → Bool → Prop := fun _ _ _ _ _ b a => b = a
def mO (K : Frg) : Fz → Hp → Ev → Sl → Hp → V → O → Prop := fun Z F' ρ' σ H' v o => ∃ p, v = .ref p ∧ F' p = none ∧ Z.G p = none ∧ RO K F' H' p o ∧ Sep ρ' σ p
abbrev ME (X : Cx) (e : Expr) (f : Ev → Rs (D × Ev)) : Prop := PE X e (tM X (mD X.K) f)
abbrev MO (X : Cx) (e : Expr) (f : Ev → Rs (O × Ev)) : Prop := PE X e (tM X (mO X.K) f)
abbrev MT (X : Cx) (e : Expr) (f : Ev → Rs (Bool × Ev)) : Prop := PT X e (tM X mT f)
abbrev MW (X : Cx) (e : Expr) (f : Ev → Rs (Bool × Ev)) : Prop := PW X e (tM X mT f)
abbrev MA (X : Cx) (es : List Expr) (f : Ev → Rs (List D × Ev)) : Prop := PA X es (tM X (mA X.K) f)
/-- a pure one among changing ones -/
def lift {α : Type} (g : Ev → Rs α) : Ev → Rs (α × Ev) := fun ρ => (g ρ).bind fun a => .ok (a, ρ)
section
variable {α β : Type} {X : Cx} {W : WX}
theorem lift_of {R : Hp → Hp → Hp → β → α → Prop} {R' : Fz → Hp → Ev → Sl → Hp → β → α → Prop} {g : Ev → Rs α}
    (hR : ∀ Z F ρ σ H F' H' b a, SR X.K Z F ρ σ H → Ext F H F' H' → R H F' H' b a → R' Z F' ρ σ H' b a) (σ : Sl) (H : Hp) (Q : β → Hp → Prop) (h : tM X R' (lift g) σ H Q) : tU X W R g σ H Q := by
  obtain ⟨Z, F, ρ, S, m⟩ := h
  refine ⟨Z, F, ρ, S, ?_⟩
  unfold lift at m
  cases e : g ρ with
  | ok a =>
    rw [e] at m
    exact fun b F' H' x q => m b F' H' x.ff (S.ext x) (hR _ _ _ _ _ _ _ _ _ S x q)
  | xc n as => rw [e] at m; exact m.elim
  | bad => rw [e] at m; exact m.elim
theorem me_of {e : Expr} {g : Ev → Rs D} (h : PU X W e g) : ME X e (lift g) := pe_imp h (lift_of fun _ _ _ _ _ _ _ _ _ _ _ q => q)
theorem mt_of {e : Expr} {g : Ev → Rs Bool} (h : PUT X W e g) : MT X e (lift g) := pt_imp h (lift_of fun _ _ _ _ _ _ _ _ _ _ _ q => q)
theorem mw_of {e : Expr} {g : Ev → Rs Bool} (h : PUW X W e g) : MW X e (lift g) := pw_imp h (lift_of fun _ _ _ _ _ _ _ _ _ _ _ q => q)
theorem ma_of {e : List Expr} {g : Ev → Rs (List D)} (h : PUA X W e g) : MA X e (lift g) := pa_imp h (lift_of fun _ _ _ _ _ _ _ _ _ _ _ q => q)
theorem mo_of {e : Expr} {g : Ev → Rs O} (h : PO X W e g) : MO X e (lift g) := pe_imp h (lift_of fun Z F ρ σ H F' H' b a S x q => by
  obtain ⟨p, rfl, n, n', r⟩ := q
  exact ⟨p, rfl, n', L2.Same.free S.sg n, r, S.apart n⟩)
@[simp] def frzG (g : Ev → Rs O) (ρ : Ev) : Rs D := (g ρ).map O.dat
@[simp] def frzM (f : Ev → Rs (O × Ev)) (ρ : Ev) : Rs (D × Ev) := (f ρ).map fun p => (p.1.dat, p.2)
/-- a new own object is frozen: data -/
theorem pu_po {e : Expr} {g : Ev → Rs O} (h : PO X W e g) : PU X W e (frzG g) := pe_imp h fun σ H Q ⟨Z, F, ρ, S, u⟩ => ⟨Z, F, ρ, S, by
  unfold frzG at u
  cases e : g ρ with
  | ok o =>
    rw [e] at u
    intro v F1 H1 x q
    obtain ⟨p, rfl, n, n', r⟩ := q
    obtain ⟨ho, e1, _⟩ := r.ex
    exact u _ (upd F1 p ho) H1 (x.freeze n n' e1) (r.rd e1 n')
  | xc n as => rw [e] at u; exact u
  | bad => rw [e] at u; exact u⟩
/-- a changing one that gives a new own object: data -/
theorem me_mo {e : Expr} {f : Ev → Rs (O × Ev)} (h : MO X e f) : ME X e (frzM f) := pe_imp h fun σ H Q ⟨Z, F, ρ, S, u⟩ => ⟨Z, F, ρ, S, by
  unfold frzM at u
  cases e : f ρ with
  | ok o =>
    rw [e] at u
    intro v F1 H1 x S1 q
    obtain ⟨p, rfl, n, n', r, ap⟩ := q
    obtain ⟨ho, e1, _⟩ := r.ex
    exact u _ (upd F1 p ho) H1 (x.trans (same_upd n)) (S1.frzNew n n' e1 ap) (r.rd e1 n)
  | xc n as => rw [e] at u; exact u
  | bad => rw [e] at u; exact u⟩
end
end DL
/-! DLc: operators by data, comparisons, names, constants, tests. -/
namespace DL
open PySem PySem.Spec PyProof.Rows L2

/-! ### operators -/
def OpD (K : Frg) (r : R2) (g : D → D → Option D) : Prop := ∀ (F H : Hp) (x y : V) (d e c : D) (Q : VK), Same F H → RD K F x d → RD K F y e → g d e = some c →
  (∀ v F' H', Ext F H F' H' → RD K F' v c → Q v H') → r x y H Q
def UnD (K : Frg) (r : V → Hp → VK → Prop) (g : D → Option D) : Prop := ∀ (F H : Hp) (x : V) (d c : D) (Q : VK), Same F H → RD K F x d → g d = some c →
  (∀ v F' H', Ext F H F' H' → RD K F' v c → Q v H') → r x H Q
@[simp] def opG (g : D → D → Option D) (ga gb : Ev → Rs D) (ρ : Ev) : Rs D := (ga ρ).bind fun d => (gb ρ).bind fun e => Rs.of (g d e)
@[simp] def unG (g : D → Option D) (ga : Ev → Rs D) (ρ : Ev) : Rs D := (ga ρ).bind fun d => Rs.of (g d)
@[simp] def opM (g : D → D → Option D) (fa fb : Ev → Rs (D × Ev)) (ρ : Ev) : Rs (D × Ev) := mbind (fa ρ) fun d ρ1 => mbind (fb ρ1) fun e ρ2 => (Rs.of (g d e)).bind fun c => .ok (c, ρ2)
@[simp] def unM (g : D → Option D) (fa : Ev → Rs (D × Ev)) (ρ : Ev) : Rs (D × Ev) := mbind (fa ρ) fun d ρ1 => (Rs.of (g d)).bind fun c => .ok (c, ρ1)
section
variable {X : Cx} {W : WX} {a b c : Expr} {ga gb gc : Ev → Rs D} {fa fb fc : Ev → Rs (D × Ev)} {pos : Pos} {r r' : R2} {g g' : D → D → Option D}
/-- the reading of two operands and an operator, pure -/
theorem tOp_U (ho : OpD X.K r g) {σ : Sl} {H : Hp} {Q : VK} (h : tU X W (rD X.K) (opG g ga gb) σ H Q) : tOp r (tU X W (rD X.K) ga) (tU X W (rD X.K) gb) σ H Q := by
  obtain ⟨Z, F, ρ, S, u⟩ := h
  refine ⟨Z, F, ρ, S, U.bind u fun d x F1 H1 x1 r1 u1 => ⟨Z, F1, ρ, S.ext x1, U.bind u1 fun e y F2 H2 x2 r2 u2 => ?_⟩⟩
  cases e1 : g d e with
  | none => rw [e1] at u2; exact u2.elim
  | some c =>
    rw [e1] at u2
    exact ho F2 H2 x y d e c Q x2.fh (r1.mono x2.ff) r2 e1 u2
theorem tOp_M (ho : OpD X.K r g) {σ : Sl} {H : Hp} {Q : VK} (h : tM X (mD X.K) (opM g fa fb) σ H Q) : tOp r (tM X (mD X.K) fa) (tM X (mD X.K) fb) σ H Q := by
  obtain ⟨Z, F, ρ, S, u⟩ := h
  refine ⟨Z, F, ρ, S, M.bind u fun d ρ1 x F1 H1 x1 S1 r1 u1 => ⟨Z, F1, ρ1, S1, M.bind u1 fun e ρ2 y F2 H2 x2 S2 r2 u2 => ?_⟩⟩
  have r1 : RD X.K F1 x d := r1
  cases e1 : g d e with
  | none => rw [e1] at u2; exact u2.elim
  | some c =>
    rw [e1] at u2
    exact ho F2 H2 x y d e c Q S2.sf (r1.mono x2) r2 e1 fun v F' H' z q => u2 v F' H' z.ff (S2.ext z) q
theorem pu_op {op : Operator} (ho : OpR X (binaryOp op) r) (hd : OpD X.K r g) (ha : PU X W a ga) (hb : PU X W b gb) : PU X W (.BinOp a op b pos) (opG g ga gb) := pe_imp (pe_op ho ha hb) fun _ _ _ h => tOp_U hd h
theorem me_op {op : Operator} (ho : OpR X (binaryOp op) r) (hd : OpD X.K r g) (ha : ME X a fa) (hb : ME X b fb) : ME X (.BinOp a op b pos) (opM g fa fb) := pe_imp (pe_op ho ha hb) fun _ _ _ h => tOp_M hd h
theorem pu_cmp {op : CmpOp} (ho : OpR X (compareOp op) r) (hd : OpD X.K r g) (hm : behindInMarks op b = false) (ha : PU X W a ga) (hb : PU X W b gb) : PU X W (.Compare a [op] [b] pos) (opG g ga gb) := pe_imp (pe_cmpR ho ha hb hm) fun _ _ _ h => tOp_U hd h
theorem me_cmp {op : CmpOp} (ho : OpR X (compareOp op) r) (hd : OpD X.K r g) (hm : behindInMarks op b = false) (ha : ME X a fa) (hb : ME X b fb) : ME X (.Compare a [op] [b] pos) (opM g fa fb) := pe_imp (pe_cmpR ho ha hb hm) fun _ _ _ h => tOp_M hd h
theorem pu_un {op : UnaryOp} {r : V → Hp → VK → Prop} {g : D → Option D} (ho : UnR X (unaryOp op) r) (hd : UnD X.K r g) (ha : PU X W a ga) : PU X W (.UnaryOp op a pos) (unG g ga) := pe_imp (pe_un ho ha) fun σ H Q ⟨Z, F, ρ, S, u⟩ =>
  ⟨Z, F, ρ, S, U.bind u fun d x F1 H1 x1 r1 u1 => by
    cases e1 : g d with
    | none => rw [e1] at u1; exact u1.elim
    | some c => rw [e1] at u1; exact hd F1 H1 x d c Q x1.fh r1 e1 u1⟩
theorem me_un {op : UnaryOp} {r : V → Hp → VK → Prop} {g : D → Option D} (ho : UnR X (unaryOp op) r) (hd : UnD X.K r g) (ha : ME X a fa) : ME X (.UnaryOp op a pos) (unM g fa) := pe_imp (pe_un ho ha) fun σ H Q ⟨Z, F, ρ, S, u⟩ =>
  ⟨Z, F, ρ, S, M.bind u fun d ρ1 x F1 H1 x1 S1 r1 u1 => by
    cases e1 : g d with
    | none => rw [e1] at u1; exact u1.elim
    | some c => rw [e1] at u1; exact hd F1 H1 x d c Q S1.sf r1 e1 fun v F' H' z q => u1 v F' H' z.ff (S1.ext z) q⟩
end

/-! ### the operators -/
@[simp] def addD : D → D → Option D
  | .int i, .int j => some (.int (i + j))
  | .str i, .str j => if i.length + j.length ≤ sizeLine then some (.str (i ++ j)) else none
  | .tuple xs, .tuple ys => if xs.length + ys.length ≤ sizeLine then some (.tuple (xs ++ ys)) else none
  | .list xs, .list ys => if xs.length + ys.length ≤ sizeLine then some (.list (xs ++ ys)) else none
  | _, _ => none
@[simp] def subD : D → D → Option D
  | .int i, .int j => some (.int (i - j))
  | _, _ => none
def small64 (i : Int) : Bool := decide (-(2 ^ 64) < i) && decide (i < 2 ^ 64)
def mulD : D → D → Option D
  | .int i, .int j => if small64 i || small64 j then some (.int (i * j)) else none
  | _, _ => none
def modD : D → D → Option D
  | .int i, .int j => if 0 < j then some (.int (i % j)) else none
  | _, _ => none
def divD : D → D → Option D
  | .int i, .int j => if 0 < j ∧ j < 1073741824 then some (.int (i / j)) else none
  | _, _ => none
@[simp] def negD : D → Option D
  | .int i => some (.int (-i))
  | _ => none
/-- list + list, whatever may be read -/
def rCatL : R2 := fun x y H Q => ∃ l b xs zs, x = .ref l ∧ y = .ref b ∧ Rd H l (.lst xs) ∧ Rd H b (.lst zs) ∧ xs.length + zs.length ≤ sizeLine ∧ ∀ p, H p = none → Q (.ref p) (upd H p (.lst (xs ++ zs)))
theorem op_catL {X : Cx} : OpR X (binaryOp .Add) rCatL := by
  intro pins s σ H x y v u Q I rx ry h
  obtain ⟨l, b, xs, zs, rfl, rfl, hl, hb, hz, q⟩ := h
  cases rx
  cases ry
  obtain ⟨z1, its, n, r1, e1⟩ := hl.ok I.hok
  obtain ⟨z2, its2, n2, r2, e2⟩ := hb.ok I.hok
  have l1 := r1.length
  have l2 := r2.length
  refine PySem.P.add_list e1 e2 ?_ (by rw [List.size_toArray, List.size_toArray]; omega)
  rw [show its.toArray ++ its2.toArray = (its ++ its2).toArray by simp]
  exact ⟨V.ref _, _, I.lnew (t' := s.toks) (r1.append r2) (by rw [List.length_append]; omega), rfl, q _ I.fresh⟩
def rStrAdd : R2 := fun x y H Q => ∃ i j, x = .str i ∧ y = .str j ∧ i.length + j.length ≤ sizeLine ∧ Q (.str (i ++ j)) H
def rAddA (K : Frg) : R2 := fun x y H Q => rI0 (fun i j => .int (i + j)) x y H Q ∨ rStrAdd x y H Q ∨ rCatA K x y H Q ∨ rCatL x y H Q
section
variable {X : Cx} {K : Frg}
theorem o_add : OpR X (binaryOp .Add) (rAddA X.K) := op_add.or (OpR.or (r := rStrAdd) op_add_str (op_catA.or op_catL))
theorem RD.ext {F H : Hp} {v : V} {d : D} {Q : VK} (s : Same F H) (r : RD K F v d) (h : ∀ v F' H', Ext F H F' H' → RD K F' v d → Q v H') : Q v H := h v F H (Ext.refl s) r
theorem RD.newL {F H : Hp} {xs : List V} {ds : List D} {Q : VK} (s : Same F H) (hz : xs.length ≤ sizeLine) (r : RDs K F xs ds) (h : ∀ v F' H', Ext F H F' H' → RD K F' v (.list ds) → Q v H') : ∀ p, H p = none → Q (.ref p) (upd H p (.lst xs)) := fun p n =>
  h _ (upd F p (.lst xs)) _ (Ext.new s n) (.lst (.of upd_same) hz (r.mono (same_upd (L2.Same.free s n))))
theorem RD.newT {F H : Hp} {xs : List V} {ds : List D} {Q : VK} (s : Same F H) (hz : xs.length ≤ sizeLine) (r : RDs K F xs ds) (h : ∀ v F' H', Ext F H F' H' → RD K F' v (.tuple ds) → Q v H') : ∀ p, H p = none → Q (.ref p) (upd H p (.tup xs)) := fun p n =>
  h _ (upd F p (.tup xs)) _ (Ext.new s n) (.tup (.of upd_same) hz (r.mono (same_upd (L2.Same.free s n))))
theorem d_add : OpD K (rAddA K) addD := by
  intro F H x y d e c Q s r1 r2 hg h
  cases r1 with
  | int i =>
    cases r2 with
    | int j => cases hg; exact .inl ⟨i, j, rfl, rfl, RD.ext s (.int _) h⟩
    | _ => cases hg
  | str i =>
    cases r2 with
    | str j =>
      simp only [addD] at hg
      split at hg
      · cases hg; rename_i hz; exact .inr (.inl ⟨i, j, rfl, rfl, hz, RD.ext s (.str _) h⟩)
      · cases hg
    | _ => cases hg
  | tup t1 z1 q1 =>
    cases r2 with
    | tup t2 z2 q2 =>
      simp only [addD] at hg
      split at hg
      · rename_i hz
        cases hg
        refine .inr (.inr (.inl ⟨_, _, _, _, rfl, rfl, sqT_mono s t1, sqT_mono s t2, by rw [q1.length, q2.length]; exact hz, fun e => ?_, fun _ e => ?_, fun _ _ => RD.newT s (by rw [List.length_append, q1.length, q2.length]; exact hz) (q1.append q2) h⟩))
        · subst e
          cases q1
          exact RD.ext s (.tup t2 z2 q2) h
        · subst e
          cases q2
          rw [List.append_nil] at h
          exact RD.ext s (.tup t1 z1 q1) h
      · cases hg
    | _ => cases hg
  | lst t1 z1 q1 =>
    cases r2 with
    | lst t2 z2 q2 =>
      simp only [addD] at hg
      split at hg
      · rename_i hz
        cases hg
        exact .inr (.inr (.inr ⟨_, _, _, _, rfl, rfl, rd_mono s t1, rd_mono s t2, by rw [q1.length, q2.length]; exact hz, RD.newL s (by rw [List.length_append, q1.length, q2.length]; exact hz) (q1.append q2) h⟩))
      · cases hg
    | _ => cases hg
  | _ => cases hg
theorem d_sub : OpD K (rI0 fun i j => .int (i - j)) subD := by
  intro F H x y d e c Q s r1 r2 hg h
  cases r1 with
  | int i =>
    cases r2 with
    | int j => cases hg; exact ⟨i, j, rfl, rfl, RD.ext s (.int _) h⟩
    | _ => cases hg
  | _ => cases hg
theorem d_mul : OpD K (rI CMul fun i j => .int (i * j)) mulD := by
  intro F H x y d e c Q s r1 r2 hg h
  cases r1 with
  | int i =>
    cases r2 with
    | int j =>
      simp only [mulD] at hg
      split at hg
      · rename_i hz
        cases hg
        refine ⟨i, j, rfl, rfl, ?_, RD.ext s (.int _) h⟩
        simp only [small64, Bool.or_eq_true, Bool.and_eq_true, decide_eq_true_eq] at hz
        exact hz
      · cases hg
    | _ => cases hg
  | _ => cases hg
theorem d_mod : OpD K (rI (fun _ j => 0 < j) fun i j => .int (i % j)) modD := by
  intro F H x y d e c Q s r1 r2 hg h
  cases r1 with
  | int i =>
    cases r2 with
    | int j =>
      simp only [modD] at hg
      split at hg
      · rename_i hz
        cases hg
        exact ⟨i, j, rfl, rfl, hz, RD.ext s (.int _) h⟩
      · cases hg
    | _ => cases hg
  | _ => cases hg
theorem d_div : OpD K (rI CDiv fun i j => .int (i / j)) divD := by
  intro F H x y d e c Q s r1 r2 hg h
  cases r1 with
  | int i =>
    cases r2 with
    | int j =>
      simp only [divD] at hg
      split at hg
      · rename_i hz
        cases hg
        exact ⟨i, j, rfl, rfl, hz, RD.ext s (.int _) h⟩
      · cases hg
    | _ => cases hg
  | _ => cases hg
theorem d_neg : UnD K (rU fun i => .int (-i)) negD := by
  intro F H x d c Q s r1 hg h
  cases r1 with
  | int i => cases hg; exact ⟨i, rfl, RD.ext s (.int _) h⟩
  | _ => cases hg
end

/-! ### comparisons -/
@[simp] def ltD : D → D → Option D
  | .int i, .int j => some (.bool (decide (i < j)))
  | .str i, .str j => some (.bool (decide (i.cps.toList < j.cps.toList)))
  | _, _ => none
@[simp] def leD : D → D → Option D
  | .int i, .int j => some (.bool (decide (i ≤ j)))
  | _, _ => none
@[simp] def gtD : D → D → Option D
  | .int i, .int j => some (.bool (decide (j < i)))
  | _, _ => none
@[simp] def geD : D → D → Option D
  | .int i, .int j => some (.bool (decide (j ≤ i)))
  | _, _ => none
def eqD (d e : D) : Option D := if SeqAt.shaped d && SeqAt.shaped e then some (.bool (PyData.eqv d e)) else none
def neD (d e : D) : Option D := if SeqAt.shaped d && SeqAt.shaped e then some (.bool (!PyData.eqv d e)) else none
@[simp] def isD : D → D → Option D
  | .none, .none => some (.bool true)
  | _, .none => some (.bool false)
  | .bool a, .bool b => some (.bool (decide (a = b)))
  | _, _ => none
@[simp] def isntD (d e : D) : Option D := (isD d e).bind fun c => match c with
  | .bool b => some (.bool (!b))
  | _ => none
def isNn : D → Bool
  | .none => true
  | _ => false
@[simp] def itemsD : D → Option (List D)
  | .list xs => some xs
  | .tuple xs => some xs
  | _ => none
def inD (d e : D) : Option D := match e with
  | .list xs => if SeqAt.shaped d && SeqAt.shaped (.list xs) then some (.bool (xs.any fun z => PyData.eqv z d)) else none
  | .tuple xs => if SeqAt.shaped d && SeqAt.shaped (.tuple xs) then some (.bool (xs.any fun z => PyData.eqv z d)) else none
  | .str y => match d with
    | .str x => some (.bool (!(Builtin.Str.occurrences y x 0 y.length 1).isEmpty))
    | _ => none
  | _ => none
def ninD (d e : D) : Option D := (inD d e).bind fun c => match c with
  | .bool b => some (.bool (!b))
  | _ => none
section
variable {X : Cx} {K : Frg} {F H : Hp}
theorem RD.dp (s : Same F H) {v : V} {d : D} (h : RD K F v d) (hi : d.canLay0 = true) : Dp K H v d :=
  RD.rec (K := K) (F := F) (motive_1 := fun v d _ => d.canLay0 = true → Dp K H v d) (motive_2 := fun vs ds _ => PyData.canLayAll0 ds = true → DpAll K H vs ds)
    (fun _ => .non) (fun b _ => .bl b) (fun i _ => .int i) (fun x _ => .str x) (fun t _ _ r q => .lst (.inl (rd_mono s t)) (r (by simpa [PyData.canLay0] using q)))
    (fun t _ _ r q => .tup (sqT_mono s t) (r (by simpa [PyData.canLay0] using q))) (fun _ _ _ _ q => by simp [PyData.canLay0] at q) (fun _ _ _ _ q => by simp [PyData.canLay0] at q)
    (fun _ => .nil) (fun _ _ r rs q => by
      simp only [PyData.canLayAll0, Bool.and_eq_true] at q
      exact .cons (r q.1) (rs q.2)) h hi
theorem d_eq : OpD K (rEqD K) eqD := by
  intro F H x y d e c Q s r1 r2 hg h
  unfold eqD at hg
  split at hg
  · rename_i hz
    cases hg
    rw [Bool.and_eq_true] at hz
    exact ⟨d, e, r1.dp s (SeqAt.canLay_of_shaped hz.1), r2.dp s (SeqAt.canLay_of_shaped hz.2), hz.1, hz.2, RD.ext s (.bl _) h⟩
  · cases hg
theorem d_ne : OpD K (rNeD K) neD := by
  intro F H x y d e c Q s r1 r2 hg h
  unfold neD at hg
  split at hg
  · rename_i hz
    cases hg
    rw [Bool.and_eq_true] at hz
    exact ⟨d, e, r1.dp s (SeqAt.canLay_of_shaped hz.1), r2.dp s (SeqAt.canLay_of_shaped hz.2), hz.1, hz.2, RD.ext s (.bl _) h⟩
  · cases hg
def rLtS : R2 := fun x y H Q => ∃ i j, x = .str i ∧ y = .str j ∧ Q (.bl (decide (i.cps.toList < j.cps.toList))) H
def rLtA : R2 := fun x y H Q => rI0 (fun i j => .bl (decide (i < j))) x y H Q ∨ rLtS x y H Q
theorem o_lt : OpR X (compareOp .Lt) rLtA := op_lt.or (r' := rLtS) op_lt_str
theorem d_lt : OpD K rLtA ltD := by
  intro F H x y d e c Q s r1 r2 hg h
  cases r1 with
  | int i =>
    cases r2 with
    | int j => cases hg; exact .inl ⟨i, j, rfl, rfl, RD.ext s (.bl _) h⟩
    | _ => cases hg
  | str i =>
    cases r2 with
    | str j => cases hg; exact .inr ⟨i, j, rfl, rfl, RD.ext s (.bl _) h⟩
    | _ => cases hg
  | _ => cases hg
theorem d_ints {p : Int → Int → Bool} {g : D → D → Option D} (hg0 : ∀ d e c, g d e = some c → ∃ i j, d = .int i ∧ e = .int j ∧ c = .bool (p i j)) : OpD K (rI0 fun i j => .bl (p i j)) g := by
  intro F H x y d e c Q s r1 r2 hg h
  obtain ⟨i, j, rfl, rfl, rfl⟩ := hg0 d e c hg
  cases r1
  cases r2
  exact ⟨i, j, rfl, rfl, RD.ext s (.bl _) h⟩
theorem d_le : OpD K (rI0 fun i j => .bl (decide (i ≤ j))) leD := d_ints fun d e c h => by
  cases d <;> cases e <;> first | (cases h; done) | (cases h; exact ⟨_, _, rfl, rfl, rfl⟩)
theorem d_gt : OpD K (rI0 fun i j => .bl (decide (j < i))) gtD := d_ints fun d e c h => by
  cases d <;> cases e <;> first | (cases h; done) | (cases h; exact ⟨_, _, rfl, rfl, rfl⟩)
theorem d_ge : OpD K (rI0 fun i j => .bl (decide (j ≤ i))) geD := d_ints fun d e c h => by
  cases d <;> cases e <;> first | (cases h; done) | (cases h; exact ⟨_, _, rfl, rfl, rfl⟩)
def rIsNn : R2 := fun x y H Q => y = .non ∧ Q (.bl (decide (x = .non))) H
def rNotNn : R2 := fun x y H Q => y = .non ∧ Q (.bl (!decide (x = .non))) H
theorem o_is : OpR X (compareOp .Is) (fun x y H Q => rIsNn x y H Q ∨ rIsB x y H Q) := OpR.or (r := rIsNn) op_isN op_isBl
theorem o_isnt : OpR X (compareOp .IsNot) (fun x y H Q => rNotNn x y H Q ∨ rNotB x y H Q) := OpR.or (r := rNotNn) op_notN op_notBl
theorem RD.non_iff {v : V} {d : D} (h : RD K F v d) : decide (v = .non) = isNn d := by
  cases h <;> simp [isNn]
theorem isD_cases {d e c : D} (h : isD d e = some c) : (e = .none ∧ c = .bool (isNn d)) ∨ ∃ a b, d = .bool a ∧ e = .bool b ∧ c = .bool (decide (a = b)) := by
  cases e with
  | none => cases d <;> (cases h; exact .inl ⟨rfl, rfl⟩)
  | bool b => cases d <;> first | (cases h; done) | (cases h; exact .inr ⟨_, _, rfl, rfl, rfl⟩)
  | _ => cases d <;> cases h
theorem d_is : OpD K (fun x y H Q => rIsNn x y H Q ∨ rIsB x y H Q) isD := by
  intro F H x y d e c Q s r1 r2 hg h
  rcases isD_cases hg with ⟨rfl, rfl⟩ | ⟨a, b, rfl, rfl, rfl⟩
  · cases r2
    exact .inl ⟨rfl, by rw [r1.non_iff]; exact RD.ext s (.bl _) h⟩
  · cases r1
    cases r2
    exact .inr ⟨a, b, rfl, rfl, RD.ext s (.bl _) h⟩
theorem d_isnt : OpD K (fun x y H Q => rNotNn x y H Q ∨ rNotB x y H Q) isntD := by
  intro F H x y d e c Q s r1 r2 hg h
  unfold isntD at hg
  cases e1 : isD d e with
  | none => rw [e1] at hg; cases hg
  | some c' =>
    rw [e1] at hg
    rcases isD_cases e1 with ⟨rfl, rfl⟩ | ⟨a, b, rfl, rfl, rfl⟩
    · cases r2
      cases hg
      exact .inl ⟨rfl, by rw [r1.non_iff]; exact RD.ext s (.bl _) h⟩
    · cases r1
      cases r2
      cases hg
      exact .inr ⟨a, b, rfl, rfl, RD.ext s (.bl _) h⟩
def rInStr (n : Bool) : R2 := fun x y H Q => ∃ i j, x = .str i ∧ y = .str j ∧ Q (.bl (n ^^ !(Builtin.Str.occurrences j i 0 j.length 1).isEmpty)) H
def rInTD (K : Frg) (n : Bool) : R2 := fun x y H Q => ∃ d ds, Dp K H x d ∧ Dp K H y (.tuple ds) ∧ SeqAt.shaped d = true ∧ SeqAt.shaped (.tuple ds) = true ∧ Q (.bl (n ^^ ds.any fun z => PyData.eqv z d)) H
def rInLD (K : Frg) (n : Bool) : R2 := fun x y H Q => ∃ d ds, Dp K H x d ∧ Dp K H y (.list ds) ∧ SeqAt.shaped d = true ∧ SeqAt.shaped (.list ds) = true ∧ Q (.bl (n ^^ ds.any fun z => PyData.eqv z d)) H
def rInA (K : Frg) (n : Bool) : R2 := fun x y H Q => rInStr n x y H Q ∨ rInTD K n x y H Q ∨ rInLD K n x y H Q
theorem op_inTD (hu : X.A.units + 65 < cLine) : OpR X (compareOp .In) (rInTD X.K false) := by
  intro pins s σ H x y v u Q I rx ry h
  obtain ⟨d, ds, hd, he, sd, se, q⟩ := h
  obtain ⟨as, r1⟩ := Dp.reads I d x v hd rx
  obtain ⟨bs, r2⟩ := Dp.reads I (.tuple ds) y u he ry
  rw [Bool.false_xor] at q
  exact SeqAt.in_tuple_reads r2 r1 (by simpa [PyData.canLay0] using SeqAt.canLay_of_shaped se) (SeqAt.canLay_of_shaped sd) (room_in_shaped sd hu) ⟨.bl _, H, I, rfl, q⟩
theorem op_ninTD (hu : X.A.units + 65 < cLine) : OpR X (compareOp .NotIn) (rInTD X.K true) := by
  intro pins s σ H x y v u Q I rx ry h
  obtain ⟨d, ds, hd, he, sd, se, q⟩ := h
  obtain ⟨as, r1⟩ := Dp.reads I d x v hd rx
  obtain ⟨bs, r2⟩ := Dp.reads I (.tuple ds) y u he ry
  rw [Bool.true_xor] at q
  exact SeqAt.notIn_tuple_reads r2 r1 (by simpa [PyData.canLay0] using SeqAt.canLay_of_shaped se) (SeqAt.canLay_of_shaped sd) (room_in_shaped sd hu) ⟨.bl _, H, I, rfl, q⟩
theorem OpR.imp {f : Value → Value → Sem Value} {r r' : R2} (h : OpR X f r) (i : ∀ x y H Q, r' x y H Q → r x y H Q) : OpR X f r' := fun pins s σ H x y v u Q I rx ry q => h pins s σ H x y v u Q I rx ry (i _ _ _ _ q)
theorem o_in (hu : X.A.units + 65 < cLine) : OpR X (compareOp .In) (rInA X.K false) :=
  (OpR.imp op_in_str fun x y H Q ⟨i, j, e1, e2, q⟩ => ⟨i, j, e1, e2, by rwa [Bool.false_xor] at q⟩).or
    ((op_inTD hu).or (OpR.imp (op_inD hu) fun x y H Q ⟨d, ds, h1, h2, h3, h4, q⟩ => ⟨d, ds, h1, h2, h3, h4, by rwa [Bool.false_xor] at q⟩))
theorem o_nin (hu : X.A.units + 65 < cLine) : OpR X (compareOp .NotIn) (rInA X.K true) :=
  (OpR.imp op_notIn_str fun x y H Q ⟨i, j, e1, e2, q⟩ => ⟨i, j, e1, e2, by rwa [Bool.true_xor] at q⟩).or
    ((op_ninTD hu).or (OpR.imp (op_notInD hu) fun x y H Q ⟨d, ds, h1, h2, h3, h4, q⟩ => ⟨d, ds, h1, h2, h3, h4, by rwa [Bool.true_xor] at q⟩))
theorem inD_cases {d e c : D} (h : inD d e = some c) : (∃ x y, d = .str x ∧ e = .str y ∧ c = .bool (!(Builtin.Str.occurrences y x 0 y.length 1).isEmpty)) ∨
    (∃ ds, e = .tuple ds ∧ SeqAt.shaped d = true ∧ SeqAt.shaped (.tuple ds) = true ∧ c = .bool (ds.any fun z => PyData.eqv z d)) ∨
    ∃ ds, e = .list ds ∧ SeqAt.shaped d = true ∧ SeqAt.shaped (.list ds) = true ∧ c = .bool (ds.any fun z => PyData.eqv z d) := by
  cases e with
  | str y => cases d <;> first | (cases h; done) | (cases h; exact .inl ⟨_, _, rfl, rfl, rfl⟩)
  | tuple ds =>
    simp only [inD] at h
    split at h
    · rename_i hz
      rw [Bool.and_eq_true] at hz
      cases h
      exact .inr (.inl ⟨ds, rfl, hz.1, hz.2, rfl⟩)
    · cases h
  | list ds =>
    simp only [inD] at h
    split at h
    · rename_i hz
      rw [Bool.and_eq_true] at hz
      cases h
      exact .inr (.inr ⟨ds, rfl, hz.1, hz.2, rfl⟩)
    · cases h
  | _ => cases h
theorem d_inA (n : Bool) {g : D → D → Option D} (hg0 : ∀ d e c, g d e = some c → ∃ b, inD d e = some (.bool b) ∧ c = .bool (n ^^ b)) : OpD K (rInA K n) g := by
  intro F H x y d e c Q s r1 r2 hg h
  obtain ⟨b, e1, rfl⟩ := hg0 d e c hg
  rcases inD_cases e1 with ⟨i, j, rfl, rfl, e2⟩ | ⟨ds, rfl, h1, h2, e2⟩ | ⟨ds, rfl, h1, h2, e2⟩
  · cases e2
    cases r1
    cases r2
    exact .inl ⟨i, j, rfl, rfl, RD.ext s (.bl _) h⟩
  · cases e2
    exact .inr (.inl ⟨d, ds, r1.dp s (SeqAt.canLay_of_shaped h1), r2.dp s (SeqAt.canLay_of_shaped h2), h1, h2, RD.ext s (.bl _) h⟩)
  · cases e2
    exact .inr (.inr ⟨d, ds, r1.dp s (SeqAt.canLay_of_shaped h1), r2.dp s (SeqAt.canLay_of_shaped h2), h1, h2, RD.ext s (.bl _) h⟩)
theorem d_in : OpD K (rInA K false) inD := d_inA false fun d e c h => by
  rcases inD_cases h with ⟨i, j, _, _, rfl⟩ | ⟨ds, _, _, _, rfl⟩ | ⟨ds, _, _, _, rfl⟩ <;> exact ⟨_, h, by rw [Bool.false_xor]⟩
theorem d_nin : OpD K (rInA K true) ninD := d_inA true fun d e c h => by
  unfold ninD at h
  cases e1 : inD d e with
  | none => rw [e1] at h; cases h
  | some c' =>
    rw [e1] at h
    rcases inD_cases e1 with ⟨i, j, _, _, rfl⟩ | ⟨ds, _, _, _, rfl⟩ | ⟨ds, _, _, _, rfl⟩ <;> (cases h; exact ⟨_, rfl, by rw [Bool.true_xor]⟩)
end
end DL
/-! DLd: names, constants, chains, and/or/not, tests, arguments, displays, subscripts, slices, calls of built-ins. -/
namespace DL
open PySem PySem.Spec PyProof.Rows L2

/-! ### names and constants -/
@[simp] def varG (i : Nat) (ρ : Ev) : Rs D := match ρ[i]? with
  | some (some (.dat d)) => .ok d
  | _ => .bad
@[simp] def cG {α : Type} (d : α) (_ : Ev) : Rs α := .ok d
@[simp] def frzV (i : Nat) (ρ : Ev) : Rs (D × Ev) := match ρ[i]? with
  | some (some (.dat d)) => .ok (d, ρ)
  | some (some (.own false o)) => .ok (o.dat, ρ.set i (some (.dat o.dat)))
  | _ => .bad
@[simp] def giveV (i : Nat) (ρ : Ev) : Rs (O × Ev) := match ρ[i]? with
  | some (some (.own false o)) => .ok (o, ρ.set i none)
  | _ => .bad
section
variable {X : Cx} {W : WX} {pos : Pos}
theorem pu_var (i : Nat) {x : Str} (hN : X.N[i]? = some x := by rfl) (hv : Vis X.env.scope x := by first | exact Or.inl rfl | exact Or.inr (Or.inl rfl) | exact Or.inr (Or.inr rfl))
    (hd : (x == ("__debug__" : Str)) = false := by decide) (hcd : (x == ("__classdict__" : Str)) = false := by decide) : PU X W (.Name x pos) (varG i) := pe_imp (pe_var hN hv hd hcd) fun σ H Q ⟨Z, F, ρ, S, u⟩ => by
  unfold varG at u
  split at u
  · rename_i d e
    obtain ⟨v, h1, h2⟩ := S.dat e
    exact ⟨v, h1, u v F H (Ext.refl S.sf) h2⟩
  · exact u.elim
theorem me_frz (i : Nat) {x : Str} (hN : X.N[i]? = some x := by rfl) (hv : Vis X.env.scope x := by first | exact Or.inl rfl | exact Or.inr (Or.inl rfl) | exact Or.inr (Or.inr rfl))
    (hd : (x == ("__debug__" : Str)) = false := by decide) (hcd : (x == ("__classdict__" : Str)) = false := by decide) : ME X (.Name x pos) (frzV i) := pe_imp (pe_var hN hv hd hcd) fun σ H Q ⟨Z, F, ρ, S, u⟩ => by
  unfold frzV at u
  split at u
  · rename_i d e
    obtain ⟨v, h1, h2⟩ := S.dat e
    exact ⟨v, h1, u v F H (Same.refl F) S h2⟩
  · rename_i o e
    obtain ⟨p, h1, hf, hg, r⟩ := S.own e
    obtain ⟨ho, hu, _⟩ := r.ex
    exact ⟨_, h1, u _ _ H (same_upd hf) (S.frz e h1 hu) (r.rd hu hf)⟩
  · exact u.elim
theorem mo_give (i : Nat) {x : Str} (hN : X.N[i]? = some x := by rfl) (hv : Vis X.env.scope x := by first | exact Or.inl rfl | exact Or.inr (Or.inl rfl) | exact Or.inr (Or.inr rfl))
    (hd : (x == ("__debug__" : Str)) = false := by decide) (hcd : (x == ("__classdict__" : Str)) = false := by decide) : MO X (.Name x pos) (giveV i) := pe_imp (pe_var hN hv hd hcd) fun σ H Q ⟨Z, F, ρ, S, u⟩ => by
  unfold giveV at u
  split at u
  · rename_i o e
    obtain ⟨p, h1, hf, hg, r⟩ := S.own e
    refine ⟨_, h1, u _ F H (Same.refl F) (S.forget fun ⟨o', z⟩ => by rw [e] at z; cases z) ⟨p, rfl, hf, hg, r, fun j b o' hj hs => ?_⟩⟩
    rcases getSet hj with ⟨_, z, _⟩ | ⟨ne, hj⟩
    · cases z
    · exact S.ap j i b false o' o p ne hj e hs h1
  · exact u.elim
theorem pu_c {e : Expr} {v : V} {d : D} (h : PE X e (tC v)) (r : ∀ F, RD X.K F v d) : PU X W e (cG d) := pe_imp h fun σ H Q ⟨Z, F, ρ, S, u⟩ => u v F H (Ext.refl S.sf) (r F)
theorem pu_int {i j} : PU X W (.Constant (.int i) j pos) (cG (.int i)) := pu_c pe_int fun _ => .int i
theorem pu_bl {b j} : PU X W (.Constant (.bool b) j pos) (cG (.bool b)) := pu_c pe_bl fun _ => .bl b
theorem pu_non {j} : PU X W (.Constant .none j pos) (cG .none) := pu_c pe_non fun _ => .non
theorem pu_str {x j} : PU X W (.Constant (.str x) j pos) (cG (.str x)) := pu_c pe_str fun _ => .str x
/-- a module's constant: an int, a text -/
theorem pu_gI {x : Str} {i : Int} {t : Tok} (hm : X.mg x = some (.int i t)) (hg : Gl X x := by rfl) (hd : (x == ("__debug__" : Str)) = false := by decide) : PU X W (.Name x pos) (cG (.int i)) := pu_c (v := V.int i) (pe_glob hg hm ⟨t, rfl⟩ hd) fun _ => .int i
theorem pu_gS {x y : Str} {t : Tok} (hm : X.mg x = some (.str y t)) (hg : Gl X x := by rfl) (hd : (x == ("__debug__" : Str)) = false := by decide) : PU X W (.Name x pos) (cG (.str y)) := pu_c (v := V.str y) (pe_glob hg hm ⟨t, rfl⟩ hd) fun _ => .str y
end

/-! ### truth -/
@[simp] def truD : D → Option Bool
  | .none => some false
  | .bool b => some b
  | .int i => some (i != 0)
  | .str y => if y.length ≤ sizeLine then some ((y.length : Int) != 0) else none
  | .list xs => some (!xs.isEmpty)
  | .tuple xs => some (!xs.isEmpty)
  | .dict _ => none
theorem RDs.isEmpty {K : Frg} {F : Hp} {vs : List V} {ds : List D} (h : RDs K F vs ds) : vs.isEmpty = ds.isEmpty := by
  cases h <;> rfl
theorem truV {K : Frg} {F H : Hp} {v : V} {d : D} {b : Bool} (s : Same F H) (r : RD K F v d) (h : truD d = some b) : TruV K v H b := by
  cases r with
  | non => cases h; rfl
  | bl _ => cases h; rfl
  | int _ => cases h; rfl
  | str y =>
    simp only [truD] at h
    split at h
    · cases h; rename_i hz; exact ⟨hz, rfl⟩
    · cases h
  | lst t _ q => cases h; exact .inl ⟨_, .inl (rd_mono s t), by rw [q.isEmpty]⟩
  | tup t _ q => cases h; exact .inr (.inl ⟨_, sqT_mono s t, by rw [q.isEmpty]⟩)
  | dic _ _ _ => cases h
  | dit _ _ _ => cases h

/-! ### and, or, not, if: as values -/
@[simp] def andG (ga gb : Ev → Rs D) (ρ : Ev) : Rs D := (ga ρ).bind fun d => (Rs.of (truD d)).bind fun k => if k = true then gb ρ else .ok d
@[simp] def orG (ga gb : Ev → Rs D) (ρ : Ev) : Rs D := (ga ρ).bind fun d => (Rs.of (truD d)).bind fun k => if k = true then .ok d else gb ρ
@[simp] def notG (ga : Ev → Rs D) (ρ : Ev) : Rs D := (ga ρ).bind fun d => (Rs.of (truD d)).bind fun k => .ok (.bool (!k))
@[simp] def ifG {α : Type} (gc : Ev → Rs Bool) (ga gb : Ev → Rs α) (ρ : Ev) : Rs α := (gc ρ).bind fun k => if k = true then ga ρ else gb ρ
@[simp] def andT (ga gb : Ev → Rs Bool) (ρ : Ev) : Rs Bool := (ga ρ).bind fun k => if k = true then gb ρ else .ok false
@[simp] def orT (ga gb : Ev → Rs Bool) (ρ : Ev) : Rs Bool := (ga ρ).bind fun k => if k = true then .ok true else gb ρ
@[simp] def notT (ga : Ev → Rs Bool) (ρ : Ev) : Rs Bool := (ga ρ).bind fun k => .ok (!k)
@[simp] def truT (ga : Ev → Rs D) (ρ : Ev) : Rs Bool := (ga ρ).bind fun d => Rs.of (truD d)
@[simp] def ifM {α : Type} (fc : Ev → Rs (Bool × Ev)) (fa fb : Ev → Rs (α × Ev)) (ρ : Ev) : Rs (α × Ev) := mbind (fc ρ) fun k ρ1 => if k = true then fa ρ1 else fb ρ1
@[simp] def andTM (fa fb : Ev → Rs (Bool × Ev)) (ρ : Ev) : Rs (Bool × Ev) := mbind (fa ρ) fun k ρ1 => if k = true then fb ρ1 else .ok (false, ρ1)
@[simp] def orTM (fa fb : Ev → Rs (Bool × Ev)) (ρ : Ev) : Rs (Bool × Ev) := mbind (fa ρ) fun k ρ1 => if k = true then .ok (true, ρ1) else fb ρ1
@[simp] def notTM (fa : Ev → Rs (Bool × Ev)) (ρ : Ev) : Rs (Bool × Ev) := mbind (fa ρ) fun k ρ1 => .ok (!k, ρ1)
@[simp] def truTM (fa : Ev → Rs (D × Ev)) (ρ : Ev) : Rs (Bool × Ev) := mbind (fa ρ) fun d ρ1 => (Rs.of (truD d)).bind fun k => .ok (k, ρ1)
@[simp] def andM (fa fb : Ev → Rs (D × Ev)) (ρ : Ev) : Rs (D × Ev) := mbind (fa ρ) fun d ρ1 => (Rs.of (truD d)).bind fun k => if k = true then fb ρ1 else .ok (d, ρ1)
@[simp] def orM (fa fb : Ev → Rs (D × Ev)) (ρ : Ev) : Rs (D × Ev) := mbind (fa ρ) fun d ρ1 => (Rs.of (truD d)).bind fun k => if k = true then .ok (d, ρ1) else fb ρ1
@[simp] def notM (fa : Ev → Rs (D × Ev)) (ρ : Ev) : Rs (D × Ev) := mbind (fa ρ) fun d ρ1 => (Rs.of (truD d)).bind fun k => .ok (.bool (!k), ρ1)
section
variable {X : Cx} {W : WX} {a b c : Expr} {rest : List Expr} {ga gb : Ev → Rs D} {gc : Ev → Rs Bool} {ta tb : Ev → Rs Bool} {fa fb : Ev → Rs (D × Ev)} {fc ma mb : Ev → Rs (Bool × Ev)} {pos : Pos}
theorem pu_one {op} (h : PU X W a ga) : PU X W (.BoolOp op [a] pos) ga := pe_one h
theorem me_one {op} (h : ME X a fa) : ME X (.BoolOp op [a] pos) fa := pe_one h
theorem pu_and (ha : PU X W a ga) (hb : PU X W (.BoolOp .And (b :: rest) pos) gb) : PU X W (.BoolOp .And (a :: b :: rest) pos) (andG ga gb) := pe_imp (pe_andT ha hb) fun σ H Q ⟨Z, F, ρ, S, u⟩ =>
  ⟨Z, F, ρ, S, U.bind u fun d v F1 H1 x1 r1 u1 => by
    cases e : truD d with
    | none => rw [e] at u1; exact u1.elim
    | some k =>
      rw [e] at u1
      refine ⟨k, truV x1.fh r1 e, ?_⟩
      cases k with
      | true => exact iteT ⟨Z, F1, ρ, S.ext x1, u1⟩
      | false => exact iteF (u1 v F1 H1 (Ext.refl x1.fh) r1)⟩
theorem pu_or (ha : PU X W a ga) (hb : PU X W (.BoolOp .Or (b :: rest) pos) gb) : PU X W (.BoolOp .Or (a :: b :: rest) pos) (orG ga gb) := pe_imp (pe_orT ha hb) fun σ H Q ⟨Z, F, ρ, S, u⟩ =>
  ⟨Z, F, ρ, S, U.bind u fun d v F1 H1 x1 r1 u1 => by
    cases e : truD d with
    | none => rw [e] at u1; exact u1.elim
    | some k =>
      rw [e] at u1
      refine ⟨k, truV x1.fh r1 e, ?_⟩
      cases k with
      | true => exact iteT (u1 v F1 H1 (Ext.refl x1.fh) r1)
      | false => exact iteF ⟨Z, F1, ρ, S.ext x1, u1⟩⟩
theorem pu_not (ha : PU X W a ga) : PU X W (.UnaryOp .Not a pos) (notG ga) := pe_imp (pe_notT ha) fun σ H Q ⟨Z, F, ρ, S, u⟩ =>
  ⟨Z, F, ρ, S, U.bind u fun d v F1 H1 x1 r1 u1 => by
    cases e : truD d with
    | none => rw [e] at u1; exact u1.elim
    | some k =>
      rw [e] at u1
      exact ⟨k, truV x1.fh r1 e, u1 _ F1 H1 (Ext.refl x1.fh) (.bl _)⟩⟩
theorem me_and (ha : ME X a fa) (hb : ME X (.BoolOp .And (b :: rest) pos) fb) : ME X (.BoolOp .And (a :: b :: rest) pos) (andM fa fb) := pe_imp (pe_andT ha hb) fun σ H Q ⟨Z, F, ρ, S, u⟩ =>
  ⟨Z, F, ρ, S, M.bind u fun d ρ1 v F1 H1 x1 S1 r1 u1 => by
    have r1 : RD X.K F1 v d := r1
    cases e : truD d with
    | none => rw [e] at u1; exact u1.elim
    | some k =>
      rw [e] at u1
      refine ⟨k, truV S1.sf r1 e, ?_⟩
      cases k with
      | true => exact iteT ⟨Z, F1, ρ1, S1, u1⟩
      | false => exact iteF (u1 v F1 H1 (Same.refl _) S1 r1)⟩
theorem me_or (ha : ME X a fa) (hb : ME X (.BoolOp .Or (b :: rest) pos) fb) : ME X (.BoolOp .Or (a :: b :: rest) pos) (orM fa fb) := pe_imp (pe_orT ha hb) fun σ H Q ⟨Z, F, ρ, S, u⟩ =>
  ⟨Z, F, ρ, S, M.bind u fun d ρ1 v F1 H1 x1 S1 r1 u1 => by
    have r1 : RD X.K F1 v d := r1
    cases e : truD d with
    | none => rw [e] at u1; exact u1.elim
    | some k =>
      rw [e] at u1
      refine ⟨k, truV S1.sf r1 e, ?_⟩
      cases k with
      | true => exact iteT (u1 v F1 H1 (Same.refl _) S1 r1)
      | false => exact iteF ⟨Z, F1, ρ1, S1, u1⟩⟩
theorem me_not (ha : ME X a fa) : ME X (.UnaryOp .Not a pos) (notM fa) := pe_imp (pe_notT ha) fun σ H Q ⟨Z, F, ρ, S, u⟩ =>
  ⟨Z, F, ρ, S, M.bind u fun d ρ1 v F1 H1 x1 S1 r1 u1 => by
    have r1 : RD X.K F1 v d := r1
    cases e : truD d with
    | none => rw [e] at u1; exact u1.elim
    | some k =>
      rw [e] at u1
      exact ⟨k, truV S1.sf r1 e, u1 _ F1 H1 (Same.refl _) S1 (.bl _)⟩⟩
/-- tests -/
theorem put_tru (ha : PU X W a ga) (he : ∀ whole, isTrue a X.env whole = (do let v ← whole; standAt a.pos; holding [v] (truthy v)) := by intro _; rfl) : PUT X W a (truT ga) := pt_imp (pt_truth ha he) fun σ H Q ⟨Z, F, ρ, S, u⟩ =>
  ⟨Z, F, ρ, S, U.bind u fun d v F1 H1 x1 r1 u1 => by
    cases e : truD d with
    | none => rw [e] at u1; exact u1.elim
    | some k =>
      rw [e] at u1
      exact ⟨k, truV x1.fh r1 e, u1 _ F1 H1 (Ext.refl x1.fh) rfl⟩⟩
theorem mt_tru (ha : ME X a fa) (he : ∀ whole, isTrue a X.env whole = (do let v ← whole; standAt a.pos; holding [v] (truthy v)) := by intro _; rfl) : MT X a (truTM fa) := pt_imp (pt_truth ha he) fun σ H Q ⟨Z, F, ρ, S, u⟩ =>
  ⟨Z, F, ρ, S, M.bind u fun d ρ1 v F1 H1 x1 S1 r1 u1 => by
    have r1 : RD X.K F1 v d := r1
    cases e : truD d with
    | none => rw [e] at u1; exact u1.elim
    | some k =>
      rw [e] at u1
      exact ⟨k, truV S1.sf r1 e, u1 _ F1 H1 (Same.refl _) S1 rfl⟩⟩
@[simp] def boolT (ga : Ev → Rs D) (ρ : Ev) : Rs Bool := (ga ρ).bind fun d => match d with
  | .bool b => .ok b
  | _ => .bad
@[simp] def boolTM (fa : Ev → Rs (D × Ev)) (ρ : Ev) : Rs (Bool × Ev) := mbind (fa ρ) fun d ρ1 => match d with
  | .bool b => .ok (b, ρ1)
  | _ => .bad
theorem boolT_of {t : TE} {g : Ev → Rs D} (h : ∀ σ H Q, tU X W (rD X.K) g σ H Q → t σ H Q) (σ : Sl) (H : Hp) (Q : Bool → Hp → Prop) (u : tU X W rT (boolT g) σ H Q) : tTest t σ H Q := by
  obtain ⟨Z, F, ρ, S, u⟩ := u
  refine h σ H _ ⟨Z, F, ρ, S, U.bind u fun d v F1 H1 x1 r1 u1 => ?_⟩
  cases r1 with
  | bl b => exact ⟨b, rfl, u1 b F1 H1 (Ext.refl x1.fh) rfl⟩
  | _ => exact u1.elim
theorem boolTM_of {t : TE} {f : Ev → Rs (D × Ev)} (h : ∀ σ H Q, tM X (mD X.K) f σ H Q → t σ H Q) (σ : Sl) (H : Hp) (Q : Bool → Hp → Prop) (u : tM X mT (boolTM f) σ H Q) : tTest t σ H Q := by
  obtain ⟨Z, F, ρ, S, u⟩ := u
  refine h σ H _ ⟨Z, F, ρ, S, M.bind u fun d ρ1 v F1 H1 x1 S1 r1 u1 => ?_⟩
  have r1 : RD X.K F1 v d := r1
  cases r1 with
  | bl b => exact ⟨b, rfl, u1 b F1 H1 (Same.refl _) S1 rfl⟩
  | _ => exact u1.elim
theorem put_cmp {op : CmpOp} {r : R2} {g : D → D → Option D} (ho : OpR X (compareOp op) r) (hd : OpD X.K r g) (hm : behindInMarks op b = false) (ha : PU X W a ga) (hb : PU X W b gb) : PUT X W (.Compare a [op] [b] pos) (boolT (opG g ga gb)) :=
  pt_imp (pt_cmpR ho ha hb hm) (boolT_of fun _ _ _ h => tOp_U hd h)
theorem mt_cmp {op : CmpOp} {r : R2} {g : D → D → Option D} (ho : OpR X (compareOp op) r) (hd : OpD X.K r g) (hm : behindInMarks op b = false) (ha : ME X a fa) (hb : ME X b fb) : MT X (.Compare a [op] [b] pos) (boolTM (opM g fa fb)) :=
  pt_imp (pt_cmpR ho ha hb hm) (boolTM_of fun _ _ _ h => tOp_M hd h)
theorem puw_and1 (ha : PUT X W a ta) : PUW X W (.BoolOp .And [a] pos) ta := pw_and1 ha
theorem puw_or1 (ha : PUT X W a ta) : PUW X W (.BoolOp .Or [a] pos) ta := pw_or1 ha
theorem puw_and (ha : PUT X W a ta) (hb : PUW X W (.BoolOp .And (b :: rest) pos) tb) : PUW X W (.BoolOp .And (a :: b :: rest) pos) (andT ta tb) := pw_imp (pw_and ha hb) fun σ H Q ⟨Z, F, ρ, S, u⟩ =>
  ⟨Z, F, ρ, S, U.bind u fun k k' F1 H1 x1 r1 u1 => by
    cases r1
    cases k with
    | true => exact iteT ⟨Z, F1, ρ, S.ext x1, u1⟩
    | false => exact iteF (u1 _ F1 H1 (Ext.refl x1.fh) rfl)⟩
theorem puw_or (ha : PUT X W a ta) (hb : PUW X W (.BoolOp .Or (b :: rest) pos) tb) : PUW X W (.BoolOp .Or (a :: b :: rest) pos) (orT ta tb) := pw_imp (pw_or ha hb) fun σ H Q ⟨Z, F, ρ, S, u⟩ =>
  ⟨Z, F, ρ, S, U.bind u fun k k' F1 H1 x1 r1 u1 => by
    cases r1
    cases k with
    | true => exact iteT (u1 _ F1 H1 (Ext.refl x1.fh) rfl)
    | false => exact iteF ⟨Z, F1, ρ, S.ext x1, u1⟩⟩
theorem put_w (h : PUW X W a ta) : PUT X W a ta := PW.pt h
theorem put_not (ha : PUT X W a ta) : PUT X W (.UnaryOp .Not a pos) (notT ta) := pt_imp (pt_not ha) fun σ H Q ⟨Z, F, ρ, S, u⟩ =>
  ⟨Z, F, ρ, S, U.bind u fun k k' F1 H1 x1 r1 u1 => by
    cases r1
    exact u1 _ F1 H1 (Ext.refl x1.fh) rfl⟩
theorem mw_and1 (ha : MT X a ma) : MW X (.BoolOp .And [a] pos) ma := pw_and1 ha
theorem mw_or1 (ha : MT X a ma) : MW X (.BoolOp .Or [a] pos) ma := pw_or1 ha
theorem mw_and (ha : MT X a ma) (hb : MW X (.BoolOp .And (b :: rest) pos) mb) : MW X (.BoolOp .And (a :: b :: rest) pos) (andTM ma mb) := pw_imp (pw_and ha hb) fun σ H Q ⟨Z, F, ρ, S, u⟩ =>
  ⟨Z, F, ρ, S, M.bind u fun k ρ1 k' F1 H1 x1 S1 r1 u1 => by
    have r1 : k' = k := r1
    cases r1
    cases k with
    | true => exact iteT ⟨Z, F1, ρ1, S1, u1⟩
    | false => exact iteF (u1 _ F1 H1 (Same.refl _) S1 rfl)⟩
theorem mw_or (ha : MT X a ma) (hb : MW X (.BoolOp .Or (b :: rest) pos) mb) : MW X (.BoolOp .Or (a :: b :: rest) pos) (orTM ma mb) := pw_imp (pw_or ha hb) fun σ H Q ⟨Z, F, ρ, S, u⟩ =>
  ⟨Z, F, ρ, S, M.bind u fun k ρ1 k' F1 H1 x1 S1 r1 u1 => by
    have r1 : k' = k := r1
    cases r1
    cases k with
    | true => exact iteT (u1 _ F1 H1 (Same.refl _) S1 rfl)
    | false => exact iteF ⟨Z, F1, ρ1, S1, u1⟩⟩
theorem mt_w (h : MW X a ma) : MT X a ma := PW.pt h
theorem mt_not (ha : MT X a ma) : MT X (.UnaryOp .Not a pos) (notTM ma) := pt_imp (pt_not ha) fun σ H Q ⟨Z, F, ρ, S, u⟩ =>
  ⟨Z, F, ρ, S, M.bind u fun k ρ1 k' F1 H1 x1 S1 r1 u1 => by
    have r1 : k' = k := r1
    cases r1
    exact u1 _ F1 H1 (Same.refl _) S1 rfl⟩
theorem pu_if (hc : PUT X W c gc) (ha : PU X W a ga) (hb : PU X W b gb) : PU X W (.IfExp c a b pos) (ifG gc ga gb) := pe_imp (pe_ifExp hc ha hb) fun σ H Q ⟨Z, F, ρ, S, u⟩ =>
  ⟨Z, F, ρ, S, U.bind u fun k k' F1 H1 x1 r1 u1 => by
    cases r1
    cases k with
    | true => exact iteT ⟨Z, F1, ρ, S.ext x1, u1⟩
    | false => exact iteF ⟨Z, F1, ρ, S.ext x1, u1⟩⟩
theorem po_if {ga gb : Ev → Rs O} (hc : PUT X W c gc) (ha : PO X W a ga) (hb : PO X W b gb) : PO X W (.IfExp c a b pos) (ifG gc ga gb) := pe_imp (pe_ifExp hc ha hb) fun σ H Q ⟨Z, F, ρ, S, u⟩ =>
  ⟨Z, F, ρ, S, U.bind u fun k k' F1 H1 x1 r1 u1 => by
    cases r1
    cases k with
    | true => exact iteT ⟨Z, F1, ρ, S.ext x1, u1⟩
    | false => exact iteF ⟨Z, F1, ρ, S.ext x1, u1⟩⟩
theorem me_if (hc : MT X c fc) (ha : ME X a fa) (hb : ME X b fb) : ME X (.IfExp c a b pos) (ifM fc fa fb) := pe_imp (pe_ifExp hc ha hb) fun σ H Q ⟨Z, F, ρ, S, u⟩ =>
  ⟨Z, F, ρ, S, M.bind u fun k ρ1 k' F1 H1 x1 S1 r1 u1 => by
    have r1 : k' = k := r1
    cases r1
    cases k with
    | true => exact iteT ⟨Z, F1, ρ1, S1, u1⟩
    | false => exact iteF ⟨Z, F1, ρ1, S1, u1⟩⟩
end

/-! ### chains: a < b < c .. (pure) -/
structure PCh (X : Cx) (ops : List CmpOp) (es : List Expr) (t : V → TE) : Prop where
  run : ∀ (pos : Pos) (pins : List (Addr × Obj)) (s : Shared) (σ : L2.St) (H : Hp) (x : V) (v : Value) (Q : VK), Inv X pins σ H s → RelV x v → t x σ H Q →
    wpAny (model X.prog X.w) X.A (compareChain pos v ops (evalEach es X.env)) (EP X pins σ Q) X.xe s
structure PCt (X : Cx) (ops : List CmpOp) (es : List Expr) (t : V → TT) : Prop where
  run : ∀ (pos : Pos) (pins : List (Addr × Obj)) (s : Shared) (σ : L2.St) (H : Hp) (x : V) (v : Value) (Q : Bool → Hp → Prop), Inv X pins σ H s → RelV x v → t x σ H Q →
    wpAny (model X.prog X.w) X.A (testChain pos v ops (evalEach es X.env)) (TP X pins σ Q) X.xe s
/-- the reading of a chain from its left value on -/
def tCh (X : Cx) (W : WX) (g : D → Ev → Rs D) (x : V) : TE := fun σ H Q => ∃ Z F ρ d, SR X.K Z F ρ σ H ∧ RD X.K F x d ∧ U X W (rD X.K) F H σ Q (g d ρ)
def tCt (X : Cx) (W : WX) (g : D → Ev → Rs Bool) (x : V) : TT := fun σ H Q => ∃ Z F ρ d, SR X.K Z F ρ σ H ∧ RD X.K F x d ∧ U X W rT F H σ Q (g d ρ)
@[simp] def linkG (g : D → D → Option D) (gb : Ev → Rs D) (k : D → Ev → Rs D) (d : D) (ρ : Ev) : Rs D := (gb ρ).bind fun e => (Rs.of (g d e)).bind fun c => match c with
  | .bool true => k e ρ
  | .bool false => .ok (.bool false)
  | _ => .bad
@[simp] def lastG (g : D → D → Option D) (gb : Ev → Rs D) (d : D) (ρ : Ev) : Rs D := (gb ρ).bind fun e => Rs.of (g d e)
@[simp] def linkT (g : D → D → Option D) (gb : Ev → Rs D) (k : D → Ev → Rs Bool) (d : D) (ρ : Ev) : Rs Bool := (gb ρ).bind fun e => (Rs.of (g d e)).bind fun c => match c with
  | .bool true => k e ρ
  | .bool false => .ok false
  | _ => .bad
@[simp] def lastT (g : D → D → Option D) (gb : Ev → Rs D) (d : D) (ρ : Ev) : Rs Bool := (gb ρ).bind fun e => (Rs.of (g d e)).bind fun c => match c with
  | .bool b => .ok b
  | _ => .bad
@[simp] def chG {α : Type} (ga : Ev → Rs D) (k : D → Ev → Rs α) (ρ : Ev) : Rs α := (ga ρ).bind fun d => k d ρ
section
variable {X : Cx} {W : WX} {a b c : Expr} {es : List Expr} {op op' : CmpOp} {ops : List CmpOp} {ga gb : Ev → Rs D} {k : D → Ev → Rs D} {kt : D → Ev → Rs Bool} {r : R2} {g : D → D → Option D} {pos : Pos}
theorem ch_last (ho : OpR X (compareOp op) r) (hd : OpD X.K r g) (hb : PU X W b gb) : PCh X [op] [b] (tCh X W (lastG g gb)) := ⟨fun pos pins s σ H x v Q I rx ⟨Z, F, ρ, d, S, rd, u⟩ =>
  chain_last (thn (hb.run pins s σ H (fun y H1 => r x y H1 Q) I ⟨Z, F, ρ, S, U.bind u fun e y F1 H1 x1 r1 u1 => by
    cases e1 : g d e with
    | none => rw [e1] at u1; exact u1.elim
    | some c => rw [e1] at u1; exact hd F1 H1 x y d e c Q x1.fh (rd.mono x1.ff) r1 e1 u1⟩) fun u s1 ⟨y, H1, I1, ry, q⟩ => ho pins s1 σ H1 x y v u Q I1 rx ry q)⟩
theorem ch_link (ho : OpR X (compareOp op) r) (hd : OpD X.K r g) (hb : PU X W b gb) (hk : PCh X (op' :: ops) (c :: es) (tCh X W k)) : PCh X (op :: op' :: ops) (b :: c :: es) (tCh X W (linkG g gb k)) := ⟨fun pos pins s σ H x v Q I rx ⟨Z, F, ρ, d, S, rd, u⟩ =>
  chain_link (thn (hb.run pins s σ H (fun y H1 => r x y H1 fun z H2 => ∃ kk, z = .bl kk ∧ if kk = true then tCh X W k y σ H2 Q else Q (.bl false) H2) I ⟨Z, F, ρ, S, U.bind u fun e y F1 H1 x1 r1 u1 => by
    cases e1 : g d e with
    | none => rw [e1] at u1; exact u1.elim
    | some cc =>
      rw [e1] at u1
      refine hd F1 H1 x y d e cc _ x1.fh (rd.mono x1.ff) r1 e1 fun z F2 H2 x2 r2 => ?_
      cases r2 with
      | bl kk =>
        refine ⟨kk, rfl, ?_⟩
        cases kk with
        | true => exact iteT ⟨Z, F2, ρ, e, (S.ext x1).ext x2, r1.mono x2.ff, U.ext x2 u1⟩
        | false => exact iteF (u1 _ F2 H2 x2 (.bl _))
      | _ => exact u1.elim⟩) fun u s1 ⟨y, H1, I1, ry, q⟩ => thn (ho pins s1 σ H1 x y v u _ I1 rx ry q) fun cv s2 ⟨z, H2, I2, rz, kk, ez, q2⟩ => by
        subst ez
        cases rz
        refine wpAny_truthy_bool ?_
        cases kk with
        | true => exact ite_tt (hk.run pos pins s2 σ H2 y u Q I2 ry q2)
        | false => exact ite_ff ⟨.bl false, H2, I2, rfl, q2⟩)⟩
theorem pu_chain (ha : PU X W a ga) (hk : PCh X (op :: op' :: ops) (b :: c :: es) (tCh X W k)) (hm : lastMarks (op :: op' :: ops) (b :: c :: es) = false := by with_unfolding_all rfl) :
    PU X W (.Compare a (op :: op' :: ops) (b :: c :: es) pos) (chG ga k) := ⟨fun pins s σ H Q I ⟨Z, F, ρ, S, u⟩ =>
  Compare_chain (thn (ha.run pins s σ H (fun x H1 => tCh X W k x σ H1 Q) I ⟨Z, F, ρ, S, U.bind u fun d x F1 H1 x1 r1 u1 => ⟨Z, F1, ρ, d, S.ext x1, r1, u1⟩⟩) fun v s1 ⟨x, H1, I1, r1, q1⟩ => hk.run pos pins s1 σ H1 x v Q I1 r1 q1) hm⟩
theorem ct_last (ho : OpR X (compareOp op) r) (hd : OpD X.K r g) (hb : PU X W b gb) : PCt X [op] [b] (tCt X W (lastT g gb)) := ⟨fun pos pins s σ H x v Q I rx ⟨Z, F, ρ, d, S, rd, u⟩ =>
  test_last (thn (hb.run pins s σ H (fun y H1 => r x y H1 fun z H2 => ∃ kk, z = .bl kk ∧ Q kk H2) I ⟨Z, F, ρ, S, U.bind u fun e y F1 H1 x1 r1 u1 => by
    cases e1 : g d e with
    | none => rw [e1] at u1; exact u1.elim
    | some c =>
      rw [e1] at u1
      refine hd F1 H1 x y d e c _ x1.fh (rd.mono x1.ff) r1 e1 fun z F2 H2 x2 r2 => ?_
      cases r2 with
      | bl kk => exact ⟨kk, rfl, u1 kk F2 H2 x2 rfl⟩
      | _ => exact u1.elim⟩) fun u s1 ⟨y, H1, I1, ry, q⟩ => thn (ho pins s1 σ H1 x y v u _ I1 rx ry q) fun cv s2 ⟨z, H2, I2, rz, kk, ez, q2⟩ => by
        subst ez
        cases rz
        exact wpAny_truthy_bool ⟨H2, I2, q2⟩)⟩
theorem ct_link (ho : OpR X (compareOp op) r) (hd : OpD X.K r g) (hb : PU X W b gb) (hk : PCt X (op' :: ops) (c :: es) (tCt X W kt)) : PCt X (op :: op' :: ops) (b :: c :: es) (tCt X W (linkT g gb kt)) := ⟨fun pos pins s σ H x v Q I rx ⟨Z, F, ρ, d, S, rd, u⟩ =>
  test_link (thn (hb.run pins s σ H (fun y H1 => r x y H1 fun z H2 => ∃ kk, z = .bl kk ∧ if kk = true then tCt X W kt y σ H2 Q else Q false H2) I ⟨Z, F, ρ, S, U.bind u fun e y F1 H1 x1 r1 u1 => by
    cases e1 : g d e with
    | none => rw [e1] at u1; exact u1.elim
    | some cc =>
      rw [e1] at u1
      refine hd F1 H1 x y d e cc _ x1.fh (rd.mono x1.ff) r1 e1 fun z F2 H2 x2 r2 => ?_
      cases r2 with
      | bl kk =>
        refine ⟨kk, rfl, ?_⟩
        cases kk with
        | true => exact iteT ⟨Z, F2, ρ, e, (S.ext x1).ext x2, r1.mono x2.ff, U.ext x2 u1⟩
        | false => exact iteF (u1 _ F2 H2 x2 rfl)
      | _ => exact u1.elim⟩) fun u s1 ⟨y, H1, I1, ry, q⟩ => thn (ho pins s1 σ H1 x y v u _ I1 rx ry q) fun cv s2 ⟨z, H2, I2, rz, kk, ez, q2⟩ => by
        subst ez
        cases rz
        refine wpAny_truthy_bool ?_
        cases kk with
        | true => exact ite_tt (hk.run pos pins s2 σ H2 y u Q I2 ry q2)
        | false => exact ite_ff ⟨H2, I2, q2⟩)⟩
theorem put_chain (ha : PU X W a ga) (hk : PCt X (op :: op' :: ops) (b :: c :: es) (tCt X W kt)) (hm : lastMarks (op :: op' :: ops) (b :: c :: es) = false := by with_unfolding_all rfl) :
    PUT X W (.Compare a (op :: op' :: ops) (b :: c :: es) pos) (chG ga kt) := ⟨fun pins s σ H Q I ⟨Z, F, ρ, S, u⟩ =>
  isTrue_chain (thn (ha.run pins s σ H (fun x H1 => tCt X W kt x σ H1 Q) I ⟨Z, F, ρ, S, U.bind u fun d x F1 H1 x1 r1 u1 => ⟨Z, F1, ρ, d, S.ext x1, r1, u1⟩⟩) fun v s1 ⟨x, H1, I1, r1, q1⟩ => hk.run pos pins s1 σ H1 x v Q I1 r1 q1) hm⟩
end
end DL
/-! DLe: arguments, displays, subscripts, slices, calls of built-ins. -/
namespace DL
open PySem PySem.Spec PyProof.Rows L2

/-! ### argument lists -/
@[simp] def nilG (_ : Ev) : Rs (List D) := .ok []
@[simp] def consG (ga : Ev → Rs D) (gs : Ev → Rs (List D)) (ρ : Ev) : Rs (List D) := (ga ρ).bind fun d => (gs ρ).bind fun ds => .ok (d :: ds)
@[simp] def starG (ga : Ev → Rs D) (gs : Ev → Rs (List D)) (ρ : Ev) : Rs (List D) := (ga ρ).bind fun d => (Rs.of (itemsD d)).bind fun xs => (gs ρ).bind fun ds => .ok (xs ++ ds)
@[simp] def nilM (ρ : Ev) : Rs (List D × Ev) := .ok ([], ρ)
@[simp] def consM (fa : Ev → Rs (D × Ev)) (fs : Ev → Rs (List D × Ev)) (ρ : Ev) : Rs (List D × Ev) := mbind (fa ρ) fun d ρ1 => mbind (fs ρ1) fun ds ρ2 => .ok (d :: ds, ρ2)
section
variable {X : Cx} {W : WX} {e : Expr} {es : List Expr} {ga : Ev → Rs D} {gs : Ev → Rs (List D)} {fa : Ev → Rs (D × Ev)} {fs : Ev → Rs (List D × Ev)} {pos p : Pos}
theorem pua_nil : PUA X W [] nilG := pa_imp pa_nil fun σ H Q ⟨Z, F, ρ, S, u⟩ => u [] F H (Ext.refl S.sf) .nil
theorem pua_cons (ha : PU X W e ga) (hr : PUA X W es gs) (hs : starEach (e :: es) X.env = (false, eval e X.env) :: starEach es X.env := by rfl) : PUA X W (e :: es) (consG ga gs) := pa_imp (pa_cons ha hr hs) fun σ H Q ⟨Z, F, ρ, S, u⟩ =>
  ⟨Z, F, ρ, S, U.bind u fun d v F1 H1 x1 r1 u1 => ⟨Z, F1, ρ, S.ext x1, U.bind u1 fun ds vs F2 H2 x2 r2 u2 => u2 (v :: vs) F2 H2 (Ext.refl x2.fh) (.cons (r1.mono x2.ff) r2)⟩⟩
theorem itemsD_V {K : Frg} {F H : Hp} {v : V} {d : D} {xs : List D} (s : Same F H) (r : RD K F v d) (h : itemsD d = some xs) : ∃ p vs, v = .ref p ∧ (SqT K H p vs ∨ SqL K H p vs) ∧ RDs K F vs xs := by
  cases r with
  | lst t _ q => cases h; exact ⟨_, _, rfl, .inr (.inl (rd_mono s t)), q⟩
  | tup t _ q => cases h; exact ⟨_, _, rfl, .inl (sqT_mono s t), q⟩
  | _ => cases h
theorem pua_star (ha : PU X W e ga) (hr : PUA X W es gs) (hs : starEach (.Starred e p :: es) X.env = (true, eval e X.env) :: starEach es X.env := by rfl) : PUA X W (.Starred e p :: es) (starG ga gs) := pa_imp (StX.pa_star ha hr hs) fun σ H Q ⟨Z, F, ρ, S, u⟩ =>
  ⟨Z, F, ρ, S, U.bind u fun d v F1 H1 x1 r1 u1 => by
    cases e1 : itemsD d with
    | none => rw [e1] at u1; exact u1.elim
    | some xs =>
      rw [e1] at u1
      obtain ⟨q, vs, rfl, h1, h2⟩ := itemsD_V x1.fh r1 e1
      exact ⟨q, vs, rfl, h1, Z, F1, ρ, S.ext x1, U.bind u1 fun ds ws F2 H2 x2 r2 u2 => u2 _ F2 H2 (Ext.refl x2.fh) ((h2.mono x2.ff).append r2)⟩⟩
theorem ma_nil : MA X [] nilM := pa_imp pa_nil fun σ H Q ⟨Z, F, ρ, S, u⟩ => u [] F H (Same.refl F) S .nil
theorem ma_cons (ha : ME X e fa) (hr : MA X es fs) (hs : starEach (e :: es) X.env = (false, eval e X.env) :: starEach es X.env := by rfl) : MA X (e :: es) (consM fa fs) := pa_imp (pa_cons ha hr hs) fun σ H Q ⟨Z, F, ρ, S, u⟩ =>
  ⟨Z, F, ρ, S, M.bind u fun d ρ1 v F1 H1 x1 S1 r1 u1 => ⟨Z, F1, ρ1, S1, M.bind u1 fun ds ρ2 vs F2 H2 x2 S2 r2 u2 => u2 (v :: vs) F2 H2 (Same.refl _) S2 (.cons (RD.mono x2 r1) r2)⟩⟩

/-! ### displays -/
def tupD (ds : List D) : Option D := if ds.length ≤ sizeLine then some (.tuple ds) else none
def lstO (ds : List D) : Option O := if ds.length ≤ sizeLine then some (.l ds) else none
@[simp] def appG {α β : Type} (g : α → Option β) (gs : Ev → Rs α) (ρ : Ev) : Rs β := (gs ρ).bind fun ds => Rs.of (g ds)
@[simp] def appM {α β : Type} (g : α → Option β) (fs : Ev → Rs (α × Ev)) (ρ : Ev) : Rs (β × Ev) := mbind (fs ρ) fun ds ρ1 => (Rs.of (g ds)).bind fun c => .ok (c, ρ1)
theorem pu_tup {k} (h : PUA X W es gs) : PU X W (.Tuple es k pos) (appG tupD gs) := pe_imp (pe_tup h) fun σ H Q ⟨Z, F, ρ, S, u⟩ =>
  ⟨Z, F, ρ, S, U.bind u fun ds vs F1 H1 x1 r1 u1 => by
    have r1 : RDs X.K F1 vs ds := r1
    unfold tupD at u1
    split at u1
    · rename_i hz
      exact ⟨by rw [r1.length]; exact hz, RD.newT x1.fh (by rw [r1.length]; exact hz) r1 u1⟩
    · exact u1.elim⟩
theorem po_lst (h : PUA X W es gs) : PO X W (.List es pos) (appG lstO gs) := pe_imp (pe_lst h) fun σ H Q ⟨Z, F, ρ, S, u⟩ => by
  refine ⟨Z, F, ρ, S, ?_⟩
  unfold appG at u
  cases e1 : gs ρ with
  | ok ds =>
    rw [e1] at u
    intro vs F1 H1 x1 r1
    have r1 : RDs X.K F1 vs ds := r1
    have u : U X W (rO X.K) F H σ Q (Rs.of (lstO ds)) := u
    unfold lstO at u
    split at u
    · rename_i hz
      refine ⟨by rw [r1.length]; exact hz, fun p n => u _ F1 _ (x1.trans (Ext.newO x1.fh n)) ⟨p, rfl, L2.Same.free x1.hh n, L2.Same.free x1.fh n, vs, upd_same, by rw [r1.length]; exact hz, r1⟩⟩
    · exact u.elim
  | xc n as => rw [e1] at u; exact u
  | bad => rw [e1] at u; exact u
theorem me_tup {k} (h : MA X es fs) : ME X (.Tuple es k pos) (appM tupD fs) := pe_imp (pe_tup h) fun σ H Q ⟨Z, F, ρ, S, u⟩ =>
  ⟨Z, F, ρ, S, M.bind u fun ds ρ1 vs F1 H1 x1 S1 r1 u1 => by
    have r1 : RDs X.K F1 vs ds := r1
    unfold tupD at u1
    split at u1
    · rename_i hz
      exact ⟨by rw [r1.length]; exact hz, RD.newT S1.sf (by rw [r1.length]; exact hz) r1 fun v F' H' z q => u1 v F' H' z.ff (S1.ext z) q⟩
    · exact u1.elim⟩
theorem mo_lst (h : MA X es fs) : MO X (.List es pos) (appM lstO fs) := pe_imp (pe_lst h) fun σ H Q ⟨Z, F, ρ, S, u⟩ =>
  ⟨Z, F, ρ, S, M.bind u fun ds ρ1 vs F1 H1 x1 S1 r1 u1 => by
    have r1 : RDs X.K F1 vs ds := r1
    unfold lstO at u1
    split at u1
    · rename_i hz
      refine ⟨by rw [r1.length]; exact hz, fun p n => u1 _ F1 _ (Same.refl _) (S1.ext (Ext.newO S1.sf n)) ⟨p, rfl, L2.Same.free S1.sf n, L2.Same.free S1.sg n, ⟨vs, upd_same, (by rw [r1.length]; exact hz), r1⟩, S1.apart n⟩⟩
    · exact u1.elim⟩
end

/-! ### subscripts -/
def ixD (d e : D) : Option D := match d, e with
  | .list xs, .int i => atI xs i
  | .tuple xs, .int i => atI xs i
  | .str z, .int i => if z.length ≤ sizeLine then (atI z.cps.toList i).map fun c => .str ⟨#[c]⟩ else none
  | _, _ => none
theorem atI_V {K : Frg} {F : Hp} {vs : List V} {ds : List D} {i : Int} {d : D} (r : RDs K F vs ds) (h : atI ds i = some d) : ∃ v, atI vs i = some v ∧ RD K F v d := by
  unfold atI at h ⊢
  rw [r.length]
  cases e : ixN ds.length i with
  | none => rw [e] at h; cases h
  | some j =>
    rw [e] at h
    exact r.get h
theorem d_ix {K : Frg} : OpD K (rIx K) ixD := by
  intro F H x y d e c Q s r1 r2 hg h
  cases r1 with
  | lst t _ q =>
    cases r2 with
    | int i =>
      obtain ⟨v, h1, h2⟩ := atI_V q (show atI _ i = some c from hg)
      exact .inl ⟨_, _, i, v, rfl, rfl, .inl (rd_mono s t), h1, RD.ext s h2 h⟩
    | _ => cases hg
  | tup t _ q =>
    cases r2 with
    | int i =>
      obtain ⟨v, h1, h2⟩ := atI_V q (show atI _ i = some c from hg)
      exact .inr (.inl ⟨_, _, i, v, rfl, rfl, sqT_mono s t, h1, RD.ext s h2 h⟩)
    | _ => cases hg
  | str z =>
    cases r2 with
    | int i =>
      simp only [ixD] at hg
      split at hg
      · rename_i hz
        cases e1 : atI z.cps.toList i with
        | none => rw [e1] at hg; cases hg
        | some cc =>
          rw [e1] at hg
          cases hg
          exact .inr (.inr ⟨z, i, cc, rfl, rfl, hz, e1, RD.ext s (.str _) h⟩)
      · cases hg
    | _ => cases hg
  | _ => cases r2 <;> cases hg
section
variable {X : Cx} {W : WX} {a b : Expr} {ga gb : Ev → Rs D} {fa fb : Ev → Rs (D × Ev)} {pos : Pos}
theorem pu_ix (ha : PU X W a ga) (hb : PU X W b gb) (hs : PlainIx b := by exact fun _ _ => rfl) : PU X W (.Subscript a b pos) (opG ixD ga gb) := pe_imp (pe_ix ix_seq ha hb hs) fun _ _ _ h => tOp_U d_ix h
theorem me_ix (ha : ME X a fa) (hb : ME X b fb) (hs : PlainIx b := by exact fun _ _ => rfl) : ME X (.Subscript a b pos) (opM ixD fa fb) := pe_imp (pe_ix ix_seq ha hb hs) fun _ _ _ h => tOp_M d_ix h
end

/-! ### slices -/
def rI : Hp → Hp → Hp → Option Int → Option Int → Prop := fun _ _ _ b a => b = a
instance : Mn rI := ⟨fun _ _ _ _ _ _ _ q => q⟩
abbrev PUO (X : Cx) (W : WX) (e : Option Expr) (g : Ev → Rs (Option Int)) : Prop := L2.PO X e (tU X W rI g)
@[simp] def partG (ga : Ev → Rs D) (ρ : Ev) : Rs (Option Int) := (ga ρ).bind fun d => match d with
  | .int i => .ok (some i)
  | _ => .bad
def cutL {α : Type} (xs : List α) (lo hi : Option Int) : List α := (xs.drop (HT.sIx xs.length 0 lo)).take (HT.sIx xs.length xs.length hi - HT.sIx xs.length 0 lo)
def sliceD (d : D) (lo hi : Option Int) : Option D := match d with
  | .list xs => some (.list (cutL xs lo hi))
  | .tuple xs => some (.tuple (cutL xs lo hi))
  | .str z => if z.length ≤ sizeLine then some (.str (cutS z lo hi)) else none
  | _ => none
@[simp] def sliceG (ga : Ev → Rs D) (gl gh : Ev → Rs (Option Int)) (ρ : Ev) : Rs D := (ga ρ).bind fun d => (gl ρ).bind fun l => (gh ρ).bind fun h => Rs.of (sliceD d l h)
theorem RDs.cut {K : Frg} {F : Hp} {vs : List V} {ds : List D} (r : RDs K F vs ds) (lo hi : Option Int) : RDs K F (cutV vs lo hi) (cutL ds lo hi) := by
  unfold cutV cutL
  rw [r.length]
  exact RDs.take 0 _ (r.drop _)
theorem cutL_whole {α : Type} {xs : List α} {lo hi : Option Int} (h : HT.sIx xs.length 0 lo = 0 ∧ HT.sIx xs.length xs.length hi = xs.length) : cutL xs lo hi = xs := by
  unfold cutL
  rw [h.1, h.2]
  simp
section
variable {X : Cx} {W : WX} {e : Expr} {ga : Ev → Rs D} {gl gh : Ev → Rs (Option Int)} {lo hi : Option Expr} {p2 pos : Pos}
theorem puo_none : PUO X W none (cG none) := ⟨fun pins s σ H Q I ⟨Z, F, ρ, S, u⟩ => po_none.run pins s σ H Q I (u none F H (Ext.refl S.sf) rfl)⟩
theorem puo_some (h : PU X W e ga) : PUO X W (some e) (partG ga) := ⟨fun pins s σ H Q I ⟨Z, F, ρ, S, u⟩ => (po_some h).run pins s σ H Q I ⟨Z, F, ρ, S, U.bind u fun d v F1 H1 x1 r1 u1 => by
  cases r1 with
  | int i => exact ⟨i, rfl, u1 _ F1 H1 (Ext.refl x1.fh) rfl⟩
  | _ => exact u1.elim⟩⟩
def rSlAny (K : Frg) : V → Option Int → Option Int → Hp → VK → Prop := fun x lo hi H Q => rSlL K x lo hi H Q ∨ rSlA K x lo hi H Q ∨ rSlS x lo hi H Q
theorem pu_slice (ha : PU X W e ga) (hl : PUO X W lo gl) (hh : PUO X W hi gh) : PU X W (.Subscript e (.Slice lo hi none p2) pos) (sliceG ga gl gh) :=
  pe_imp (pe_slice (r := rSlAny X.K) (sl_list.or (sl_tupA.or sl_str)) ha hl hh) fun σ H Q ⟨Z, F, ρ, S, u⟩ =>
    ⟨Z, F, ρ, S, U.bind u fun d v F1 H1 x1 r1 u1 => ⟨Z, F1, ρ, S.ext x1, U.bind u1 fun l l' F2 H2 x2 r2 u2 => ⟨Z, F2, ρ, (S.ext x1).ext x2, U.bind u2 fun h h' F3 H3 x3 r3 u3 => by
      have r2 : l' = l := r2
      have r3 : h' = h := r3
      subst r2 r3
      have r1 : RD X.K F3 v d := (RD.mono x2.ff r1).mono x3.ff
      cases e1 : sliceD d l' h' with
      | none => rw [e1] at u3; exact u3.elim
      | some c =>
        rw [e1] at u3
        have s3 := x3.fh
        cases r1 with
        | lst t hz q =>
          cases e1
          exact .inl ⟨_, _, rfl, .inl (rd_mono s3 t), RD.newL s3 (Nat.le_trans (cutV_length _ _ _) hz) (q.cut _ _) u3⟩
        | tup t hz q =>
          cases e1
          refine .inr (.inl ⟨_, _, rfl, sqT_mono s3 t, fun hw => ?_, fun _ => RD.newT s3 (Nat.le_trans (cutV_length _ _ _) hz) (q.cut _ _) u3⟩)
          rw [cutL_whole (by rw [← q.length]; exact hw)] at u3
          exact RD.ext s3 (.tup t hz q) u3
        | str z =>
          simp only [sliceD] at e1
          split at e1
          · rename_i hz
            cases e1
            exact .inr (.inr ⟨z, rfl, hz, RD.ext s3 (.str _) u3⟩)
          · cases e1
        | _ => cases e1⟩⟩⟩
end

/-! ### calls of built-ins -/
def CallD (K : Frg) (r : List V → Hp → VK → Prop) (g : List D → Option D) : Prop := ∀ (F H : Hp) (vs : List V) (ds : List D) (c : D) (Q : VK), Same F H → RDs K F vs ds → g ds = some c →
  (∀ v F' H', Ext F H F' H' → RD K F' v c → Q v H') → r vs H Q
def CallO (K : Frg) (r : List V → Hp → VK → Prop) (g : List D → Option O) : Prop := ∀ (F H : Hp) (vs : List V) (ds : List D) (o : O) (Q : VK), Same F H → RDs K F vs ds → g ds = some o →
  (∀ p F' H', Ext F H F' H' → H p = none → F' p = none → RO K F' H' p o → Q (.ref p) H') → r vs H Q
section
variable {X : Cx} {W : WX} {x : Str} {p pos : Pos} {e : Expr} {es : List Expr} {gs : Ev → Rs (List D)} {fs : Ev → Rs (List D × Ev)} {id T : String} {r : List V → Hp → VK → Prop} {g : List D → Option D} {go : List D → Option O}
theorem tCB_U (hd : CallD X.K r g) {σ : Sl} {H : Hp} {Q : VK} (h : tU X W (rD X.K) (appG g gs) σ H Q) : tCB r (tU X W (rA X.K) gs) σ H Q := by
  obtain ⟨Z, F, ρ, S, u⟩ := h
  refine ⟨Z, F, ρ, S, U.bind u fun ds vs F1 H1 x1 r1 u1 => ?_⟩
  cases e1 : g ds with
  | none => rw [e1] at u1; exact u1.elim
  | some c => rw [e1] at u1; exact hd F1 H1 vs ds c Q x1.fh r1 e1 u1
theorem tCB_M (hd : CallD X.K r g) {σ : Sl} {H : Hp} {Q : VK} (h : tM X (mD X.K) (appM g fs) σ H Q) : tCB r (tM X (mA X.K) fs) σ H Q := by
  obtain ⟨Z, F, ρ, S, u⟩ := h
  refine ⟨Z, F, ρ, S, M.bind u fun ds ρ1 vs F1 H1 x1 S1 r1 u1 => ?_⟩
  cases e1 : g ds with
  | none => rw [e1] at u1; exact u1.elim
  | some c => rw [e1] at u1; exact hd F1 H1 vs ds c Q S1.sf r1 e1 fun v F' H' z q => u1 v F' H' z.ff (S1.ext z) q
theorem tCB_O (hd : CallO X.K r go) {σ : Sl} {H : Hp} {Q : VK} (h : tU X W (rO X.K) (appG go gs) σ H Q) : tCB r (tU X W (rA X.K) gs) σ H Q := by
  obtain ⟨Z, F, ρ, S, u⟩ := h
  refine ⟨Z, F, ρ, S, ?_⟩
  unfold appG at u
  cases e0 : gs ρ with
  | ok ds =>
    rw [e0] at u
    intro vs F1 H1 x1 r1
    have u : U X W (rO X.K) F H σ Q (Rs.of (go ds)) := u
    cases e1 : go ds with
    | none => rw [e1] at u; exact u.elim
    | some c =>
      rw [e1] at u
      exact hd F1 H1 vs ds c Q x1.fh r1 e1 fun p F' H' z n n' q => u _ F' H' (x1.trans z) ⟨p, rfl, L2.Same.free x1.hh n, n', q⟩
  | xc n as => rw [e0] at u; exact u
  | bad => rw [e0] at u; exact u
theorem tCB_MO (hd : CallO X.K r go) {σ : Sl} {H : Hp} {Q : VK} (h : tM X (mO X.K) (appM go fs) σ H Q) : tCB r (tM X (mA X.K) fs) σ H Q := by
  obtain ⟨Z, F, ρ, S, u⟩ := h
  refine ⟨Z, F, ρ, S, M.bind u fun ds ρ1 vs F1 H1 x1 S1 r1 u1 => ?_⟩
  cases e1 : go ds with
  | none => rw [e1] at u1; exact u1.elim
  | some c =>
    rw [e1] at u1
    refine hd F1 H1 vs ds c Q S1.sf r1 e1 fun p F' H' z n n' q => u1 _ F' H' z.ff (S1.ext z) ⟨p, rfl, n', L2.Same.free S1.sg n, q, S1.apart n⟩
theorem pu_callB (hc : CallR X (.builtin id) r) (hd : CallD X.K r g) (hm : X.mg x = none) (hv : bootBuiltins x = some (.builtin id)) (ha : PUA X W (e :: es) gs) (hg : Gl X x := by rfl) (hn : x ≠ "__name__" := by decide) (hdb : (x == ("__debug__" : Str)) = false := by decide)
    (he : starEach (e :: es) X.env = (false, eval e X.env) :: starEach es X.env := by rfl) (hpl : (backTo pos (starEach es X.env)).any (·.1) = false := by rfl) : PU X W (.Call (.Name x p) (e :: es) [] pos) (appG g gs) := pe_imp (pe_callB hc hg hm hv ha hn hdb he hpl) fun _ _ _ h => tCB_U hd h
theorem me_callB (hc : CallR X (.builtin id) r) (hd : CallD X.K r g) (hm : X.mg x = none) (hv : bootBuiltins x = some (.builtin id)) (ha : MA X (e :: es) fs) (hg : Gl X x := by rfl) (hn : x ≠ "__name__" := by decide) (hdb : (x == ("__debug__" : Str)) = false := by decide)
    (he : starEach (e :: es) X.env = (false, eval e X.env) :: starEach es X.env := by rfl) (hpl : (backTo pos (starEach es X.env)).any (·.1) = false := by rfl) : ME X (.Call (.Name x p) (e :: es) [] pos) (appM g fs) := pe_imp (pe_callB hc hg hm hv ha hn hdb he hpl) fun _ _ _ h => tCB_M hd h
theorem pu_callT (hc : CallR X (.type T) r) (hd : CallD X.K r g) (hm : X.mg x = none) (hv : bootBuiltins x = some (.type T)) (ha : PUA X W (e :: es) gs) (hg : Gl X x := by rfl) (hn : x ≠ "__name__" := by decide) (hdb : (x == ("__debug__" : Str)) = false := by decide)
    (he : starEach (e :: es) X.env = (false, eval e X.env) :: starEach es X.env := by rfl) (hpl : (backTo pos (starEach es X.env)).any (·.1) = false := by rfl) : PU X W (.Call (.Name x p) (e :: es) [] pos) (appG g gs) := pe_imp (pe_callTy hc hg hm hv ha hn hdb he hpl) fun _ _ _ h => tCB_U hd h
theorem me_callT (hc : CallR X (.type T) r) (hd : CallD X.K r g) (hm : X.mg x = none) (hv : bootBuiltins x = some (.type T)) (ha : MA X (e :: es) fs) (hg : Gl X x := by rfl) (hn : x ≠ "__name__" := by decide) (hdb : (x == ("__debug__" : Str)) = false := by decide)
    (he : starEach (e :: es) X.env = (false, eval e X.env) :: starEach es X.env := by rfl) (hpl : (backTo pos (starEach es X.env)).any (·.1) = false := by rfl) : ME X (.Call (.Name x p) (e :: es) [] pos) (appM g fs) := pe_imp (pe_callTy hc hg hm hv ha hn hdb he hpl) fun _ _ _ h => tCB_M hd h
theorem po_callB (hc : CallR X (.builtin id) r) (hd : CallO X.K r go) (hm : X.mg x = none) (hv : bootBuiltins x = some (.builtin id)) (ha : PUA X W (e :: es) gs) (hg : Gl X x := by rfl) (hn : x ≠ "__name__" := by decide) (hdb : (x == ("__debug__" : Str)) = false := by decide)
    (he : starEach (e :: es) X.env = (false, eval e X.env) :: starEach es X.env := by rfl) (hpl : (backTo pos (starEach es X.env)).any (·.1) = false := by rfl) : PO X W (.Call (.Name x p) (e :: es) [] pos) (appG go gs) := pe_imp (pe_callB hc hg hm hv ha hn hdb he hpl) fun _ _ _ h => tCB_O hd h
theorem po_callT (hc : CallR X (.type T) r) (hd : CallO X.K r go) (hm : X.mg x = none) (hv : bootBuiltins x = some (.type T)) (ha : PUA X W (e :: es) gs) (hg : Gl X x := by rfl) (hn : x ≠ "__name__" := by decide) (hdb : (x == ("__debug__" : Str)) = false := by decide)
    (he : starEach (e :: es) X.env = (false, eval e X.env) :: starEach es X.env := by rfl) (hpl : (backTo pos (starEach es X.env)).any (·.1) = false := by rfl) : PO X W (.Call (.Name x p) (e :: es) [] pos) (appG go gs) := pe_imp (pe_callTy hc hg hm hv ha hn hdb he hpl) fun _ _ _ h => tCB_O hd h
theorem mo_callB (hc : CallR X (.builtin id) r) (hd : CallO X.K r go) (hm : X.mg x = none) (hv : bootBuiltins x = some (.builtin id)) (ha : MA X (e :: es) fs) (hg : Gl X x := by rfl) (hn : x ≠ "__name__" := by decide) (hdb : (x == ("__debug__" : Str)) = false := by decide)
    (he : starEach (e :: es) X.env = (false, eval e X.env) :: starEach es X.env := by rfl) (hpl : (backTo pos (starEach es X.env)).any (·.1) = false := by rfl) : MO X (.Call (.Name x p) (e :: es) [] pos) (appM go fs) := pe_imp (pe_callB hc hg hm hv ha hn hdb he hpl) fun _ _ _ h => tCB_MO hd h
theorem mo_callT (hc : CallR X (.type T) r) (hd : CallO X.K r go) (hm : X.mg x = none) (hv : bootBuiltins x = some (.type T)) (ha : MA X (e :: es) fs) (hg : Gl X x := by rfl) (hn : x ≠ "__name__" := by decide) (hdb : (x == ("__debug__" : Str)) = false := by decide)
    (he : starEach (e :: es) X.env = (false, eval e X.env) :: starEach es X.env := by rfl) (hpl : (backTo pos (starEach es X.env)).any (·.1) = false := by rfl) : MO X (.Call (.Name x p) (e :: es) [] pos) (appM go fs) := pe_imp (pe_callTy hc hg hm hv ha hn hdb he hpl) fun _ _ _ h => tCB_MO hd h
end
end DL
/-! DLf: targets, what is walked, list comprehensions. -/
namespace DL
open PySem PySem.Spec PyProof.Rows L2

/-! ### a name is stored in the pure environment -/
@[simp] def setE (i : Nat) (x : Option E) (ρ : Ev) : Option Ev := match ρ[i]? with
  | none => none
  | some (some (.own true _)) => none
  | some _ => some (ρ.set i x)
theorem setE_ok {i : Nat} {x : Option E} {ρ ρ' : Ev} (h : setE i x ρ = some ρ') : ρ' = ρ.set i x ∧ ¬ Pind ρ i ∧ i < ρ.length := by
  unfold setE at h
  split at h
  · cases h
  · cases h
  · rename_i y h1 h2
    cases h
    refine ⟨rfl, fun ⟨o, e⟩ => ?_, (List.getElem?_eq_some_iff.mp h2).1⟩
    rw [h2] at e
    cases e
    exact h1 o rfl
def wipeE : List Nat → Ev → Option Ev
  | [], ρ => some ρ
  | v :: vs, ρ => (wipeE vs ρ).bind (setE v none)
theorem wipeE_ok : ∀ {vs : List Nat} {ρ ρ' : Ev}, wipeE vs ρ = some ρ' → ρ'.length = ρ.length ∧ (∀ (i : Nat) (e : E), ρ'[i]? = some (some e) → ρ[i]? = some (some e) ∧ i ∉ vs) ∧ (Pind ρ 0 → Pind ρ' 0)
  | [], ρ, ρ', h => by
    cases h
    exact ⟨rfl, fun i e q => ⟨q, by simp⟩, fun q => q⟩
  | v :: vs, ρ, ρ', h => by
    unfold wipeE at h
    cases e1 : wipeE vs ρ with
    | none => rw [e1] at h; cases h
    | some ρ1 =>
      rw [e1] at h
      obtain ⟨rfl, np, hl⟩ := setE_ok (show setE v none ρ1 = some ρ' from h)
      obtain ⟨a1, a2, a3⟩ := wipeE_ok e1
      refine ⟨by rw [List.length_set]; exact a1, fun i e q => ?_, fun q => (a3 q).set np⟩
      rcases getSet q with ⟨_, z, _⟩ | ⟨ne, q⟩
      · cases z
      · obtain ⟨b1, b2⟩ := a2 i e q
        exact ⟨b1, by simp only [List.mem_cons, not_or]; exact ⟨ne, b2⟩⟩
theorem wipe_get {σ : Sl} {i : Nat} : ∀ {vs : List Nat}, i ∉ vs → (wipe σ vs)[i]? = σ[i]?
  | [], _ => rfl
  | v :: vs, h => by
    unfold wipe
    rw [List.getElem?_set_ne fun z => h (by simp [z])]
    exact wipe_get fun z => h (by simp [z])
section
variable {K : Frg} {Z : Fz} {F F' H H' : Hp} {ρ ρ' : Ev} {σ σ' : Sl}
/-- the block of a comprehension: its own names are forgotten on both sides -/
theorem SR.wipe (S : SR K Z F ρ σ H) {vs : List Nat} (h : wipeE vs ρ = some ρ') (h0 : Z.p0 ≠ none → 0 ∉ vs) : SR K Z F ρ' (L2.wipe σ vs) H := by
  obtain ⟨a1, a2, a3⟩ := wipeE_ok h
  have S1 := S.weak a1 (fun i e q => (a2 i e q).1) a3
  refine ⟨S1.sf, S1.sg, S1.dj, by rw [wipe_length]; exact S1.len, fun i e q => ?_, fun i j b b' o o' p ne h1 h2 h3 h4 => ?_, fun p e => ?_⟩
  · rw [wipe_get (a2 i e q).2]
    exact S1.sl i e q
  · rw [wipe_get (a2 i _ h1).2] at h3
    rw [wipe_get (a2 j _ h2).2] at h4
    exact S1.ap i j b b' o o' p ne h1 h2 h3 h4
  · obtain ⟨h1, h2⟩ := S1.pin p e
    rw [wipe_get (h0 (by rw [e]; exact fun z => by cases z))]
    exact ⟨h1, h2⟩
/-- slots that agree -/
theorem SR.slots (S : SR K Z F ρ σ H) (hl : σ'.length = σ.length) (h : ∀ (i : Nat) (e : E), ρ[i]? = some (some e) → σ'[i]? = σ[i]?) (h0 : ∀ p, Z.p0 = some p → σ'[0]? = σ[0]?) : SR K Z F ρ σ' H :=
  ⟨S.sf, S.sg, S.dj, hl.trans S.len, fun i e q => by rw [h i e q]; exact S.sl i e q, fun i j b b' o o' p ne h1 h2 h3 h4 => by
    rw [h i _ h1] at h3
    rw [h j _ h2] at h4
    exact S.ap i j b b' o o' p ne h1 h2 h3 h4, fun p e => ⟨(h0 p e).trans (S.pin p e).1, (S.pin p e).2⟩⟩
/-- an object that nobody knows is changed -/
theorem SR.other (S : SR K Z F ρ σ H) {D : Addr} {u : HO} (hf : F D = none) (hg : Z.G D = none) (ha : Sep ρ σ D) : SR K Z F ρ σ (upd H D u) := by
  refine ⟨fun b x e => ?_, fun b x e => ?_, S.dj, S.len, fun i e q => ?_, S.ap, S.pin⟩
  · rw [upd_ne (fun z => by rw [z, hf] at e; cases e)]
    exact S.sf b x e
  · rw [upd_ne (fun z => by rw [z, hg] at e; cases e)]
    exact S.sg b x e
  · obtain ⟨v, h1, h2⟩ := S.sl i e q
    refine ⟨v, h1, ?_⟩
    cases e with
    | dat d => exact h2
    | own b o =>
      obtain ⟨p, rfl, c1, c2, c3⟩ := h2
      exact ⟨p, rfl, c1, c2, c3.mono (Same.refl F) (upd_ne fun z => ha i b o q (by rw [← z]; exact h1))⟩
/-- it is taken into what others own -/
theorem SR.guard (S : SR K Z F ρ σ H) {D : Addr} {u : HO} (hf : F D = none) (hu : H D = some u) (ha : Sep ρ σ D) : SR K ⟨upd Z.G D u, Z.p0⟩ F ρ σ H := by
  refine ⟨S.sf, fun b x e => ?_, fun p x e => ?_, S.len, fun i e q => ?_, S.ap, S.pin⟩
  · have e : upd Z.G D u b = some x := e
    by_cases hb : b = D
    · subst hb; rw [upd_same] at e; cases e; exact hu
    · rw [upd_ne hb] at e; exact S.sg b x e
  · have e : upd Z.G D u p = some x := e
    by_cases hb : p = D
    · subst hb; exact hf
    · rw [upd_ne hb] at e; exact S.dj p x e
  · obtain ⟨v, h1, h2⟩ := S.sl i e q
    refine ⟨v, h1, ?_⟩
    cases e with
    | dat d => exact h2
    | own b o =>
      obtain ⟨p, rfl, c1, c2, c3⟩ := h2
      exact ⟨p, rfl, c1, (upd_ne fun z => ha i b o q (by rw [← z]; exact h1)).trans c2, c3⟩
theorem SR.unguard {D : Addr} {u : HO} (S : SR K ⟨upd Z.G D u, Z.p0⟩ F ρ σ H) (hg : Z.G D = none) : SR K Z F ρ σ H ∧ F D = none ∧ H D = some u ∧ Sep ρ σ D := by
  have gD : upd Z.G D u D = some u := upd_same
  refine ⟨⟨S.sf, fun b x e => S.sg b x ?_, fun p x e => S.dj p x ?_, S.len, fun i e q => ?_, S.ap, S.pin⟩, S.dj D u gD, S.sg D u gD, fun j b o hj hs => ?_⟩
  · show upd Z.G D u b = some x
    rw [upd_ne (fun z => by rw [z, hg] at e; cases e)]
    exact e
  · show upd Z.G D u p = some x
    rw [upd_ne (fun z => by rw [z, hg] at e; cases e)]
    exact e
  · obtain ⟨v, h1, h2⟩ := S.sl i e q
    refine ⟨v, h1, ?_⟩
    cases e with
    | dat d => exact h2
    | own b o =>
      obtain ⟨p, rfl, c1, c2, c3⟩ := h2
      have c2 : upd Z.G D u p = none := c2
      refine ⟨p, rfl, c1, ?_, c3⟩
      by_cases hp : p = D
      · rw [hp, upd_same] at c2; cases c2
      · rw [upd_ne hp] at c2; exact c2
  · obtain ⟨p, h1, _, c2, _⟩ := S.own hj
    rw [hs] at h1
    cases h1
    have c2 : upd Z.G D u D = none := c2
    rw [upd_same] at c2
    cases c2
end

theorem RDs.inv {K : Frg} {F : Hp} {vs : List V} {ds : List D} (h : RDs K F vs ds) : (vs = [] ∧ ds = []) ∨ ∃ v vr d dr, vs = v :: vr ∧ ds = d :: dr ∧ RD K F v d ∧ RDs K F vr dr := by
  cases h with
  | nil => exact .inl ⟨rfl, rfl⟩
  | cons r rs => exact .inr ⟨_, _, _, _, rfl, rfl, r, rs⟩
/-! ### targets -/
def tTG (X : Cx) (b : D → Ev → Option Ev) (sl : List Nat) : TG := fun v σ H Q => ∃ Z F ρ d ρ', SR X.K Z F ρ σ H ∧ RD X.K F v d ∧ b d ρ = some ρ' ∧ ∀ σ', SR X.K Z F ρ' σ' H → (∀ vs : List Nat, (∀ i ∈ sl, i ∈ vs) → wipe σ' vs = wipe σ vs) → Q σ' H
def tTGs (X : Cx) (b : List D → Ev → Option Ev) (sl : List Nat) : TGs := fun v σ H Q => ∃ Z F ρ d ρ', SR X.K Z F ρ σ H ∧ RDs X.K F v d ∧ b d ρ = some ρ' ∧ ∀ σ', SR X.K Z F ρ' σ' H → (∀ vs : List Nat, (∀ i ∈ sl, i ∈ vs) → wipe σ' vs = wipe σ vs) → Q σ' H
abbrev TU (X : Cx) (tg : Expr) (b : D → Ev → Option Ev) (sl : List Nat) : Prop := PG X tg (tTG X b sl)
abbrev TUs (X : Cx) (tg : List Expr) (b : List D → Ev → Option Ev) (sl : List Nat) : Prop := PGs X tg (tTGs X b sl)
@[simp] def nmB (i : Nat) (d : D) (ρ : Ev) : Option Ev := setE i (some (.dat d)) ρ
@[simp] def nilB (ds : List D) (ρ : Ev) : Option Ev := match ds with
  | [] => some ρ
  | _ => none
@[simp] def consB (b : D → Ev → Option Ev) (bs : List D → Ev → Option Ev) (ds : List D) (ρ : Ev) : Option Ev := match ds with
  | d :: r => (b d ρ).bind (bs r)
  | [] => none
@[simp] def tupB (n : Nat) (bs : List D → Ev → Option Ev) (d : D) (ρ : Ev) : Option Ev := match d with
  | .tuple ds => if ds.length = n then bs ds ρ else none
  | .list ds => if ds.length = n then bs ds ρ else none
  | _ => none
theorem wipe_set {σ : Sl} {i : Nat} {x : Option V} : ∀ {vs : List Nat}, i ∈ vs → wipe (σ.set i x) vs = wipe σ vs
  | v :: vs, h => by
    unfold wipe
    by_cases hi : i ∈ vs
    · rw [wipe_set hi]
    · have e : i = v := by
        rcases List.mem_cons.mp h with z | z
        · exact z
        · exact absurd z hi
      subst e
      have comm : ∀ {vs : List Nat}, i ∉ vs → wipe (σ.set i x) vs = (wipe σ vs).set i x := fun {vs} => by
        induction vs with
        | nil => intro _; rfl
        | cons w ws ih =>
          intro hn
          simp only [List.mem_cons, not_or] at hn
          show (wipe (σ.set i x) ws).set w none = ((wipe σ ws).set w none).set i x
          rw [ih hn.2, List.set_comm _ _ hn.1]
      rw [comm hi, List.set_set]
section
variable {X : Cx} {pos : Pos}
theorem tu_name (i : Nat) {x : Str} (hN : X.N.Nodup) (hi : X.N[i]? = some x := by rfl) (hx : Loc X.env.scope x := by first | exact Or.inl rfl | exact Or.inr rfl) (hf : X.fn x = true ∨ X.env.scope.names.lookup x = some .local := by first | exact Or.inl rfl | exact Or.inr rfl) : TU X (.Name x pos) (nmB i) [i] := by
  refine ⟨fun pins s σ H v u Q I r ⟨Z, F, ρ, d, ρ', S, rd, hb, q⟩ => (pg_name hN hi hx hf).run pins s σ H v u Q I r ?_⟩
  obtain ⟨rfl, np, hl⟩ := setE_ok hb
  exact q _ (S.setDat rd np) fun vs hv => wipe_set (hv i (by simp))
theorem tus_nil : TUs X [] nilB [] := ⟨fun pins s σ H v u Q I r ⟨Z, F, ρ, d, ρ', S, rd, hb, q⟩ => pgs_nil.run pins s σ H v u Q I r (by
  cases rd with
  | nil => cases hb; exact ⟨rfl, q σ S fun _ _ => rfl⟩
  | cons _ _ => cases hb)⟩
theorem tus_cons {e : Expr} {es : List Expr} {b : D → Ev → Option Ev} {bs : List D → Ev → Option Ev} {sl sls : List Nat} (h1 : TU X e b sl) (h2 : TUs X es bs sls)
    (hs : (assignEach (e :: es) X.env).map (·.2) = assign e X.env :: (assignEach es X.env).map (·.2) := by rfl) : TUs X (e :: es) (consB b bs) (sl ++ sls) := ⟨fun pins s σ H v u Q I r ⟨Z, F, ρ, d, ρ', S, rd, hb, q⟩ => (pgs_cons h1 h2 hs).run pins s σ H v u Q I r (by
  rcases rd.inv with ⟨rfl, rfl⟩ | ⟨v1, vr, d1, dr, rfl, rfl, r1, rs⟩
  · cases hb
  · have hb : (b d1 ρ).bind (bs dr) = some ρ' := hb
    cases e1 : b d1 ρ with
    | none => rw [e1] at hb; cases hb
    | some ρ1 =>
      rw [e1] at hb
      exact ⟨v1, vr, rfl, Z, F, ρ, d1, ρ1, S, r1, e1, fun σ1 S1 w1 => ⟨Z, F, ρ1, dr, ρ', S1, rs, hb, fun σ2 S2 w2 => q σ2 S2 fun vs hv => (w2 vs fun i hi => hv i (List.mem_append_right _ hi)).trans (w1 vs fun i hi => hv i (List.mem_append_left _ hi))⟩⟩)⟩
theorem tu_tup {es : List Expr} {k : Nat} {bs : List D → Ev → Option Ev} {sl : List Nat} {n : Nat} (hc : X.calm = true) (h : TUs X es bs sl)
    (hn : (assignEach es X.env).length = n := by rfl) (hst : (assignEach es X.env).findIdx? (·.1) = none := by rfl) : TU X (.Tuple es k pos) (tupB n bs) sl := ⟨fun pins s σ H v u Q I r ⟨Z, F, ρ, d, ρ', S, rd, hb, q⟩ => by
  cases rd with
  | tup t _ rs =>
    simp only [tupB] at hb
    split at hb
    · rename_i hz
      exact (pg_tup hc h hn hst).run pins s σ H _ u Q I r ⟨_, _, rfl, sqT_mono S.sf t, by rw [rs.length]; exact hz, Z, F, ρ, _, ρ', S, rs, hb, q⟩
    · cases hb
  | lst t _ rs =>
    simp only [tupB] at hb
    split at hb
    · rename_i hz
      exact (pg_lst hc h hn hst).run pins s σ H _ u Q I r ⟨_, _, rfl, .inl (rd_mono S.sf t), by rw [rs.length]; exact hz, Z, F, ρ, _, ρ', S, rs, hb, q⟩
    · cases hb
  | _ => cases hb⟩
end

/-! ### what is walked -/
def ItD (K : Frg) (F : Hp) (J : It) (ds : List D) : Prop := ds.length ≤ sizeLine ∧ ∃ (G : Hp → Prop) (Y : Nat → Hp → V → Hp → Prop), Walk J ds.length G Y ∧ (∀ F' H', Same F F' → Same F' H' → G H') ∧
  ∀ i F' H' x H'', Same F F' → Same F' H' → Y i H' x H'' → ∃ d F'', ds[i]? = some d ∧ Ext F' H' F'' H'' ∧ RD K F'' x d
theorem ItD.mono {K : Frg} {F F1 : Hp} {J : It} {ds : List D} (h : ItD K F J ds) (s : Same F F1) : ItD K F1 J ds := by
  obtain ⟨hz, G, Y, w, hG, hY⟩ := h
  exact ⟨hz, G, Y, w, fun F' H' a b => hG F' H' (s.trans a) b, fun i F' H' x H'' a b => hY i F' H' x H'' (s.trans a) b⟩
def rIt (K : Frg) : Hp → Hp → Hp → It → List D → Prop := fun _ F' _ J ds => ItD K F' J ds
instance {K : Frg} : Mn (rIt K) := ⟨fun _ _ _ _ _ _ _ q => q⟩
def mIt (K : Frg) : Fz → Hp → Ev → Sl → Hp → It → List D → Prop := fun _ F' _ _ _ J ds => ItD K F' J ds
abbrev IU (X : Cx) (W : WX) (tg iter : Expr) (g : Ev → Rs (List D)) : Prop := PI X tg iter (tU X W (rIt X.K) g)
abbrev IM (X : Cx) (tg iter : Expr) (f : Ev → Rs (List D × Ev)) : Prop := PI X tg iter (tM X (mIt X.K) f)
theorem pi_imp {X : Cx} {tg e : Expr} {t t' : TI} (h : PI X tg e t) (i : ∀ σ H R, t' σ H R → t σ H R) : PI X tg e t' := ⟨fun pins s σ H R I q => h.run pins s σ H R I (i σ H R q)⟩
theorem im_of {X : Cx} {W : WX} {tg e : Expr} {g : Ev → Rs (List D)} (h : IU X W tg e g) : IM X tg e (lift g) := pi_imp h (lift_of fun _ _ _ _ _ _ _ _ _ _ _ q => q)
def chars (z : Str) : List D := z.cps.toList.map fun c => .str ⟨#[c]⟩
/-- a list, a tuple, a text -/
@[simp] def walkD : D → Option (List D)
  | .list xs => some xs
  | .tuple xs => some xs
  | .str z => if z.length ≤ sizeLine then some (chars z) else none
  | _ => none
section
variable {K : Frg} {F H : Hp} {a : Addr} {xs : List V} {ds : List D}
theorem itd_yat {J : It} {G : Hp → Prop} (hz : ds.length ≤ sizeLine) (w : Walk J ds.length G (YAt xs)) (hG : ∀ F' H', Same F F' → Same F' H' → G H') (r : RDs K F xs ds) : ItD K F J ds :=
  ⟨hz, G, YAt xs, w, hG, fun i F' H' x H'' s1 s2 y => by
    obtain ⟨rfl, e⟩ := y
    obtain ⟨d, e2, rd⟩ := r.getV e
    exact ⟨d, F', e2, Ext.refl s2, rd.mono s1⟩⟩
end
/-- what is walked is a list, a tuple or a text -/
def iSeq (K : Frg) (tl : TE) : TI := fun σ H R => tl σ H fun x H1 => (∃ a, x = .ref a ∧ (∃ xs, SqL K H1 a xs) ∧ R (Itl K a) H1) ∨ (∃ a, x = .ref a ∧ (∃ xs, SqT K H1 a xs) ∧ R (Itt K a) H1) ∨ ∃ z, x = .str z ∧ R (Its z) H1
theorem pi_seq {X : Cx} {tg l : Expr} {tl : TE} (hl : PE X l tl) : PI X tg l (iSeq X.K tl) := by
  refine ⟨fun pins s σ H R I h => thn (hl.run pins s σ H _ I h) fun v s1 ⟨x, H1, I1, r1, q1⟩ => ?_⟩
  rcases q1 with ⟨a, rfl, ⟨xs, hq⟩, q⟩ | ⟨a, rfl, ⟨xs, hq⟩, q⟩ | ⟨z, rfl, q⟩
  · cases r1
    obtain ⟨its, rv, p, hz⟩ := I1.list hq
    refine wpAny_pyIter_list p.isList ?_
    refine ⟨s1.heap.objs.size, [s1.heap.objs.size], _, _, H1, rfl, I1.kept (t' := s1.toks) fun b o e => Heap.get?_push_of_some _ e, turn_list a _, ⟨_, Heap.get?_push_size _ rfl, rfl, rfl⟩, fun b hb => ?_, q⟩
    rw [List.mem_singleton.mp hb]
    exact I1.fpOk (Nat.le_refl _) (I1.hok.fresh (Nat.le_refl _))
  · cases r1
    obtain ⟨its, rv, p, hz⟩ := I1.tuple hq
    refine wpAny_pyIter_tuple (show s1.heap.IsTuple a its.toArray from p) ?_
    refine ⟨s1.heap.objs.size, [s1.heap.objs.size], _, _, H1, rfl, I1.kept (t' := s1.toks) fun b o e => Heap.get?_push_of_some _ e, turn_tuple a _, ⟨_, Heap.get?_push_size _ rfl, rfl, rfl⟩, fun b hb => ?_, q⟩
    rw [List.mem_singleton.mp hb]
    exact I1.fpOk (Nat.le_refl _) (I1.hok.fresh (Nat.le_refl _))
  · obtain ⟨t, rfl⟩ := r1
    cases ha : z.cps.all (· < 128)
    · exact wpAny_pyIter_wide ha (pi_one (tk := s1.toks) I1 _ (turn_str _ z t "str_iterator" (.inr rfl)) ⟨_, Heap.get?_push_size _ rfl, rfl, rfl⟩ q)
    · exact wpAny_pyIter_ascii ha (pi_one (tk := s1.toks) I1 _ (turn_str _ z t "str_ascii_iterator" (.inl rfl)) ⟨_, Heap.get?_push_size _ rfl, rfl, rfl⟩ q)
def walkG (ga : Ev → Rs D) (ρ : Ev) : Rs (List D) := appG walkD ga ρ
theorem chars_get {z : Str} {i : Nat} {c : Nat} (h : z.cps[i]? = some c) : (chars z)[i]? = some (.str ⟨#[c]⟩) := by
  unfold chars
  rw [List.getElem?_map, Array.getElem?_toList, h]
  rfl
section
variable {X : Cx} {W : WX} {tg e : Expr} {ga : Ev → Rs D} {fa : Ev → Rs (D × Ev)}
theorem walkD_V {K : Frg} {F H : Hp} {v : V} {d : D} {ds : List D} {R : It → Hp → Prop} (s : Same F H) (r : RD K F v d) (h : walkD d = some ds) (q : ∀ J, ItD K F J ds → R J H) :
    (∃ a, v = .ref a ∧ (∃ xs, SqL K H a xs) ∧ R (Itl K a) H) ∨ (∃ a, v = .ref a ∧ (∃ xs, SqT K H a xs) ∧ R (Itt K a) H) ∨ ∃ z, v = .str z ∧ R (Its z) H := by
  cases r with
  | lst t hz rs =>
    cases h
    refine .inl ⟨_, rfl, ⟨_, .inl (rd_mono s t)⟩, q _ (itd_yat (by rw [← rs.length]; exact hz) (by rw [← rs.length]; exact walk_list) (fun F' H' a b => Or.inl (rd_mono b (rd_mono a t))) rs)⟩
  | tup t hz rs =>
    cases h
    refine .inr (.inl ⟨_, rfl, ⟨_, sqT_mono s t⟩, q _ (itd_yat (by rw [← rs.length]; exact hz) (by rw [← rs.length]; exact walk_tup) (fun F' H' a b => sqT_mono b (sqT_mono a t)) rs)⟩)
  | str z =>
    simp only [walkD] at h
    split at h
    · rename_i hz
      cases h
      have hl : (chars z).length = z.cps.size := by simp [chars]
      refine .inr (.inr ⟨z, rfl, q _ ⟨by rw [hl]; exact hz, _, _, by rw [hl]; exact walk_str, fun _ _ _ _ => trivial, fun i F' H' x H'' s1 s2 y => ?_⟩⟩)
      obtain ⟨rfl, c, e1, rfl⟩ := y
      exact ⟨_, F', chars_get e1, Ext.refl s2, .str _⟩
    · cases h
  | _ => cases h
end
end DL
/-! DLg: data walked: sequences, ranges, zip, enumerate (tuples too). -/
namespace DL
open PySem PySem.Spec PyProof.Rows L2 RZ

section
variable {X : Cx} {W : WX} {tg e e2 : Expr} {ga gb : Ev → Rs D} {fa : Ev → Rs (D × Ev)} {gs : Ev → Rs (List D)} {fs : Ev → Rs (List D × Ev)}
theorem iu_seq (h : PU X W e ga) : IU X W tg e (appG walkD ga) := pi_imp (pi_seq h) fun σ H R ⟨Z, F, ρ, S, u⟩ =>
  ⟨Z, F, ρ, S, U.bind u fun d v F1 H1 x1 r1 u1 => by
    cases e1 : walkD d with
    | none => rw [e1] at u1; exact u1.elim
    | some ds => rw [e1] at u1; exact walkD_V x1.fh r1 e1 fun J hJ => u1 J F1 H1 (Ext.refl x1.fh) hJ⟩
theorem im_seq (h : ME X e fa) : IM X tg e (appM walkD fa) := pi_imp (pi_seq h) fun σ H R ⟨Z, F, ρ, S, u⟩ =>
  ⟨Z, F, ρ, S, M.bind u fun d ρ1 v F1 H1 x1 S1 r1 u1 => by
    cases e1 : walkD d with
    | none => rw [e1] at u1; exact u1.elim
    | some ds => rw [e1] at u1; exact walkD_V S1.sf r1 e1 fun J hJ => u1 J F1 H1 (Same.refl _) S1 hJ⟩
def rangeL (lo : Int) (n : Nat) : List D := (List.range n).map fun (i : Nat) => .int (lo + i)
theorem rangeL_len (lo : Int) (n : Nat) : (rangeL lo n).length = n := by simp [rangeL]
def rgOk (i j : Int) : Bool := decide (i.natAbs < 4611686018427387904) && decide (j.natAbs < 4611686018427387904) && decide ((j - i).toNat ≤ sizeLine)
def range1D (ds : List D) : Option (List D) := match ds with
  | [.int j] => if rgOk 0 j then some (rangeL 0 j.toNat) else none
  | _ => none
def range2D (ds : List D) : Option (List D) := match ds with
  | [.int i, .int j] => if rgOk i j then some (rangeL i (j - i).toNat) else none
  | _ => none
theorem itd_range {K : Frg} {F : Hp} {lo : Int} {n : Nat} (hz : n ≤ sizeLine) : ItD K F (Itr lo n) (rangeL lo n) :=
  ⟨by rw [rangeL_len]; exact hz, _, _, by rw [rangeL_len]; exact walk_range.mono (G' := fun _ => True) (Y' := fun i H x H' => i < n ∧ H' = H ∧ x = .int (lo + i)) (fun _ h => h) fun i H x H' hi _ y => ⟨hi, y.1, y.2⟩, fun _ _ _ _ => trivial, fun i F' H' x H'' s1 s2 y => by
    obtain ⟨hi, rfl, rfl⟩ := y
    exact ⟨.int (lo + i), F', by unfold rangeL; rw [List.getElem?_map, List.getElem?_range hi]; rfl, Ext.refl s2, .int _⟩⟩
theorem rgOk_of {i j : Int} (h : rgOk i j = true) : -(2 ^ 62) ≤ i ∧ i < 2 ^ 62 ∧ -(2 ^ 62) ≤ j ∧ j < 2 ^ 62 ∧ (j - i).toNat ≤ sizeLine := by
  simp only [rgOk, Bool.and_eq_true, decide_eq_true_eq] at h
  obtain ⟨⟨a, b⟩, e⟩ := h
  exact ⟨by omega, by omega, by omega, by omega, e⟩
theorem range1_V {K : Frg} {F H : Hp} {vs : List V} {ds xs : List D} {R : It → Hp → Prop} (r : RDs K F vs ds) (h : range1D ds = some xs) (q : ∀ J, ItD K F J xs → R J H) : ∃ j : Int, vs = [.int j] ∧ -(2 ^ 62) ≤ j ∧ j < 2 ^ 62 ∧ R (Itr 0 j.toNat) H := by
  unfold range1D at h
  split at h
  · rename_i j
    split at h
    · rename_i hz
      cases h
      obtain ⟨_, _, c, d, z⟩ := rgOk_of hz
      cases r with
      | cons r1 r2 =>
        cases r1
        cases r2
        exact ⟨j, rfl, c, d, q _ (itd_range (by simpa using z))⟩
    · cases h
  · cases h
theorem range2_V {K : Frg} {F H : Hp} {vs : List V} {ds xs : List D} {R : It → Hp → Prop} (r : RDs K F vs ds) (h : range2D ds = some xs) (q : ∀ J, ItD K F J xs → R J H) :
    ∃ i j : Int, vs = [.int i, .int j] ∧ (-(2 ^ 62) ≤ i ∧ i < 2 ^ 62 ∧ -(2 ^ 62) ≤ j ∧ j < 2 ^ 62) ∧ R (Itr i (j - i).toNat) H := by
  unfold range2D at h
  split at h
  · rename_i i j
    split at h
    · rename_i hz
      cases h
      obtain ⟨a, b, c, d, z⟩ := rgOk_of hz
      cases r with
      | cons r1 r2 =>
        cases r1
        cases r2 with
        | cons r3 r4 =>
          cases r3
          cases r4
          exact ⟨i, j, rfl, ⟨a, b, c, d⟩, q _ (itd_range z)⟩
    · cases h
  · cases h
variable {p pos : Pos}
theorem iu_range1 (hm : X.mg "range" = none) (ha : PUA X W [e] gs) (hg : Gl X "range" := by rfl) (hs : starEach [e] X.env = [(false, eval e X.env)] := by rfl) : IU X W tg (.Call (.Name "range" p) [e] [] pos) (appG range1D gs) := pi_imp (pi_range1 hg hm ha hs) fun σ H R ⟨Z, F, ρ, S, u⟩ =>
  ⟨Z, F, ρ, S, U.bind u fun ds vs F1 H1 x1 r1 u1 => by
    cases e1 : range1D ds with
    | none => rw [e1] at u1; exact u1.elim
    | some xs => rw [e1] at u1; exact range1_V r1 e1 fun J hJ => u1 J F1 H1 (Ext.refl x1.fh) hJ⟩
theorem im_range1 (hm : X.mg "range" = none) (ha : MA X [e] fs) (hg : Gl X "range" := by rfl) (hs : starEach [e] X.env = [(false, eval e X.env)] := by rfl) : IM X tg (.Call (.Name "range" p) [e] [] pos) (appM range1D fs) := pi_imp (pi_range1 hg hm ha hs) fun σ H R ⟨Z, F, ρ, S, u⟩ =>
  ⟨Z, F, ρ, S, M.bind u fun ds ρ1 vs F1 H1 x1 S1 r1 u1 => by
    cases e1 : range1D ds with
    | none => rw [e1] at u1; exact u1.elim
    | some xs => rw [e1] at u1; exact range1_V r1 e1 fun J hJ => u1 J F1 H1 (Same.refl _) S1 hJ⟩
theorem iu_range2 (hm : X.mg "range" = none) (ha : PUA X W [e, e2] gs) (hg : Gl X "range" := by rfl) (hs : starEach [e, e2] X.env = [(false, eval e X.env), (false, eval e2 X.env)] := by rfl) (hs2 : starEach [e2] X.env = [(false, eval e2 X.env)] := by rfl) :
    IU X W tg (.Call (.Name "range" p) [e, e2] [] pos) (appG range2D gs) := pi_imp (pi_range2 hg hm ha hs hs2) fun σ H R ⟨Z, F, ρ, S, u⟩ =>
  ⟨Z, F, ρ, S, U.bind u fun ds vs F1 H1 x1 r1 u1 => by
    cases e1 : range2D ds with
    | none => rw [e1] at u1; exact u1.elim
    | some xs => rw [e1] at u1; exact range2_V r1 e1 fun J hJ => u1 J F1 H1 (Ext.refl x1.fh) hJ⟩
end

/-! ### pairs -/
def zipL (xs ys : List D) : List D := (xs.zip ys).map fun p => .tuple [p.1, p.2]
def zipD (ds : List D) : Option (List D) := match ds with
  | [.list xs, .list ys] => some (zipL xs ys)
  | [.tuple xs, .tuple ys] => some (zipL xs ys)
  | _ => none
theorem zipL_get {xs ys : List D} {i : Nat} {x y : D} (h1 : xs[i]? = some x) (h2 : ys[i]? = some y) : (zipL xs ys)[i]? = some (.tuple [x, y]) := by
  unfold zipL
  rw [List.getElem?_map, (List.getElem?_zip_eq_some (z := (x, y))).mpr ⟨h1, h2⟩]
  rfl
theorem zipL_len (xs ys : List D) : (zipL xs ys).length = min xs.length ys.length := by simp [zipL]
theorem RD.invL {K : Frg} {F : Hp} {v : V} {ds : List D} (h : RD K F v (.list ds)) : ∃ a xs, v = .ref a ∧ Rd F a (.lst xs) ∧ xs.length ≤ sizeLine ∧ RDs K F xs ds := by
  cases h with
  | lst t z r => exact ⟨_, _, rfl, t, z, r⟩
theorem RD.invT {K : Frg} {F : Hp} {v : V} {ds : List D} (h : RD K F v (.tuple ds)) : ∃ a xs, v = .ref a ∧ SqT K F a xs ∧ xs.length ≤ sizeLine ∧ RDs K F xs ds := by
  cases h with
  | tup t z r => exact ⟨_, _, rfl, t, z, r⟩
theorem RDs.inv2 {K : Frg} {F : Hp} {vs : List V} {d e : D} (h : RDs K F vs [d, e]) : ∃ v w, vs = [v, w] ∧ RD K F v d ∧ RD K F w e := by
  cases h with
  | cons r1 r2 =>
    cases r2 with
    | cons r3 r4 =>
      cases r4
      exact ⟨_, _, rfl, r1, r3⟩
theorem RDs.inv1 {K : Frg} {F : Hp} {vs : List V} {d : D} (h : RDs K F vs [d]) : ∃ v, vs = [v] ∧ RD K F v d := by
  cases h with
  | cons r1 r2 =>
    cases r2
    exact ⟨_, rfl, r1⟩
theorem itd_pair {K : Frg} {F : Hp} {J : It} {ds : List D} {G : Hp → Prop} {xs ys : Nat → Option V} (hz : ds.length ≤ sizeLine) (w : Walk J ds.length G (YPair xs ys)) (hG : ∀ F' H', Same F F' → Same F' H' → G H')
    (h : ∀ i x y, xs i = some x → ys i = some y → ∃ d e, ds[i]? = some (.tuple [d, e]) ∧ RD K F x d ∧ RD K F y e) : ItD K F J ds :=
  ⟨hz, G, _, w, hG, fun i F' H' v H'' s1 s2 y => by
    obtain ⟨T, x, y, rfl, n, rfl, hx, hy⟩ := y
    obtain ⟨d, e, h1, h2, h3⟩ := h i x y hx hy
    have s3 : Same F' (upd F' T (.tup [x, y])) := same_upd (L2.Same.free s2 n)
    exact ⟨_, upd F' T (.tup [x, y]), h1, Ext.new s2 n, .tup (.of upd_same) (by show 2 ≤ sizeLine; decide) (.cons (h2.mono (s1.trans s3)) (.cons (h3.mono (s1.trans s3)) .nil))⟩⟩
theorem walk_zipT {K : Frg} {a b : Addr} {xs ys : List V} {n : Nat} (hn : n = min xs.length ys.length) : Walk (ItzT K a b) n (fun H => SqT K H a xs ∧ SqT K H b ys) (YPair (fun i => xs[i]?) (fun i => ys[i]?)) := by
  subst hn
  refine ⟨fun i _ hi q => ⟨xs, ys, xs[i]'(by omega), ys[i]'(by omega), q.1, q.2, by simp, by simp⟩, fun _ q => ⟨xs, ys, q.1, q.2, by omega⟩, fun i H v H' _ q y => ?_⟩
  obtain ⟨T, x, z, h1, h2, h3, h4, h5⟩ := y
  exact ⟨T, x, z, h1, h2, h3, h4 xs q.1, h5 ys q.2⟩
theorem zip_V {K : Frg} {F H : Hp} {vs : List V} {ds xs : List D} {R : It → Hp → Prop} (s : Same F H) (r : RDs K F vs ds) (h : zipD ds = some xs) (q : ∀ J, ItD K F J xs → R J H) :
    ∃ a b xs ys, vs = [.ref a, .ref b] ∧ ((SqL K H a xs ∧ SqL K H b ys ∧ R (Itz K a b) H) ∨ (SqT K H a xs ∧ SqT K H b ys ∧ R (ItzT K a b) H)) := by
  unfold zipD at h
  split at h
  · cases h
    obtain ⟨v, w, rfl, r1, r2⟩ := r.inv2
    obtain ⟨a, vx, rfl, t, hz, rs⟩ := r1.invL
    obtain ⟨b, vy, rfl, t2, hz2, rs2⟩ := r2.invL
    have hn : (zipL _ _).length = min vx.length vy.length := (zipL_len _ _).trans (by rw [rs.length, rs2.length])
    refine ⟨a, b, vx, vy, rfl, .inl ⟨.inl (rd_mono s t), .inl (rd_mono s t2), q _ (itd_pair (G := fun H => SqL K H a vx ∧ SqL K H b vy) ?_ (by rw [hn]; exact walk_zip rfl) (fun F' H' a b => ⟨.inl (rd_mono b (rd_mono a t)), .inl (rd_mono b (rd_mono a t2))⟩) fun i x y h1 h2 => ?_)⟩⟩
    · rw [hn]
      exact Nat.le_trans (Nat.min_le_left _ _) hz
    · obtain ⟨d, e1, r1⟩ := rs.getV h1
      obtain ⟨e, e2, r2⟩ := rs2.getV h2
      exact ⟨d, e, zipL_get e1 e2, r1, r2⟩
  · cases h
    obtain ⟨v, w, rfl, r1, r2⟩ := r.inv2
    obtain ⟨a, vx, rfl, t, hz, rs⟩ := r1.invT
    obtain ⟨b, vy, rfl, t2, hz2, rs2⟩ := r2.invT
    have hn : (zipL _ _).length = min vx.length vy.length := (zipL_len _ _).trans (by rw [rs.length, rs2.length])
    refine ⟨a, b, vx, vy, rfl, .inr ⟨sqT_mono s t, sqT_mono s t2, q _ (itd_pair (G := fun H => SqT K H a vx ∧ SqT K H b vy) ?_ (by rw [hn]; exact walk_zipT rfl) (fun F' H' a b => ⟨sqT_mono b (sqT_mono a t), sqT_mono b (sqT_mono a t2)⟩) fun i x y h1 h2 => ?_)⟩⟩
    · rw [hn]
      exact Nat.le_trans (Nat.min_le_left _ _) hz
    · obtain ⟨d, e1, r1⟩ := rs.getV h1
      obtain ⟨e, e2, r2⟩ := rs2.getV h2
      exact ⟨d, e, zipL_get e1 e2, r1, r2⟩
  · cases h
section
variable {X : Cx} {W : WX} {e e2 : Expr} {gs : Ev → Rs (List D)} {elts : List Expr} {kk : Nat} {tpos p pos : Pos}
theorem iu_zip (hm : X.mg "zip" = none) (ha : PUA X W [e, e2] gs) (hg : Gl X "zip" := by rfl) (hs : starEach [e, e2] X.env = (false, eval e X.env) :: starEach [e2] X.env := by rfl) (hpl : (backTo pos (starEach [e2] X.env)).any (·.1) = false := by rfl) :
    IU X W (.Tuple elts kk tpos) (.Call (.Name "zip" p) [e, e2] [] pos) (appG zipD gs) := pi_imp (pi_zipA hg hm ha hs hpl) fun σ H R ⟨Z, F, ρ, S, u⟩ =>
  ⟨Z, F, ρ, S, U.bind u fun ds vs F1 H1 x1 r1 u1 => by
    cases e1 : zipD ds with
    | none => rw [e1] at u1; exact u1.elim
    | some xs => rw [e1] at u1; exact zip_V x1.fh r1 e1 fun J hJ => u1 J F1 H1 (Ext.refl x1.fh) hJ⟩
end

/-! ### enumerate of a list or a tuple -/
def IteT (K : Frg) (a : Addr) : It :=
  ⟨fun i H => ∃ (xs : List V) (x : V), SqT K H a xs ∧ xs[i]? = some x, fun i H v H' => ∃ T x, v = .ref T ∧ H T = none ∧ H' = upd H T (.tup [.int (i : Nat), x]) ∧ ∀ xs, SqT K H a xs → xs[i]? = some x,
    fun i H => ∃ xs : List V, SqT K H a xs ∧ xs.length ≤ i⟩
theorem meets_enumT (l : Addr) (items : Array Value) (n : Nat) (dct : Option Addr) (sl : Array (Option Value)) :
    Meets (Builtin.«enumerate.__new__» ⟨[.type "enumerate", .ref l], []⟩) (fun _ R s => s.heap.get? l = some { cls := .type "tuple", dict := dct, data := .seq items n, slots := sl } ∧
      R (.ok (.ret (.ref (s.heap.push { cls := .type "tuple_iterator", data := .fields #[.ref l, .int 0 0] }).objs.size)))
        { s with heap := (s.heap.push { cls := .type "tuple_iterator", data := .fields #[.ref l, .int 0 0] }).push { cls := .type "enumerate", data := .fields #[.none, .bool false, .ref s.heap.objs.size, rawInt 0, .none, .none] } }) :=
  .of_wp fun prog w A R s h => by
    obtain ⟨hp, g, d, tk, os⟩ := s
    obtain ⟨hl, h⟩ := h
    have hsub := sub_enumerate
    have hL : Heap.IsTuple (Shared.heap ⟨hp, g, d, tk, os⟩) l items := ⟨_, hl, rfl, n, rfl⟩
    wp_walk using AutoSeq1.wpAny_loadPart' hl
    refine wpAny_stack_any fun st => wpAny_pure ?_
    split
    · rename_i c _ _ _ _ _
      cases (c == Value.type "enumerate") <;> (wp_walk using AutoSeq1.wpAny_loadPart' hl, wpAny_pyIter_tuple hL; exact ⟨_, rfl, h⟩)
    · wp_walk using AutoSeq1.wpAny_loadPart' hl, wpAny_pyIter_tuple hL
      exact ⟨_, rfl, h⟩
theorem call_enumT {prog : Program} {w : World} {A : Around} {E : Value → Shared → Prop} {s : Shared} {l : Addr} {items : Array Value} {Q : Value → Shared → Prop} (hL : IsTup s.heap l items)
    (h : ∀ h', IsEnum h' (s.heap.objs.size + 1) s.heap.objs.size 0 .none → h'.IsTupleIter s.heap.objs.size l 0 → (∀ b o, s.heap.get? b = some o → h'.get? b = some o) → Q (.ref (s.heap.objs.size + 1)) { s with heap := h' }) :
    wpAny (model prog w) A (call (.type "enumerate") [.ref l]) Q E s := by
  obtain ⟨⟨c, dct, dt, sl⟩, hl, hc, n, hd⟩ := hL
  replace hc : c = .type "tuple" := hc
  replace hd : dt = .seq items n := hd
  subst hc hd
  refine callType_new F.called_enumerate (by decide) (F.typeCall_enumerate_1 _) (F.newCall_enumerate_1 _) (fun obj => F.args_object_init_2 obj _) F.entry_enumerate_new (meets_enumT l items n dct sl) ⟨hl, ?_⟩
  have hz : (s.heap.push { cls := .type "tuple_iterator", data := .fields #[.ref l, .int 0 0] }).objs.size = s.heap.objs.size + 1 := Heap.size_push ..
  have he := Heap.get?_push_size (s.heap.push { cls := .type "tuple_iterator", data := .fields #[.ref l, .int 0 0] }) (o := { cls := .type "enumerate", data := .fields #[.none, .bool false, .ref s.heap.objs.size, rawInt 0, .none, .none] }) rfl
  rw [hz] at he
  show _ ∧ _
  rw [hz]
  exact ⟨⟨_, he, rfl⟩, h _ he ⟨_, Heap.get?_push_of_some _ (Heap.get?_push_size _ rfl), rfl, rfl⟩ fun b o x => Heap.get?_push_of_some _ (Heap.get?_push_of_some _ x)⟩
theorem turn_enumT {P : Program} {w : World} {K : Frg} {elts : List Expr} {kk : Nat} {tpos : Pos} (a e it : Addr) (hae : a ≠ it) :
    Turn P w K (.Tuple elts kk tpos) (IteT K a) [e, it] e (fun i h => (∃ old, IsEnum h e it ((i : Nat) : Int) old) ∧ h.IsTupleIter it a i ∧ e ≠ it ∧ e ≠ a) where
  mem := by simp
  obj := fun i h st b hb => by
    obtain ⟨⟨old, he⟩, ⟨o, ho, hc, hd⟩, _⟩ := st
    have e' : b = e ∨ b = it := by simpa using hb
    rcases e' with z | z
    · rw [z]; exact ⟨_, he, fun v q => nomatch q⟩
    · rw [z]; exact ⟨o, ho, fun v q => by rw [hd] at q; cases q⟩
  keep := fun i h h' st k => by
    obtain ⟨⟨old, he⟩, hi, hne⟩ := st
    exact ⟨⟨old, k e (by simp) _ he⟩, hi.at fun o q => k it (by simp) o q, hne⟩
  item := by
    intro X hP hw hK hc i pins s σ H E I hf st hg
    subst hP hw hK
    obtain ⟨⟨old, he⟩, hit, hne, hna⟩ := st
    obtain ⟨xs, x, hq, hx⟩ := hg
    obtain ⟨its, rv, p, hz⟩ := I.tuple hq
    obtain ⟨u, hu, ru⟩ := rv.get hx
    have hel : e < s.heap.objs.size := Heap.lt_size he
    have hil : it < s.heap.objs.size := by obtain ⟨_, q, _⟩ := hit; exact Heap.lt_size q
    have hlt : i < its.toArray.size := by
      have := (List.getElem?_eq_some_iff.mp hu).1
      simpa using this
    refine wpAny_pyNext_enum_itemD (Draws.tuple (by show X.A.handled = none; exact I.ok.hd hc) it a hae its.toArray) he ⟨hit, p⟩ hlt hne (by simp [hne, hna]) fun x' h' tk hx' ho hit' hT hsz hk => ?_
    have ex : x' = u := by
      have hx' : its.toArray[i]? = some x' := hx'
      have hu' : its.toArray[i]? = some u := by simpa using hu
      rw [hu'] at hx'
      exact (Option.some.inj hx').symm
    subst ex
    refine ⟨_, rfl, wpAny_letOwnedTupleGo_enum (s := { s with heap := h', toks := tk + 1 }) ho fun h'' he' sb => ?_⟩
    have hT2 : h''.get? s.heap.objs.size = some { cls := .type "tuple", data := .seq #[.int i tk, x'] } := (sb.2 _ (Nat.ne_of_gt hel)).trans hT
    have new : ObjOk X.prog X.w (upd H s.heap.objs.size (.tup [.int (i : Nat), x])) h'' s.heap.objs.size (.tup [.int (i : Nat), x]) :=
      ⟨by show 2 ≤ sizeLine; decide, [.int i tk, x'], .cons ⟨_, rfl⟩ (.cons ru .nil), ⟨_, hT2, rfl, _, rfl⟩⟩
    have I1 : Inv X pins σ (upd H s.heap.objs.size (.tup [.int (i : Nat), x])) { s with heap := h'', toks := tk + 1 } :=
      I.turnedNew (ch := [e, it]) (fun b ob hb q => (sb.2 b (fun z => hb (by simp [z]))).trans (hk b ob (fun z => hb (by simp [z])) (fun z => hb (by simp [z])) q)) hf (Nat.le_refl _) new
    refine ⟨.ref s.heap.objs.size, _, I1, rfl, ⟨_, x, rfl, I.hok.fresh (Nat.le_refl _), rfl, fun ys hy => by rw [I.tuple_inj hy hq]; exact hx⟩, ⟨⟨x', ?_⟩, hit'.1.at fun o q => (sb.2 it (Ne.symm hne)).trans q, hne, hna⟩, fun b hb => ?_⟩
    · rw [show ((i + 1 : Nat) : Int) = (i : Int) + 1 by omega]; exact he'
    · have hb' : b < s.heap.objs.size := by
        have e' : b = e ∨ b = it := by simpa using hb
        rcases e' with z | z
        · rw [z]; exact hel
        · rw [z]; exact hil
      rw [upd_ne (Nat.ne_of_lt hb')]
      exact (hf b hb).1
  done := by
    intro X hP hw hK hc i pins s σ H E I hf st hg
    subst hP hw hK
    obtain ⟨⟨old, he⟩, hit, hne, hna⟩ := st
    obtain ⟨xs, hq, hx⟩ := hg
    obtain ⟨its, rv, p, hz⟩ := I.tuple hq
    obtain ⟨f0, f1, f2, f3, f4, f5⟩ := hf it (by simp)
    have hl := rv.length
    unfold pyNext
    have hT : s.TypeIs (.ref e) "enumerate" := ⟨_, he, rfl⟩
    refine wpAny_bind (wpAny_attempt (wpAny_callSpecial?_slot (name := Str.ofString "__next__") hT F.slot_enumerate_next (wpAny_call_entry F.slot_enumerate_next hT F.entry_enumerate_next ?_ (F.args_enumerate_next_1 _))))
    show wpAny _ _ (field (.ref e) 2 >>= _) _ _ _
    refine wpAny_bind (wpAny_field he rfl (x := .ref it) rfl ?_)
    refine wpAny_bind (wpAny_nextOf_tuple_end (I.ok.hd hc) hit p (by simp; omega) fun h' x he' hx' => ?_)
    obtain ⟨o, ho, hc'⟩ := hx'
    refine wpAny_bind (wpAny_isInstance (T := "StopIteration") (b := true) ⟨o, ho, hc'⟩ isSubtype_stop ?_)
    exact wpAny_pure ⟨rfl, I.turned (t' := s.toks) (fun b o hb q => he' b o hb q) f0 f1 f3 f4 f5⟩
  self := fun A i s Q E st h => by
    obtain ⟨⟨_, he⟩, _⟩ := st
    exact wpAny_pyIter_enum he h
/-- enumerate of a list or a tuple -/
def iEnumA (K : Frg) (ta : TA) : TI := fun σ H R => ta σ H fun vs H1 => ∃ a xs, vs = [.ref a] ∧ ((SqL K H1 a xs ∧ R (Ite K a) H1) ∨ (SqT K H1 a xs ∧ R (IteT K a) H1))
theorem pi_enumA {X : Cx} {e : Expr} {ta : TA} {p pos tpos : Pos} {elts : List Expr} {kk : Nat} (hg : Gl X "enumerate") (hm : X.mg "enumerate" = none) (ha : PA X [e] ta) (hs : starEach [e] X.env = [(false, eval e X.env)] := by rfl) :
    PI X (.Tuple elts kk tpos) (.Call (.Name "enumerate" p) [e] [] pos) (iEnumA X.K ta) := by
  refine ⟨fun pins s σ H R I h => Call_ (ld_blt I hg hm boot_enumerate (callWith_type1 (thn (ha.run pos pins s σ H _ I h) fun us s1 ⟨vs, H1, I1, r1, q1⟩ => ?_) hs rfl))⟩
  obtain ⟨a, xs, rfl, q1⟩ := q1
  obtain ⟨u, rfl, ru⟩ := vals1 r1
  cases ru
  have fresh2 : ∀ b, b ∈ [s1.heap.objs.size + 1, s1.heap.objs.size] → FpOk X pins H1 b := fun b hb => by
    have hle : s1.heap.objs.size ≤ b := by
      have e' : b = s1.heap.objs.size + 1 ∨ b = s1.heap.objs.size := by simpa using hb
      rcases e' with z | z
      · rw [z]; exact Nat.le_add_right _ _
      · rw [z]; exact Nat.le_refl _
    exact I1.fpOk hle (I1.hok.fresh hle)
  rcases q1 with ⟨hq, q⟩ | ⟨hq, q⟩
  · obtain ⟨its, rv, p', hz⟩ := I1.list hq
    refine call_enumerate_list p'.isList fun h' he hit hsz hk => wpAny_pyIter_enum he ?_
    exact ⟨s1.heap.objs.size + 1, [s1.heap.objs.size + 1, s1.heap.objs.size], _, _, H1, rfl, I1.kept (t' := s1.toks) hk, turn_enum a _ _, ⟨⟨.none, he⟩, hit, Nat.succ_ne_self _⟩, fresh2, q⟩
  · obtain ⟨its, rv, p', hz⟩ := I1.tuple hq
    have hla : a < s1.heap.objs.size := p'.lt
    refine call_enumT p' fun h' he hit hk => wpAny_pyIter_enum he ?_
    exact ⟨s1.heap.objs.size + 1, [s1.heap.objs.size + 1, s1.heap.objs.size], _, _, H1, rfl, I1.kept (t' := s1.toks) hk, turn_enumT a _ _ (Nat.ne_of_lt hla), ⟨⟨.none, he⟩, hit, Nat.succ_ne_self _, Nat.ne_of_gt (Nat.lt_succ_of_lt hla)⟩, fresh2, q⟩
theorem walk_enumT {K : Frg} {a : Addr} {xs : List V} : Walk (IteT K a) xs.length (fun H => SqT K H a xs) (YPair (fun i => some (.int (i : Nat))) (fun i => xs[i]?)) := by
  refine ⟨fun i _ hi q => ⟨xs, xs[i], q, by simp⟩, fun _ q => ⟨xs, q, Nat.le_refl _⟩, fun i H v H' _ q y => ?_⟩
  obtain ⟨T, x, h1, h2, h3, h4⟩ := y
  exact ⟨T, .int (i : Nat), x, h1, h2, h3, rfl, h4 xs q⟩
def enumL (xs : List D) : List D := xs.zipIdx.map fun p => .tuple [.int (p.2 : Nat), p.1]
theorem enumL_len (xs : List D) : (enumL xs).length = xs.length := by simp [enumL]
theorem enumL_get {xs : List D} {i : Nat} {x : D} (h : xs[i]? = some x) : (enumL xs)[i]? = some (.tuple [.int (i : Nat), x]) := by
  unfold enumL
  rw [List.getElem?_map, List.getElem?_zipIdx, h]
  simp
def enumD (ds : List D) : Option (List D) := match ds with
  | [.list xs] => some (enumL xs)
  | [.tuple xs] => some (enumL xs)
  | _ => none
theorem enum_V {K : Frg} {F H : Hp} {vs : List V} {ds xs : List D} {R : It → Hp → Prop} (s : Same F H) (r : RDs K F vs ds) (h : enumD ds = some xs) (q : ∀ J, ItD K F J xs → R J H) :
    ∃ a xs, vs = [.ref a] ∧ ((SqL K H a xs ∧ R (Ite K a) H) ∨ (SqT K H a xs ∧ R (IteT K a) H)) := by
  unfold enumD at h
  split at h
  · cases h
    obtain ⟨v, rfl, r1⟩ := r.inv1
    obtain ⟨a, vx, rfl, t, hz, rs⟩ := r1.invL
    refine ⟨a, vx, rfl, .inl ⟨.inl (rd_mono s t), q _ (itd_pair (G := fun H => SqL K H a vx) (by rw [enumL_len, ← rs.length]; exact hz) (by rw [enumL_len, ← rs.length]; exact walk_enum) (fun F' H' a b => .inl (rd_mono b (rd_mono a t))) fun i x y h1 h2 => ?_)⟩⟩
    obtain ⟨e, e2, r2⟩ := rs.getV h2
    cases h1
    exact ⟨_, e, enumL_get e2, .int _, r2⟩
  · cases h
    obtain ⟨v, rfl, r1⟩ := r.inv1
    obtain ⟨a, vx, rfl, t, hz, rs⟩ := r1.invT
    refine ⟨a, vx, rfl, .inr ⟨sqT_mono s t, q _ (itd_pair (G := fun H => SqT K H a vx) (by rw [enumL_len, ← rs.length]; exact hz) (by rw [enumL_len, ← rs.length]; exact walk_enumT) (fun F' H' a b => sqT_mono b (sqT_mono a t)) fun i x y h1 h2 => ?_)⟩⟩
    obtain ⟨e, e2, r2⟩ := rs.getV h2
    cases h1
    exact ⟨_, e, enumL_get e2, .int _, r2⟩
  · cases h
section
variable {X : Cx} {W : WX} {e : Expr} {gs : Ev → Rs (List D)} {elts : List Expr} {kk : Nat} {tpos p pos : Pos}
theorem iu_enum (hm : X.mg "enumerate" = none) (ha : PUA X W [e] gs) (hg : Gl X "enumerate" := by rfl) (hs : starEach [e] X.env = [(false, eval e X.env)] := by rfl) :
    IU X W (.Tuple elts kk tpos) (.Call (.Name "enumerate" p) [e] [] pos) (appG enumD gs) := pi_imp (pi_enumA hg hm ha hs) fun σ H R ⟨Z, F, ρ, S, u⟩ =>
  ⟨Z, F, ρ, S, U.bind u fun ds vs F1 H1 x1 r1 u1 => by
    cases e1 : enumD ds with
    | none => rw [e1] at u1; exact u1.elim
    | some xs => rw [e1] at u1; exact enum_V x1.fh r1 e1 fun J hJ => u1 J F1 H1 (Ext.refl x1.fh) hJ⟩
end
end DL
/-! DLh: list comprehensions, pure ones and changing ones. -/
namespace DL
open PySem PySem.Spec PyProof.Rows L2

theorem wipe_in {σ : Sl} {i : Nat} : ∀ {vs : List Nat}, i ∈ vs → (wipe σ vs)[i]? = σ[i]?.map fun _ => none
  | v :: vs, h => by
    unfold wipe
    by_cases e : v = i
    · subst e
      by_cases hl : v < (wipe σ vs).length
      · rw [List.getElem?_set_self hl]
        rw [wipe_length] at hl
        rw [List.getElem?_eq_getElem hl]
        rfl
      · rw [List.getElem?_eq_none (by rw [List.length_set]; omega)]
        rw [wipe_length] at hl
        rw [List.getElem?_eq_none (by omega)]
        rfl
    · rw [List.getElem?_set_ne e]
      refine wipe_in ?_
      rcases List.mem_cons.mp h with z | z
      · exact absurd z.symm e
      · exact z
theorem wipe_wipe {σ : Sl} {vs : List Nat} : wipe (wipe σ vs) vs = wipe σ vs := by
  apply List.ext_getElem?
  intro i
  by_cases h : i ∈ vs
  · rw [wipe_in h, wipe_in h]
    cases σ[i]? <;> rfl
  · rw [wipe_get h]
/-! ### pure -/
def compL (body : D → Rs (Option D)) : List D → Rs (List D)
  | [] => .ok []
  | x :: xs => (body x).bind fun o => (compL body xs).bind fun ys => .ok (o.toList ++ ys)
theorem compL_append (body : D → Rs (Option D)) : ∀ xs ys : List D, compL body (xs ++ ys) = (compL body xs).bind fun p => (compL body ys).bind fun q => .ok (p ++ q)
  | [], ys => by
    show compL body ys = (compL body ys).bind fun q => .ok q
    cases compL body ys <;> rfl
  | x :: xs, ys => by
    show (body x).bind _ = ((body x).bind _).bind _
    cases body x with
    | ok o =>
      show (compL body (xs ++ ys)).bind _ = ((compL body xs).bind _).bind _
      rw [compL_append body xs ys]
      cases compL body xs with
      | ok p =>
        show ((compL body ys).bind _).bind _ = (compL body ys).bind _
        cases compL body ys with
        | ok q => show Rs.ok (o.toList ++ (p ++ q)) = Rs.ok (o.toList ++ p ++ q); rw [List.append_assoc]
        | xc n as => rfl
        | bad => rfl
      | xc n as => rfl
      | bad => rfl
    | xc n as => rfl
    | bad => rfl
theorem take_succ_some {α : Type} {xs : List α} {i : Nat} {d : α} (h : xs[i]? = some d) : xs.take (i + 1) = xs.take i ++ [d] := by
  rw [List.take_add_one, h]
  rfl
theorem compL_step {body : D → Rs (Option D)} {xs ys YS : List D} {i : Nat} {d : D} (h : compL body xs = .ok YS) (hd : xs[i]? = some d) (hi : compL body (xs.take i) = .ok ys) : ∃ o, body d = .ok o ∧ compL body (xs.take (i + 1)) = .ok (ys ++ o.toList) := by
  have hx : xs = xs.take i ++ (d :: xs.drop (i + 1)) := by
    have hl := (List.getElem?_eq_some_iff.mp hd)
    obtain ⟨hl, e⟩ := hl
    conv => lhs; rw [← List.take_append_drop i xs, List.drop_eq_getElem_cons hl, e]
  rw [hx, compL_append, hi] at h
  have h : (compL body (d :: xs.drop (i + 1))).bind (fun q => Rs.ok (ys ++ q)) = .ok YS := h
  cases e : body d with
  | ok o =>
    refine ⟨o, rfl, ?_⟩
    rw [take_succ_some hd, compL_append, hi]
    show ((body d).bind _).bind _ = _
    rw [e]
    show Rs.ok (ys ++ (o.toList ++ [])) = _
    rw [List.append_nil]
  | xc n as => rw [show compL body (d :: xs.drop (i + 1)) = (body d).bind _ from rfl, e] at h; cases h
  | bad => rw [show compL body (d :: xs.drop (i + 1)) = (body d).bind _ from rfl, e] at h; cases h
def lcBody (b : D → Ev → Option Ev) (tt : Ev → Rs Bool) (te : Ev → Rs D) (ρ0 : Ev) (x : D) : Rs (Option D) := match b x ρ0 with
  | none => .bad
  | some ρ1 => match tt ρ1 with
    | .ok true => (match te ρ1 with
      | .ok y => .ok (some y)
      | _ => .bad)
    | .ok false => .ok none
    | _ => .bad
def lcG (gi : Ev → Rs (List D)) (b : D → Ev → Option Ev) (tt : Ev → Rs Bool) (te : Ev → Rs D) (vs : List Nat) (ρ : Ev) : Rs O := (gi ρ).bind fun xs => match wipeE vs ρ with
  | none => .bad
  | some ρ0 => (compL (lcBody b tt te ρ0) xs).bind fun ys => .ok (.l ys)
abbrev PUTs (X : Cx) (W : WX) (ifs : List Expr) (tt : Ev → Rs Bool) : Prop := PTs X ifs (tU X W rT tt)
abbrev MTs (X : Cx) (ifs : List Expr) (tt : Ev → Rs (Bool × Ev)) : Prop := PTs X ifs (tM X mT tt)
section
variable {X : Cx} {W : WX}
theorem puts_nil : PUTs X W [] (cG true) := ⟨fun pins s σ H Q I ⟨Z, F, ρ, S, u⟩ => pts_nil.run pins s σ H Q I (u true F H (Ext.refl S.sf) rfl)⟩
theorem puts_one {c : Expr} {tt : Ev → Rs Bool} (h : PUT X W c tt) : PUTs X W [c] tt := pts_one h
theorem mts_nil : MTs X [] (lift (cG true)) := ⟨fun pins s σ H Q I ⟨Z, F, ρ, S, u⟩ => pts_nil.run pins s σ H Q I (u true F H (Same.refl F) S rfl)⟩
theorem mts_one {c : Expr} {tt : Ev → Rs (Bool × Ev)} (h : MT X c tt) : MTs X [c] tt := pts_one h
end
/-- a comprehension's block: the context in which its parts stand -/
abbrev Blk (X : Cx) (scope : Scope) (p : Cx → Prop) : Prop := ∀ (s : Shared) (H : Hp) (C : Addr) (cl : List (Str × Addr)) (fp : List Addr), p (X.blk s H scope (compEnvC scope cl C X.env) fp)
def W0 : WX := fun _ _ _ _ => False
section
variable {X : Cx} {W : WX} {elt tg iter : Expr} {ifs : List Expr} {scope : Scope} {own : List (Str × Nat)} {pos : Pos} {gi : Ev → Rs (List D)} {b : D → Ev → Option Ev} {tt : Ev → Rs Bool} {te : Ev → Rs D} {sl : List Nat}
/-- what a pure comprehension's reading asks -/
theorem tLc_U (h0 : 0 ∉ own.map (·.2)) (hsl : ∀ i ∈ sl, i ∈ own.map (·.2)) {σ : Sl} {H : Hp} {Q : VK} (h : tU X W (rO X.K) (lcG gi b tt te (own.map (·.2))) σ H Q) :
    tLc (tU X W (rIt X.K) gi) (tTG X b sl) (tU X W0 rT tt) (tU X W0 (rD X.K) te) (own.map (·.2)) σ H Q := by
  obtain ⟨Z, F, ρ, S, u⟩ := h
  refine ⟨Z, F, ρ, S, ?_⟩
  unfold lcG at u
  cases e0 : gi ρ with
  | xc n as => rw [e0] at u; exact u
  | bad => rw [e0] at u; exact u
  | ok xs =>
    rw [e0] at u
    intro J F1 H1 x1 hJ D nD
    have hJ : ItD X.K F1 J xs := hJ
    obtain ⟨hz, G, Y, w, hG, hY⟩ := hJ
    have u : U X W (rO X.K) F H σ Q (match wipeE (own.map (·.2)) ρ with
      | none => .bad
      | some ρ0 => (compL (lcBody b tt te ρ0) xs).bind fun ys => .ok (.l ys)) := u
    cases e1 : wipeE (own.map (·.2)) ρ with
    | none => rw [e1] at u; exact u.elim
    | some ρ0 =>
      rw [e1] at u
      have u : U X W (rO X.K) F H σ Q ((compL (lcBody b tt te ρ0) xs).bind fun ys => .ok (.l ys)) := u
      cases e2 : compL (lcBody b tt te ρ0) xs with
      | xc n as =>
        exfalso
        have no : ∀ (xs : List PyData) (n : Str) (as : List PyData), compL (lcBody b tt te ρ0) xs ≠ .xc n as := by
          intro xs
          induction xs with
          | nil => intro n as z; cases z
          | cons x xs ih =>
            intro n as z
            have z : (lcBody b tt te ρ0 x).bind (fun o => (compL (lcBody b tt te ρ0) xs).bind fun ys => .ok (o.toList ++ ys)) = .xc n as := z
            cases e3 : lcBody b tt te ρ0 x with
            | ok o =>
              rw [e3] at z
              cases e4 : compL (lcBody b tt te ρ0) xs with
              | ok ys => rw [Rs.bind_ok, e4] at z; cases z
              | xc n as => exact ih _ _ e4
              | bad => rw [Rs.bind_ok, e4] at z; cases z
            | xc n as =>
              unfold lcBody at e3
              split at e3
              · cases e3
              · split at e3
                · split at e3 <;> cases e3
                · cases e3
                · cases e3
            | bad => rw [e3] at z; cases z
        exact no xs n as e2
      | bad => rw [e2] at u; exact u.elim
      | ok YS =>
        rw [e2] at u
        have u : ∀ v F' H', Ext F H F' H' → rO X.K H F' H' v (.l YS) → Q v H' := u
        have S0 : SR X.K Z F1 ρ0 (wipe σ (own.map (·.2))) H1 := (S.ext x1).wipe e1 fun _ => h0
        refine lc_it w (fun i Hc => ∃ Fi acc ys, Ext F1 H1 Fi Hc ∧ Fi D = none ∧ Hc D = some (.lst acc) ∧ RDs X.K Fi acc ys ∧ acc.length ≤ i ∧ compL (lcBody b tt te ρ0) (xs.take i) = .ok ys) ?_ (fun i Hc _ ⟨Fi, acc, ys, x, _, _, _, _, _⟩ => hG Fi Hc x.ff x.fh) (fun i v Hc H' hi ⟨Fi, acc, ys, x, fD, hD, rs, hl, hc⟩ hy => ?_) fun Hc ⟨Fi, acc, ys, x, fD, hD, rs, hl, hc⟩ => ?_
        · exact ⟨F1, [], [], Ext.newO x1.fh nD, L2.Same.free x1.fh nD, upd_same, .nil, Nat.le_refl _, rfl⟩
        · obtain ⟨d, F'', hd, x2, rd⟩ := hY i Fi Hc v H' x.ff x.fh hy
          obtain ⟨o, eb, hc'⟩ := compL_step e2 hd hc
          have x3 := x.trans x2
          have fD2 : F'' D = none := x2.nw D fD (by rw [hD]; exact fun z => by cases z)
          have hD2 : H' D = some (.lst acc) := x2.hh D _ hD
          have rs2 := rs.mono x2.ff
          unfold lcBody at eb
          split at eb
          · cases eb
          · rename_i ρ1 e3
            refine ⟨Z, F'', ρ0, d, ρ1, S0.ext x3, rd, e3, fun σ' S' hw => ⟨(hw _ hsl).trans wipe_wipe, Z, F'', ρ1, S', ?_⟩⟩
            split at eb
            · rename_i e4
              rw [e4]
              intro k F4 H4 x4 ek
              have ek : k = true := ek
              subst ek
              refine iteT ⟨Z, F4, ρ1, S'.ext x4, ?_⟩
              split at eb
              · rename_i y e5
                rw [e5]
                cases eb
                intro yv F5 H5 x5 ry
                have x45 := x4.trans x5
                have fD5 : F5 D = none := x45.nw D fD2 (by rw [hD2]; exact fun z => by cases z)
                have hD5 : H5 D = some (.lst acc) := x45.hh D _ hD2
                have hne : ∀ q u, F5 q = some u → q ≠ D := fun q u e z => by rw [z, fD5] at e; cases e
                refine ⟨acc, hD5, Nat.lt_of_le_of_lt hl (Nat.lt_of_lt_of_le hi hz), F5, acc ++ [yv], ys ++ [y], ?_, fD5, upd_same, (rs2.mono x45.ff).append (.cons ry .nil), by simp; exact hl, hc'⟩
                have x15 := x3.trans x45
                refine ⟨x15.ff, fun q u e => by rw [upd_ne (hne q u e)]; exact x15.fh q u e, fun q u e => ?_, x15.nw⟩
                rw [upd_ne fun z => by rw [z, nD] at e; cases e]
                exact x15.hh q u e
              · cases eb
            · rename_i e4
              rw [e4]
              cases eb
              intro k F4 H4 x4 ek
              have ek : k = false := ek
              subst ek
              refine iteF ⟨F4, acc, ys, x3.trans x4, x4.nw D fD2 (by rw [hD2]; exact fun z => by cases z), x4.hh D _ hD2, rs2.mono x4.ff, Nat.le_succ_of_le hl, ?_⟩
              rw [hc']
              simp
            · cases eb
        · rw [List.take_length, e2] at hc
          cases hc
          exact u _ Fi Hc (x1.trans x) ⟨D, rfl, L2.Same.free x1.hh nD, fD, acc, hD, Nat.le_trans hl hz, rs⟩
theorem po_lc (hc : X.calm = true) (hN : X.N.Nodup) (hi : IU X W tg iter gi) (ok : BlkOk X.N X.env.scope scope own) (hg : Blk X scope fun Y => TU Y tg b sl) (ht : Blk X scope fun Y => PUTs Y W0 ifs tt) (he : Blk X scope fun Y => PU Y W0 elt te)
    (h0 : 0 ∉ own.map (·.2) := by decide) (hsl : ∀ i ∈ sl, i ∈ own.map (·.2) := by decide) (hs : ∀ x, foldedSetIterable iter X.env x = pure x := by intro _; rfl) :
    PO X W (.ListComp elt [⟨tg, iter, ifs, 0⟩] scope pos) (lcG gi b tt te (own.map (·.2))) := pe_imp (pe_lc hc hN hi ok hg ht he hs) fun _ _ _ h => tLc_U h0 hsl h
end
end DL
/-! DLi: changing list comprehensions. -/
namespace DL
open PySem PySem.Spec PyProof.Rows L2

def compM (body : D → Ev → Rs (Option D × Ev)) : List D → Ev → Rs (List D × Ev)
  | [], ρ => .ok ([], ρ)
  | x :: xs, ρ => mbind (body x ρ) fun o ρ1 => mbind (compM body xs ρ1) fun ys ρ2 => .ok (o.toList ++ ys, ρ2)
theorem compM_cons (body : D → Ev → Rs (Option D × Ev)) (x : D) (xs : List D) (ρ : Ev) : compM body (x :: xs) ρ = mbind (body x ρ) fun o ρ1 => mbind (compM body xs ρ1) fun ys ρ2 => .ok (o.toList ++ ys, ρ2) := rfl
theorem compM_append (body : D → Ev → Rs (Option D × Ev)) : ∀ (xs ys : List D) (ρ : Ev), compM body (xs ++ ys) ρ = mbind (compM body xs ρ) fun p ρ1 => mbind (compM body ys ρ1) fun q ρ2 => .ok (p ++ q, ρ2)
  | [], ys, ρ => by
    show compM body ys ρ = mbind (compM body ys ρ) fun q ρ2 => .ok (q, ρ2)
    cases compM body ys ρ <;> rfl
  | x :: xs, ys, ρ => by
    rw [List.cons_append, compM_cons, compM_cons]
    cases body x ρ with
    | ok o =>
      obtain ⟨o, ρo⟩ := o
      simp only [mbind_ok]
      rw [compM_append body xs ys]
      cases compM body xs ρo with
      | ok p =>
        obtain ⟨p, ρp⟩ := p
        simp only [mbind_ok]
        cases compM body ys ρp with
        | ok q =>
          obtain ⟨q, ρq⟩ := q
          simp only [mbind_ok, List.append_assoc]
        | xc n as => rfl
        | bad => rfl
      | xc n as => rfl
      | bad => rfl
    | xc n as => rfl
    | bad => rfl
theorem compM_step {body : D → Ev → Rs (Option D × Ev)} {xs ys YS : List D} {ρ0 ρi ρe : Ev} {i : Nat} {d : D} (h : compM body xs ρ0 = .ok (YS, ρe)) (hd : xs[i]? = some d) (hi : compM body (xs.take i) ρ0 = .ok (ys, ρi)) :
    ∃ o ρ', body d ρi = .ok (o, ρ') ∧ compM body (xs.take (i + 1)) ρ0 = .ok (ys ++ o.toList, ρ') := by
  have hx : xs = xs.take i ++ (d :: xs.drop (i + 1)) := by
    obtain ⟨hl, e⟩ := List.getElem?_eq_some_iff.mp hd
    conv => lhs; rw [← List.take_append_drop i xs, List.drop_eq_getElem_cons hl, e]
  rw [hx, compM_append, hi] at h
  have h : mbind (compM body (d :: xs.drop (i + 1)) ρi) (fun q ρ2 => Rs.ok (ys ++ q, ρ2)) = .ok (YS, ρe) := h
  cases e : body d ρi with
  | ok o =>
    obtain ⟨o, ρo⟩ := o
    refine ⟨o, ρo, rfl, ?_⟩
    rw [take_succ_some hd, compM_append, hi]
    simp only [mbind_ok, compM_cons, e, compM, List.append_nil]
  | xc n as => rw [show compM body (d :: xs.drop (i + 1)) ρi = mbind (body d ρi) _ from rfl, e] at h; cases h
  | bad => rw [show compM body (d :: xs.drop (i + 1)) ρi = mbind (body d ρi) _ from rfl, e] at h; cases h
def wipeM {α : Type} (vs : List Nat) (a : α) (ρ : Ev) : Rs (α × Ev) := match wipeE vs ρ with
  | none => .bad
  | some ρ' => .ok (a, ρ')
def lcBodyM (b : D → Ev → Option Ev) (tt : Ev → Rs (Bool × Ev)) (te : Ev → Rs (D × Ev)) (vs : List Nat) (x : D) (ρ0 : Ev) : Rs (Option D × Ev) := match b x ρ0 with
  | none => .bad
  | some ρ1 => mbind (tt ρ1) fun k ρ2 => if k = true then mbind (te ρ2) fun y ρ3 => wipeM vs (some y) ρ3 else wipeM vs none ρ2
def lcM (fi : Ev → Rs (List D × Ev)) (b : D → Ev → Option Ev) (tt : Ev → Rs (Bool × Ev)) (te : Ev → Rs (D × Ev)) (vs : List Nat) (ρ : Ev) : Rs (O × Ev) := mbind (fi ρ) fun xs ρ1 => match wipeE vs ρ1 with
  | none => .bad
  | some ρ0 => mbind (compM (lcBodyM b tt te vs) xs ρ0) fun ys ρ2 => .ok (.l ys, ρ2)
theorem Sep.wipe {ρ ρ' : Ev} {σ : Sl} {D : Addr} {vs : List Nat} (h : Sep ρ σ D) (e : wipeE vs ρ = some ρ') : Sep ρ' (wipe σ vs) D := fun j b o hj hs => by
  obtain ⟨a1, a2⟩ := (wipeE_ok e).2.1 j _ hj
  rw [wipe_get a2] at hs
  exact h j b o a1 hs
section
variable {X : Cx} {elt tg iter : Expr} {ifs : List Expr} {scope : Scope} {own : List (Str × Nat)} {pos : Pos} {fi : Ev → Rs (List D × Ev)} {b : D → Ev → Option Ev} {tt : Ev → Rs (Bool × Ev)} {te : Ev → Rs (D × Ev)} {sl : List Nat}
theorem tLc_M (h0 : 0 ∉ own.map (·.2)) (hsl : ∀ i ∈ sl, i ∈ own.map (·.2)) {σ : Sl} {H : Hp} {Q : VK} (h : tM X (mO X.K) (lcM fi b tt te (own.map (·.2))) σ H Q) :
    tLc (tM X (mIt X.K) fi) (tTG X b sl) (tM X mT tt) (tM X (mD X.K) te) (own.map (·.2)) σ H Q := by
  obtain ⟨Z, F, ρ, S, u⟩ := h
  refine ⟨Z, F, ρ, S, M.bind u fun xs ρ1 J F1 H1 x1 S1 hJ u1 => fun D nD => ?_⟩
  have hJ : ItD X.K F1 J xs := hJ
  obtain ⟨hz, G, Y, w, hG, hY⟩ := hJ
  cases e1 : wipeE (own.map (·.2)) ρ1 with
  | none => rw [e1] at u1; exact u1.elim
  | some ρ0 =>
    rw [e1] at u1
    have u1 : M X (mO X.K) Z F1 σ Q (mbind (compM (lcBodyM b tt te (own.map (·.2))) xs ρ0) fun ys ρ2 => .ok (.l ys, ρ2)) := u1
    cases e2 : compM (lcBodyM b tt te (own.map (·.2))) xs ρ0 with
    | xc n as => rw [e2] at u1; exact u1.elim
    | bad => rw [e2] at u1; exact u1.elim
    | ok p =>
      obtain ⟨YS, ρe⟩ := p
      rw [e2] at u1
      have u1 : ∀ v F' H', Same F1 F' → SR X.K Z F' ρe σ H' → mO X.K Z F' ρe σ H' v (.l YS) → Q v H' := u1
      have S0 : SR X.K Z F1 ρ0 (wipe σ (own.map (·.2))) H1 := S1.wipe e1 fun _ => h0
      have gD : Z.G D = none := L2.Same.free S1.sg nD
      refine lc_it w (fun i Hc => ∃ Fi ρi acc ys, Same F1 Fi ∧ SR X.K Z Fi ρi (wipe σ (own.map (·.2))) Hc ∧ Fi D = none ∧ Hc D = some (.lst acc) ∧ Sep ρi (wipe σ (own.map (·.2))) D ∧ RDs X.K Fi acc ys ∧ acc.length ≤ i ∧
        compM (lcBodyM b tt te (own.map (·.2))) (xs.take i) ρ0 = .ok (ys, ρi) ∧ ∃ ρ', wipeE (own.map (·.2)) ρ' = some ρi) ?_ (fun i Hc _ ⟨Fi, ρi, acc, ys, x, Si, _⟩ => hG Fi Hc x Si.sf) (fun i v Hc H' hi ⟨Fi, ρi, acc, ys, x, Si, fD, hD, ap, rs, hl, hc, hwi⟩ hy => ?_) fun Hc ⟨Fi, ρi, acc, ys, x, Si, fD, hD, ap, rs, hl, hc, ρ', hw⟩ => ?_
      · exact ⟨F1, ρ0, [], [], Same.refl _, S0.ext (Ext.newO S1.sf nD), L2.Same.free S1.sf nD, upd_same, S0.apart nD, .nil, Nat.le_refl _, rfl, ρ1, e1⟩
      · obtain ⟨d, F'', hd, x2, rd⟩ := hY i Fi Hc v H' x Si.sf hy
        obtain ⟨o, ρn, eb, hc'⟩ := compM_step e2 hd hc
        have Sg := (Si.guard fD hD ap).ext x2
        unfold lcBodyM at eb
        split at eb
        · cases eb
        · rename_i ρa e3
          refine ⟨⟨upd Z.G D (.lst acc), Z.p0⟩, F'', ρi, d, ρa, Sg, rd, e3, fun σ' S' hw => ?_⟩
          have hw' : wipe σ' (own.map (·.2)) = wipe σ (own.map (·.2)) := (hw _ hsl).trans wipe_wipe
          refine ⟨hw', ⟨upd Z.G D (.lst acc), Z.p0⟩, F'', ρa, S', ?_⟩
          cases e4 : tt ρa with
          | xc n as => rw [e4] at eb; cases eb
          | bad => rw [e4] at eb; cases eb
          | ok q =>
            obtain ⟨k, ρb⟩ := q
            rw [e4] at eb
            have eb : (if k = true then mbind (te ρb) fun y ρ3 => wipeM (own.map (·.2)) (some y) ρ3 else wipeM (own.map (·.2)) none ρb) = .ok (o, ρn) := eb
            intro k' F4 H4 x4 S4 ek
            have ek : k' = k := ek
            subst ek
            cases k' with
            | true =>
              rw [if_pos rfl] at eb
              refine iteT ⟨⟨upd Z.G D (.lst acc), Z.p0⟩, F4, ρb, S4, ?_⟩
              cases e5 : te ρb with
              | xc n as => rw [e5] at eb; cases eb
              | bad => rw [e5] at eb; cases eb
              | ok r =>
                obtain ⟨y, ρc⟩ := r
                rw [e5] at eb
                have eb : wipeM (own.map (·.2)) (some y) ρc = .ok (o, ρn) := eb
                intro yv F5 H5 x5 S5 ry
                have ry : RD X.K F5 yv y := ry
                obtain ⟨S5', fD5, hD5, ap5⟩ := S5.unguard gD
                unfold wipeM at eb
                split at eb
                · cases eb
                · rename_i ρw ew
                  cases eb
                  have S6 := S5'.wipe ew fun _ => h0
                  have ap6 := ap5.wipe ew
                  rw [hw'] at S6 ap6
                  exact ⟨acc, hD5, Nat.lt_of_le_of_lt hl (Nat.lt_of_lt_of_le hi hz), F5, _, acc ++ [yv], ys ++ [y], x.trans (x2.ff.trans (x4.trans x5)), S6.other fD5 gD ap6, fD5, upd_same, ap6, (rs.mono (x2.ff.trans (x4.trans x5))).append (.cons ry .nil), by simp; exact hl, hc', _, ew⟩
            | false =>
              rw [if_neg Bool.false_ne_true] at eb
              obtain ⟨S5', fD5, hD5, ap5⟩ := S4.unguard gD
              unfold wipeM at eb
              split at eb
              · cases eb
              · rename_i ρw ew
                cases eb
                have S6 := S5'.wipe ew fun _ => h0
                have ap6 := ap5.wipe ew
                rw [hw'] at S6 ap6
                refine iteF ⟨F4, _, acc, ys, x.trans (x2.ff.trans x4), S6, fD5, hD5, ap6, rs.mono (x2.ff.trans x4), Nat.le_succ_of_le hl, ?_, _, ew⟩
                rw [hc']
                simp
      · rw [List.take_length, e2] at hc
        cases hc
        have nv : ∀ (i : Nat) (e : E), ρe[i]? = some (some e) → i ∉ own.map (·.2) := fun i e q => ((wipeE_ok hw).2.1 i e q).2
        have Se : SR X.K Z Fi ρe σ Hc := Si.slots (wipe_length _ _).symm (fun i e q => (wipe_get (nv i e q)).symm) fun p _ => (wipe_get h0).symm
        refine u1 _ Fi Hc x Se ⟨D, rfl, fD, gD, ⟨acc, hD, Nat.le_trans hl hz, rs⟩, fun j bb o' hj hs => ?_⟩
        exact ap j bb o' hj (by rw [wipe_get (nv j _ hj)]; exact hs)
theorem mo_lc (hc : X.calm = true) (hN : X.N.Nodup) (hi : IM X tg iter fi) (ok : BlkOk X.N X.env.scope scope own) (hg : Blk X scope fun Y => TU Y tg b sl) (ht : Blk X scope fun Y => MTs Y ifs tt) (he : Blk X scope fun Y => ME Y elt te)
    (h0 : 0 ∉ own.map (·.2) := by decide) (hsl : ∀ i ∈ sl, i ∈ own.map (·.2) := by decide) (hs : ∀ x, foldedSetIterable iter X.env x = pure x := by intro _; rfl) :
    MO X (.ListComp elt [⟨tg, iter, ifs, 0⟩] scope pos) (lcM fi b tt te (own.map (·.2))) := pe_imp (pe_lc hc hN hi ok hg ht he hs) fun _ _ _ h => tLc_M h0 hsl h
end
end DL
/-! DLj: statements. -/
namespace DL
open PySem PySem.Spec PyProof.Rows L2

inductive Out where
  | nx (ρ : Ev)
  | rt (d : D) (ρ : Ev)
  | ro (o : O) (ρ : Ev)
  | bk (ρ : Ev)
  | ct (ρ : Ev)
  | xc (n : Str) (as : List D) (ρ : Ev)
  | bad
def SP' (X : Cx) (W : WX) (Z : Fz) (F : Hp) (T : Ends) : Out → Prop
  | .nx ρ => ∀ F' σ' H', Same F F' → SR X.K Z F' ρ σ' H' → T.nx σ' H'
  | .bk ρ => ∀ F' σ' H', Same F F' → SR X.K Z F' ρ σ' H' → T.bk σ' H'
  | .ct ρ => ∀ F' σ' H', Same F F' → SR X.K Z F' ρ σ' H' → T.ct σ' H'
  | .rt d ρ => ∀ v F' σ' H', Same F F' → SR X.K Z F' ρ σ' H' → RD X.K F' v d → T.rt v H'
  | .ro o ρ => ∀ v F' σ' H', Same F F' → SR X.K Z F' ρ σ' H' → mO X.K Z F' ρ σ' H' v o → T.rt v H'
  | .xc n as ρ => ∀ F' σ' H', Same F F' → SR X.K Z F' ρ σ' H' → XW X W F' n as σ' H'
  | .bad => False
theorem SP'.ext {X : Cx} {W : WX} {Z : Fz} {F F1 : Hp} {T : Ends} {o : Out} (x : Same F F1) (h : SP' X W Z F T o) : SP' X W Z F1 T o := by
  cases o with
  | nx ρ => exact fun F' σ' H' y => h F' σ' H' (x.trans y)
  | bk ρ => exact fun F' σ' H' y => h F' σ' H' (x.trans y)
  | ct ρ => exact fun F' σ' H' y => h F' σ' H' (x.trans y)
  | rt d ρ => exact fun v F' σ' H' y => h v F' σ' H' (x.trans y)
  | ro d ρ => exact fun v F' σ' H' y => h v F' σ' H' (x.trans y)
  | xc n as ρ => exact fun F' σ' H' y => h F' σ' H' (x.trans y)
  | bad => exact h
def tS (X : Cx) (W : WX) (f : Ev → Out) : TS := fun T σ H => ∃ Z F ρ, SR X.K Z F ρ σ H ∧ SP' X W Z F T (f ρ)
abbrev SU (X : Cx) (W : WX) (st : Stmt) (f : Ev → Out) : Prop := PS X st (tS X W f)
abbrev SUs (X : Cx) (W : WX) (st : List Stmt) (f : Ev → Out) : Prop := PSs X st (tS X W f)
/-- what a pure (changing) value is handed on to -/
@[simp] def outG {α : Type} (g : Ev → Rs α) (k : α → Ev → Out) (ρ : Ev) : Out := match g ρ with
  | .ok a => k a ρ
  | .xc n as => .xc n as ρ
  | .bad => .bad
@[simp] def outM {α : Type} (f : Ev → Rs (α × Ev)) (k : α → Ev → Out) (ρ : Ev) : Out := match f ρ with
  | .ok p => k p.1 p.2
  | _ => .bad
@[simp] def optO (r : Option Ev) (k : Ev → Out) : Out := match r with
  | some ρ => k ρ
  | none => .bad
section
variable {α β : Type} {X : Cx} {W : WX} {Z : Fz} {F H : Hp} {ρ : Ev} {σ : Sl} {T : Ends}
theorem outG_U {R : Hp → Hp → Hp → β → α → Prop} {g : Ev → Rs α} {k : α → Ev → Out} {Q : β → Hp → Prop} (S : SR X.K Z F ρ σ H) (h : SP' X W Z F T (outG g k ρ))
    (q : ∀ a b F' H', Ext F H F' H' → SR X.K Z F' ρ σ H' → R H F' H' b a → SP' X W Z F' T (k a ρ) → Q b H') : U X W R F H σ Q (g ρ) := by
  unfold outG at h
  cases e : g ρ with
  | ok a => rw [e] at h; exact fun b F' H' x r => q a b F' H' x (S.ext x) r (h.ext x.ff)
  | xc n as => rw [e] at h; exact fun F' H' x => h F' σ H' x.ff (S.ext x)
  | bad => rw [e] at h; exact h
theorem outM_M {R : Fz → Hp → Ev → Sl → Hp → β → α → Prop} {f : Ev → Rs (α × Ev)} {k : α → Ev → Out} {Q : β → Hp → Prop} (h : SP' X W Z F T (outM f k ρ))
    (q : ∀ a ρ' b F' H', Same F F' → SR X.K Z F' ρ' σ H' → R Z F' ρ' σ H' b a → SP' X W Z F' T (k a ρ') → Q b H') : M X R Z F σ Q (f ρ) := by
  unfold outM at h
  cases e : f ρ with
  | ok p => rw [e] at h; exact fun b F' H' x S r => q p.1 p.2 b F' H' x S r (h.ext x)
  | xc n as => rw [e] at h; exact h
  | bad => rw [e] at h; exact h
theorem optO_some {r : Option Ev} {k : Ev → Out} (h : SP' X W Z F T (optO r k)) : ∃ ρ', r = some ρ' ∧ SP' X W Z F T (k ρ') := by
  cases r with
  | none => exact h.elim
  | some ρ' => exact ⟨ρ', rfl, h⟩
end

/-! ### blocks -/
@[simp] def seqS (f g : Ev → Out) (ρ : Ev) : Out := match f ρ with
  | .nx ρ' => g ρ'
  | o => o
section
variable {X : Cx} {W : WX} {st : Stmt} {rest : List Stmt} {f g : Ev → Out} {pos : Pos}
theorem ss_nil : SUs X W [] (fun ρ => .nx ρ) := pss_imp pss_nil fun T σ H ⟨Z, F, ρ, S, h⟩ => h F σ H (Same.refl F) S
theorem ss_cons (h1 : SU X W st f) (h2 : SUs X W rest g) : SUs X W (st :: rest) (seqS f g) := pss_imp (pss_cons h1 h2) fun T σ H ⟨Z, F, ρ, S, h⟩ => ⟨Z, F, ρ, S, by
  unfold seqS at h
  cases e : f ρ with
  | nx ρ' => rw [e] at h; exact fun F' σ' H' x S' => ⟨Z, F', ρ', S', h.ext x⟩
  | bk ρ' => rw [e] at h; exact h
  | ct ρ' => rw [e] at h; exact h
  | rt d ρ' => rw [e] at h; exact h
  | ro d ρ' => rw [e] at h; exact h
  | xc n as ρ' => rw [e] at h; exact h
  | bad => rw [e] at h; exact h⟩
theorem ss_one (h1 : SU X W st f) : SUs X W [st] f := pss_one h1
theorem s_pass : SU X W (.Pass pos) (fun ρ => .nx ρ) := ps_imp ps_pass fun T σ H ⟨Z, F, ρ, S, h⟩ => h F σ H (Same.refl F) S
theorem s_break : SU X W (.Break pos) (fun ρ => .bk ρ) := ps_imp ps_break fun T σ H ⟨Z, F, ρ, S, h⟩ => h F σ H (Same.refl F) S
theorem s_continue : SU X W (.Continue pos) (fun ρ => .ct ρ) := ps_imp ps_continue fun T σ H ⟨Z, F, ρ, S, h⟩ => h F σ H (Same.refl F) S
theorem s_never : SU X W st (fun _ => .bad) := ps_imp ps_never fun T σ H ⟨Z, F, ρ, S, h⟩ => h
theorem ss_never {sts : List Stmt} : SUs X W sts (fun _ => .bad) := pss_imp pss_never fun T σ H ⟨Z, F, ρ, S, h⟩ => h
end

/-! ### small statements -/
section
variable {X : Cx} {W : WX} {e : Expr} {ga : Ev → Rs D} {go : Ev → Rs O} {fa : Ev → Rs (D × Ev)} {fo : Ev → Rs (O × Ev)} {pos : Pos} {b : D → Ev → Option Ev} {sl : List Nat}
theorem s_expr (h : PU X W e ga) (hs : swapsWith e none pos.line X.env = pure false := by rfl) : SU X W (.Expr e pos) (outG ga fun _ ρ => .nx ρ) := ps_imp (ps_expr h hs) fun T σ H ⟨Z, F, ρ, S, h⟩ =>
  ⟨Z, F, ρ, S, outG_U S h fun a b F' H' x S' r h' => h' F' σ H' (Same.refl _) S'⟩
theorem s_exprM (h : ME X e fa) (hs : swapsWith e none pos.line X.env = pure false := by rfl) : SU X W (.Expr e pos) (outM fa fun _ ρ => .nx ρ) := ps_imp (ps_expr h hs) fun T σ H ⟨Z, F, ρ, S, h⟩ =>
  ⟨Z, F, ρ, S, outM_M h fun a ρ' b F' H' x S' r h' => h' F' σ H' (Same.refl _) S'⟩
theorem s_ret (h : PU X W e ga) : SU X W (.Return (some e) pos) (outG ga fun d ρ => .rt d ρ) := ps_imp (ps_ret h) fun T σ H ⟨Z, F, ρ, S, h⟩ =>
  ⟨Z, F, ρ, S, outG_U S h fun a b F' H' x S' r h' => h' b F' σ H' (Same.refl _) S' r⟩
theorem s_retM (h : ME X e fa) : SU X W (.Return (some e) pos) (outM fa fun d ρ => .rt d ρ) := ps_imp (ps_ret h) fun T σ H ⟨Z, F, ρ, S, h⟩ =>
  ⟨Z, F, ρ, S, outM_M h fun a ρ' b F' H' x S' r h' => h' b F' σ H' (Same.refl _) S' r⟩
theorem s_retO (h : MO X e fo) : SU X W (.Return (some e) pos) (outM fo fun d ρ => .ro d ρ) := ps_imp (ps_ret h) fun T σ H ⟨Z, F, ρ, S, h⟩ =>
  ⟨Z, F, ρ, S, outM_M h fun a ρ' b F' H' x S' r h' => h' b F' σ H' (Same.refl _) S' r⟩
theorem s_retN : SU X W (.Return none pos) (fun ρ => .rt .none ρ) := ps_imp ps_retN fun T σ H ⟨Z, F, ρ, S, h⟩ => h _ F σ H (Same.refl _) S .non
/-- name = e, data -/
@[simp] def setS (i : Nat) (d : D) (ρ : Ev) : Out := optO (setE i (some (.dat d)) ρ) .nx
@[simp] def setOS (i : Nat) (o : O) (ρ : Ev) : Out := optO (setE i (some (.own false o)) ρ) .nx
theorem s_asg {tg : Expr} (h : PU X W e ga) (ht : TU X tg b sl) (hs : swapsWithSole [tg] e pos.line X.env = pure false := by rfl) (hw : swappedStores [tg] e X.env = pure none := by rfl) (h1 : (assignEach [tg] X.env).map (·.2) = [assign tg X.env] := by rfl) :
    SU X W (.Assign [tg] e pos) (outG ga fun d ρ => optO (b d ρ) .nx) := ps_imp (ps_asg h ht hs hw h1) fun T σ H ⟨Z, F, ρ, S, h⟩ =>
  ⟨Z, F, ρ, S, outG_U S h fun a v F' H' x S' r h' => by
    obtain ⟨ρ', e1, h2⟩ := optO_some h'
    exact ⟨Z, F', ρ, a, ρ', S', r, e1, fun σ' S2 _ => h2 F' σ' H' (Same.refl _) S2⟩⟩
theorem s_asgM {tg : Expr} (h : ME X e fa) (ht : TU X tg b sl) (hs : swapsWithSole [tg] e pos.line X.env = pure false := by rfl) (hw : swappedStores [tg] e X.env = pure none := by rfl) (h1 : (assignEach [tg] X.env).map (·.2) = [assign tg X.env] := by rfl) :
    SU X W (.Assign [tg] e pos) (outM fa fun d ρ => optO (b d ρ) .nx) := ps_imp (ps_asg h ht hs hw h1) fun T σ H ⟨Z, F, ρ, S, h⟩ =>
  ⟨Z, F, ρ, S, outM_M h fun a ρ' v F' H' x S' r h' => by
    obtain ⟨ρ2, e1, h2⟩ := optO_some h'
    exact ⟨Z, F', ρ', a, ρ2, S', r, e1, fun σ' S2 _ => h2 F' σ' H' (Same.refl _) S2⟩⟩
variable {i : Nat} {x : Str} {pos' : Pos}
theorem set_U {v : V} {Z : Fz} {F H : Hp} {ρ : Ev} {σ : Sl} {T : Ends} {d : D} (S : SR X.K Z F ρ σ H) (r : RD X.K F v d) (h : SP' X W Z F T (setS i d ρ)) : gName i v σ H T.nx := by
  obtain ⟨ρ', e1, h2⟩ := optO_some h
  obtain ⟨rfl, np, hl⟩ := setE_ok e1
  exact h2 F _ H (Same.refl _) (S.setDat r np)
theorem set_O {v : V} {Z : Fz} {F H : Hp} {ρ : Ev} {σ : Sl} {T : Ends} {o : O} (S : SR X.K Z F ρ σ H) (r : mO X.K Z F ρ σ H v o) (h : SP' X W Z F T (setOS i o ρ)) : gName i v σ H T.nx := by
  obtain ⟨ρ', e1, h2⟩ := optO_some h
  obtain ⟨rfl, np, hl⟩ := setE_ok e1
  obtain ⟨p, rfl, n1, n2, r, ap⟩ := r
  exact h2 F _ H (Same.refl _) (S.setOwn n1 n2 ap r np)
/-- name = e: t is the reading of PS (a plain store, or a comprehension's) -/
theorem s_set (hN : X.N.Nodup) (h : PU X W e ga) (hi : X.N[i]? = some x := by rfl) (hx : Loc X.env.scope x := by first | exact Or.inl rfl | exact Or.inr rfl) (hs : swapsWith e (some (.Name x pos')) pos.line X.env = pure false := by rfl)
    (hf : X.fn x = true ∨ X.env.scope.names.lookup x = some .local := by first | exact Or.inl rfl | exact Or.inr rfl) : SU X W (.Assign [.Name x pos'] e pos) (outG ga (setS i)) := ps_imp (ps_set hN hi hx h hs hf) fun T σ H ⟨Z, F, ρ, S, h⟩ =>
  ⟨Z, F, ρ, S, outG_U S h fun a v F' H' x S' r h' => set_U S' r h'⟩
theorem s_setM (hN : X.N.Nodup) (h : ME X e fa) (hi : X.N[i]? = some x := by rfl) (hx : Loc X.env.scope x := by first | exact Or.inl rfl | exact Or.inr rfl) (hs : swapsWith e (some (.Name x pos')) pos.line X.env = pure false := by rfl)
    (hf : X.fn x = true ∨ X.env.scope.names.lookup x = some .local := by first | exact Or.inl rfl | exact Or.inr rfl) : SU X W (.Assign [.Name x pos'] e pos) (outM fa (setS i)) := ps_imp (ps_set hN hi hx h hs hf) fun T σ H ⟨Z, F, ρ, S, h⟩ =>
  ⟨Z, F, ρ, S, outM_M h fun a ρ' v F' H' x S' r h' => set_U S' r h'⟩
theorem s_setO (hN : X.N.Nodup) (h : MO X e fo) (hi : X.N[i]? = some x := by rfl) (hx : Loc X.env.scope x := by first | exact Or.inl rfl | exact Or.inr rfl) (hs : swapsWith e (some (.Name x pos')) pos.line X.env = pure false := by rfl)
    (hf : X.fn x = true ∨ X.env.scope.names.lookup x = some .local := by first | exact Or.inl rfl | exact Or.inr rfl) : SU X W (.Assign [.Name x pos'] e pos) (outM fo (setOS i)) := ps_imp (ps_set hN hi hx h hs hf) fun T σ H ⟨Z, F, ρ, S, h⟩ =>
  ⟨Z, F, ρ, S, outM_M h fun a ρ' v F' H' x S' r h' => set_O S' r h'⟩
end
/- name = [..] on one line -/
section
variable {X : Cx} {W : WX} {i : Nat} {y : Str} {py : Pos} {elt tg iter : Expr} {ifs : List Expr} {scope : Scope} {own : List (Str × Nat)} {pos spos : Pos} {gi : Ev → Rs (List D)} {fi : Ev → Rs (List D × Ev)} {b : D → Ev → Option Ev} {tt : Ev → Rs Bool} {te : Ev → Rs D} {mt : Ev → Rs (Bool × Ev)} {me : Ev → Rs (D × Ev)} {sl : List Nat}
/-- own: the new list stays the name's own -/
theorem s_setLcO (hc : X.calm = true) (hN : X.N.Nodup) (hi : IM X tg iter fi) (ok : BlkOk X.N X.env.scope scope own) (hg : Blk X scope fun Y => TU Y tg b sl) (ht : Blk X scope fun Y => MTs Y ifs mt) (he : Blk X scope fun Y => ME Y elt me)
    (hy : X.N[i]? = some y := by rfl) (hyl : X.env.scope.names.lookup y = some .local := by rfl) (hsw : swapsWith (.ListComp elt [⟨tg, iter, ifs, 0⟩] scope pos) (some (.Name y py)) spos.line X.env = pure true := by exact sw_true rfl rfl rfl (by decide +kernel))
    (h0 : 0 ∉ own.map (·.2) := by decide) (hsl : ∀ i ∈ sl, i ∈ own.map (·.2) := by decide) (hs : ∀ x, foldedSetIterable iter X.env x = pure x := by intro _; rfl) :
    SU X W (.Assign [.Name y py] (.ListComp elt [⟨tg, iter, ifs, 0⟩] scope pos) spos) (outM (lcM fi b mt me (own.map (·.2))) (setOS i)) := ps_imp (ps_setLc hc hN hy hyl hsw hi ok hg ht he hs) fun T σ H ⟨Z, F, ρ, S, h⟩ =>
  tLc_M h0 hsl ⟨Z, F, ρ, S, outM_M h fun a ρ' v F' H' x S' r h' => set_O S' r h'⟩
/-- it is frozen at once -/
theorem s_setLcF (hc : X.calm = true) (hN : X.N.Nodup) (hi : IM X tg iter fi) (ok : BlkOk X.N X.env.scope scope own) (hg : Blk X scope fun Y => TU Y tg b sl) (ht : Blk X scope fun Y => MTs Y ifs mt) (he : Blk X scope fun Y => ME Y elt me)
    (hy : X.N[i]? = some y := by rfl) (hyl : X.env.scope.names.lookup y = some .local := by rfl) (hsw : swapsWith (.ListComp elt [⟨tg, iter, ifs, 0⟩] scope pos) (some (.Name y py)) spos.line X.env = pure true := by exact sw_true rfl rfl rfl (by decide +kernel))
    (h0 : 0 ∉ own.map (·.2) := by decide) (hsl : ∀ i ∈ sl, i ∈ own.map (·.2) := by decide) (hs : ∀ x, foldedSetIterable iter X.env x = pure x := by intro _; rfl) :
    SU X W (.Assign [.Name y py] (.ListComp elt [⟨tg, iter, ifs, 0⟩] scope pos) spos) (outM (lcM fi b mt me (own.map (·.2))) fun o => setS i o.dat) := ps_imp (ps_setLc hc hN hy hyl hsw hi ok hg ht he hs) fun T σ H ⟨Z, F, ρ, S, h⟩ =>
  tLc_M h0 hsl ⟨Z, F, ρ, S, outM_M h fun a ρ' v F' H' x S' r h' => by
    obtain ⟨p, rfl, n, n', r, ap⟩ := r
    obtain ⟨ho, e1, _⟩ := r.ex
    exact set_U (S'.frzNew n n' e1 ap) (r.rd e1 n) (h'.ext (same_upd n))⟩
theorem s_setLcP (hc : X.calm = true) (hN : X.N.Nodup) (hi : IU X W tg iter gi) (ok : BlkOk X.N X.env.scope scope own) (hg : Blk X scope fun Y => TU Y tg b sl) (ht : Blk X scope fun Y => PUTs Y W0 ifs tt) (he : Blk X scope fun Y => PU Y W0 elt te)
    (hy : X.N[i]? = some y := by rfl) (hyl : X.env.scope.names.lookup y = some .local := by rfl) (hsw : swapsWith (.ListComp elt [⟨tg, iter, ifs, 0⟩] scope pos) (some (.Name y py)) spos.line X.env = pure true := by exact sw_true rfl rfl rfl (by decide +kernel))
    (h0 : 0 ∉ own.map (·.2) := by decide) (hsl : ∀ i ∈ sl, i ∈ own.map (·.2) := by decide) (hs : ∀ x, foldedSetIterable iter X.env x = pure x := by intro _; rfl) :
    SU X W (.Assign [.Name y py] (.ListComp elt [⟨tg, iter, ifs, 0⟩] scope pos) spos) (outG (lcG gi b tt te (own.map (·.2))) fun o => setS i o.dat) := ps_imp (ps_setLc hc hN hy hyl hsw hi ok hg ht he hs) fun T σ H ⟨Z, F, ρ, S, h⟩ =>
  tLc_U h0 hsl ⟨Z, F, ρ, S, outG_U S h fun a v F' H' x S' r h' => by
    obtain ⟨p, rfl, n0, n, r⟩ := r
    obtain ⟨ho, e1, _⟩ := r.ex
    exact set_U (S'.frzNew n (L2.Same.free S.sg n0) e1 (S.apart n0)) (r.rd e1 n) (h'.ext (same_upd n))⟩
end

/-! ### if, for, while -/
def ifS (gc : Ev → Rs Bool) (f g : Ev → Out) : Ev → Out := outG gc fun k ρ => if k = true then f ρ else g ρ
def ifSM (fc : Ev → Rs (Bool × Ev)) (f g : Ev → Out) : Ev → Out := outM fc fun k ρ => if k = true then f ρ else g ρ
def forS (b : D → Ev → Option Ev) (body : Ev → Out) (vs : List Nat) : List D → Ev → Out
  | [], ρ => .nx ρ
  | x :: xs, ρ => optO (b x ρ) fun ρ1 => match body ρ1 with
    | .nx ρ2 => optO (wipeE vs ρ2) (forS b body vs xs)
    | .ct ρ2 => optO (wipeE vs ρ2) (forS b body vs xs)
    | .bk ρ2 => .nx ρ2
    | o => o
def whS (gc : Ev → Rs (Bool × Ev)) (body : Ev → Out) : Nat → Ev → Out
  | 0, _ => .bad
  | n + 1, ρ => outM gc (fun k ρ1 => if k = true then (match body ρ1 with
    | .nx ρ2 => whS gc body n ρ2
    | .ct ρ2 => whS gc body n ρ2
    | .bk ρ2 => .nx ρ2
    | o => o) else .nx ρ1) ρ
section
variable {X : Cx} {W : WX} {c tg iter : Expr} {p q : List Stmt} {gc : Ev → Rs Bool} {fc : Ev → Rs (Bool × Ev)} {f g : Ev → Out} {pos : Pos} {gi : Ev → Rs (List D)} {fi : Ev → Rs (List D × Ev)} {b : D → Ev → Option Ev} {sl : List Nat}
theorem s_if (hc : PUT X W c gc) (h1 : SUs X W p f) (h2 : SUs X W q g) : SU X W (.If c p q pos) (ifS gc f g) := ps_imp (ps_if hc h1 h2) fun T σ H ⟨Z, F, ρ, S, h⟩ =>
  ⟨Z, F, ρ, S, outG_U S h fun a k F' H' x S' r h' => by
    have r : k = a := r
    subst r
    cases k with
    | true => exact iteT ⟨Z, F', ρ, S', h'⟩
    | false => exact iteF ⟨Z, F', ρ, S', h'⟩⟩
theorem s_ifM (hc : MT X c fc) (h1 : SUs X W p f) (h2 : SUs X W q g) : SU X W (.If c p q pos) (ifSM fc f g) := ps_imp (ps_if hc h1 h2) fun T σ H ⟨Z, F, ρ, S, h⟩ =>
  ⟨Z, F, ρ, S, outM_M h fun a ρ' k F' H' x S' r h' => by
    have r : k = a := r
    subst r
    cases k with
    | true => exact iteT ⟨Z, F', ρ', S', h'⟩
    | false => exact iteF ⟨Z, F', ρ', S', h'⟩⟩
theorem wipe_S {Z : Fz} {F H : Hp} {ρ ρ' : Ev} {σ : Sl} {K : Frg} {vs : List Nat} (S : SR K Z F ρ σ H) (h : wipeE vs ρ = some ρ') : SR K Z F ρ' σ H := by
  obtain ⟨a1, a2, a3⟩ := wipeE_ok h
  exact S.weak a1 (fun i e q => (a2 i e q).1) a3
/-- the loop behind the coming of its iterator -/
theorem for_core {Z : Fz} {F : Hp} {ρ : Ev} {σ : Sl} {H : Hp} {T : Ends} {J : It} {xs : List D} (vs : List Nat) (hJ : ItD X.K F J xs) (S : SR X.K Z F ρ σ H) (h : SP' X W Z F T (forS b f vs xs ρ)) :
    ∃ W' : Nat → Nat → L2.St → Hp → Prop, (∃ m, W' 0 m σ H) ∧ ∀ i m σ H, W' i m σ H → (J.stop i H ∧ T.nx σ H) ∨ (J.go i H ∧ ∃ N : L2.St → Hp → Prop, (∀ σ' H', N σ' H' → ∃ m', m' < m ∧ W' (i + 1) m' σ' H') ∧
      ∀ x H', J.yld i H x H' → tTG X b sl x σ H' fun σ2 H2 => tS X W f { T with nx := N, ct := N, bk := T.nx } σ2 H2) := by
  obtain ⟨hz, G, Y, w, hG, hY⟩ := hJ
  refine for_it w (fun i σ H => ∃ Fi ρi, Same F Fi ∧ SR X.K Z Fi ρi σ H ∧ SP' X W Z Fi T (forS b f vs (xs.drop i) ρi)) ⟨F, ρ, Same.refl _, S, h⟩ (fun i σ H _ ⟨Fi, ρi, x, Si, _⟩ => hG Fi H x Si.sf) (fun i v σ H H' hi ⟨Fi, ρi, x, Si, hi'⟩ hy => ?_) fun σ H ⟨Fi, ρi, x, Si, hn⟩ => ?_
  · obtain ⟨d, F'', hd, x2, rd⟩ := hY i Fi H v H' x Si.sf hy
    obtain ⟨hl, ed⟩ := List.getElem?_eq_some_iff.mp hd
    rw [List.drop_eq_getElem_cons hl, ed] at hi'
    obtain ⟨ρ1, e1, h1⟩ := optO_some (show SP' X W Z Fi T (optO (b d ρi) fun ρ1 => match f ρ1 with
      | .nx ρ2 => optO (wipeE vs ρ2) (forS b f vs (xs.drop (i + 1)))
      | .ct ρ2 => optO (wipeE vs ρ2) (forS b f vs (xs.drop (i + 1)))
      | .bk ρ2 => .nx ρ2
      | o => o) from hi')
    refine ⟨Z, F'', ρi, d, ρ1, Si.ext x2, rd, e1, fun σ' S' _ => ⟨Z, F'', ρ1, S', ?_⟩⟩
    cases e2 : f ρ1 with
    | nx ρ2 =>
      rw [e2] at h1
      obtain ⟨ρ3, e3, h3⟩ := optO_some h1
      exact fun F4 σ4 H4 x4 S4 => ⟨F4, ρ3, x.trans (x2.ff.trans x4), wipe_S S4 e3, h3.ext (x2.ff.trans x4)⟩
    | ct ρ2 =>
      rw [e2] at h1
      obtain ⟨ρ3, e3, h3⟩ := optO_some h1
      exact fun F4 σ4 H4 x4 S4 => ⟨F4, ρ3, x.trans (x2.ff.trans x4), wipe_S S4 e3, h3.ext (x2.ff.trans x4)⟩
    | bk ρ2 => rw [e2] at h1; exact fun F4 σ4 H4 x4 S4 => h1 F4 σ4 H4 (x2.ff.trans x4) S4
    | rt d ρ2 => rw [e2] at h1; exact fun v F4 σ4 H4 x4 S4 => h1 v F4 σ4 H4 (x2.ff.trans x4) S4
    | ro d ρ2 => rw [e2] at h1; exact fun v F4 σ4 H4 x4 S4 => h1 v F4 σ4 H4 (x2.ff.trans x4) S4
    | xc n as ρ2 => rw [e2] at h1; exact fun F4 σ4 H4 x4 S4 => h1 F4 σ4 H4 (x2.ff.trans x4) S4
    | bad => rw [e2] at h1; exact h1
  · rw [List.drop_length] at hn
    exact hn Fi σ H (Same.refl _) Si
theorem s_for (vs : List Nat) (hp : PassesOwn (model X.prog X.w) X.A X.env X.xe) (hc : X.calm = true) (hi : IU X W tg iter gi) (hg : TU X tg b sl) (hb : SUs X W p f) (hs : ∀ x, foldedSetIterable iter X.env x = pure x := by intro _; rfl) :
    SU X W (.For tg iter p [] pos) (outG gi (forS b f vs)) := ps_imp (ps_for hp hc hi hg hb hs) fun T σ H ⟨Z, F, ρ, S, h⟩ =>
  ⟨Z, F, ρ, S, outG_U S h fun xs J F' H' x S' r h' => for_core vs r S' h'⟩
theorem s_forM (vs : List Nat) (hp : PassesOwn (model X.prog X.w) X.A X.env X.xe) (hc : X.calm = true) (hi : IM X tg iter fi) (hg : TU X tg b sl) (hb : SUs X W p f) (hs : ∀ x, foldedSetIterable iter X.env x = pure x := by intro _; rfl) :
    SU X W (.For tg iter p [] pos) (outM fi (forS b f vs)) := ps_imp (ps_for hp hc hi hg hb hs) fun T σ H ⟨Z, F, ρ, S, h⟩ =>
  ⟨Z, F, ρ, S, outM_M h fun xs ρ' J F' H' x S' r h' => for_core vs r S' h'⟩
theorem s_while (n : Nat) (hp : PassesOwn (model X.prog X.w) X.A X.env X.xe) (hc : MT X c fc) (hb : SUs X W p f) : SU X W (.While c p [] pos) (whS fc f n) := ps_imp (ps_while hp hc hb) fun T σ H ⟨Z, F, ρ, S, h⟩ => by
  refine ⟨fun m σ H => ∃ F' ρ', Same F F' ∧ SR X.K Z F' ρ' σ H ∧ SP' X W Z F' T (whS fc f m ρ'), ⟨n, F, ρ, Same.refl _, S, h⟩, ?_⟩
  rintro m σ1 H1 ⟨F1, ρ1, x1, S1, h1⟩
  cases m with
  | zero => exact h1.elim
  | succ m =>
    refine ⟨Z, F1, ρ1, S1, outM_M h1 fun a ρ2 k F2 H2 x2 S2 r h2 => ?_⟩
    have r : k = a := r
    subst r
    cases k with
    | false => exact iteF (h2 F2 σ1 H2 (Same.refl _) S2)
    | true =>
      refine iteT ⟨fun σ' H' => ∃ F' ρ', Same F F' ∧ SR X.K Z F' ρ' σ' H' ∧ SP' X W Z F' T (whS fc f m ρ'), fun σ' H' q => ⟨m, Nat.lt_succ_self m, q⟩, Z, F2, ρ2, S2, ?_⟩
      rw [if_pos rfl] at h2
      cases e2 : f ρ2 with
      | nx ρ3 => rw [e2] at h2; exact fun F4 σ4 H4 x4 S4 => ⟨F4, ρ3, x1.trans (x2.trans x4), S4, h2.ext x4⟩
      | ct ρ3 => rw [e2] at h2; exact fun F4 σ4 H4 x4 S4 => ⟨F4, ρ3, x1.trans (x2.trans x4), S4, h2.ext x4⟩
      | bk ρ3 => rw [e2] at h2; exact fun F4 σ4 H4 x4 S4 => h2 F4 σ4 H4 x4 S4
      | rt d ρ3 => rw [e2] at h2; exact h2
      | ro d ρ3 => rw [e2] at h2; exact h2
      | xc n as ρ3 => rw [e2] at h2; exact h2
      | bad => rw [e2] at h2; exact h2
end
end DL
/-! DLk: methods that change an own object, names that are lent, assignments in parallel. -/
namespace DL
open PySem PySem.Spec PyProof.Rows L2

/-! ### methods that change -/
/-- what a method does at an own object -/
def MthD (K : Frg) (r : V → List V → Hp → VK → Prop) (m : O → List D → Option (D × O)) : Prop := ∀ (F H : Hp) (p : Addr) (vs : List V) (o : O) (ds : List D) (d : D) (o' : O) (Q : VK),
  Same F H → F p = none → RO K F H p o → RDs K F vs ds → m o ds = some (d, o') → (∀ v u, RO K F (upd H p u) p o' → RD K F v d → Q v (upd H p u)) → r (.ref p) vs H Q
@[simp] def ownT : O → String
  | .l _ => "list"
  | .d _ => "dict"
  | .t _ => "dict"
@[simp] def mthM (T : String) (i : Nat) (m : O → List D → Option (D × O)) (fs : Ev → Rs (List D × Ev)) (ρ : Ev) : Rs (D × Ev) := match ρ[i]? with
  | some (some (.own _ o0)) => if ownT o0 = T then mbind (fs ρ) fun ds ρ1 => match ρ1[i]? with
    | some (some (.own b o)) => match m o ds with
      | some p => .ok (p.1, ρ1.set i (some (.own b p.2)))
      | none => .bad
    | _ => .bad
    else .bad
  | _ => .bad
section
variable {X : Cx} {W : WX} {K : Frg} {F H : Hp} {p : Addr} {o : O}
theorem RO.ty (h : RO K F H p o) {T : String} (e : ownT o = T) : tyV K T (.ref p) H := by
  cases o with
  | l ds =>
    obtain ⟨xs, h1, _⟩ := h
    exact .inl ⟨e.symm, xs, .inl (.of h1)⟩
  | d kvs =>
    obtain ⟨ks, xs, ds, h0, h1, h2, h3⟩ := h
    exact .inr (.inr (.inl ⟨e.symm, .inl ⟨_, h1⟩⟩))
  | t kvs =>
    obtain ⟨ks, xs, ds, h0, h1, h2, h3⟩ := h
    exact .inr (.inr (.inl ⟨e.symm, .inr ⟨_, h1⟩⟩))
end
section
variable {X : Cx} {W : WX} {x : Str} {e : Expr} {es : List Expr} {fs : Ev → Rs (List D × Ev)} {name : Str} {px apos cpos : Pos} {T id : String} {r : V → List V → Hp → VK → Prop} {m : O → List D → Option (D × O)}
theorem mth_core {Z : Fz} {F H : Hp} {ρ : Ev} {σ : Sl} {Q : VK} {i : Nat} (hd : MthD X.K r m) (S : SR X.K Z F ρ σ H) (u : M X (mD X.K) Z F σ Q (mthM T i m fs ρ)) :
    ∃ p, σ[i]? = some (some (.ref p)) ∧ tyV X.K T (.ref p) H ∧ M X (mA X.K) Z F σ (fun vs H2 => r (.ref p) vs H2 Q) (fs ρ) := by
  unfold mthM at u
  split at u
  · rename_i b0 o0 e0
    split at u
    · rename_i hT
      obtain ⟨p, h1, hf, hg, r0⟩ := S.own e0
      refine ⟨p, h1, r0.ty hT, M.bind u fun ds ρ1 vs F1 H1 x1 S1 r1 u1 => ?_⟩
      split at u1
      · rename_i b o e1
        obtain ⟨p', h1', hf', hg', r0'⟩ := S1.own e1
        rw [h1] at h1'
        cases h1'
        cases e2 : m o ds with
        | none => rw [e2] at u1; exact u1.elim
        | some q =>
          rw [e2] at u1
          exact hd F1 H1 p vs o ds q.1 q.2 Q S1.sf hf' r0' r1 e2 fun v w a1 a2 => u1 v F1 _ (Same.refl F1) (S1.chg e1 h1 a1) a2
      · exact u1.elim
    · exact u.elim
  · exact u.elim
theorem me_mth (i : Nat) (pa : PlainAttrs T) (slot : Slot T name id) (hty : typeOf (.builtin id) = pure (.type "method_descriptor")) (hm : MtR X id r) (hd : MthD X.K r m) (ha : MA X (e :: es) fs)
    (hN : X.N[i]? = some x := by rfl) (hv : Vis X.env.scope x := by first | exact Or.inl rfl | exact Or.inr (Or.inl rfl) | exact Or.inr (Or.inr rfl))
    (hdb : (x == ("__debug__" : Str)) = false := by decide) (hcd : (x == ("__classdict__" : Str)) = false := by decide)
    (hbase : attributeBase (.Name x px) name X.env (eval (.Name x px) X.env) = eval (.Name x px) X.env := by rfl)
    (hfew : ((backTo cpos (starEach (e :: es) X.env)).all (fun x => !x.1) && (backToKw cpos (keywordEach [] X.env)).all (fun x => x.1.isSome)
      && decide ((e :: es).length + ([] : List Keyword).length + (if ([] : List Keyword).isEmpty then 0 else 1) < 30)) = true := by rfl)
    (hline : (apos.endLine == cpos.line) = true := by rfl) (hs : starEach (e :: es) X.env = (false, eval e X.env) :: starEach es X.env := by rfl) (hplain : (backTo cpos (starEach es X.env)).any (·.1) = false := by rfl) :
    ME X (.Call (.Attribute (.Name x px) name apos) (e :: es) [] cpos) (mthM T i m fs) :=
  pe_imp (pe_bm pa slot hty hm (pe_var hN hv hdb hcd) ha hbase hfew hline hs hplain) fun σ H Q ⟨Z, F, ρ, S, u⟩ => by
    obtain ⟨p, h1, h2, h3⟩ := mth_core hd S u
    exact ⟨_, h1, h2, Z, F, ρ, S, h3⟩
theorem me_mth0 (i : Nat) (pa : PlainAttrs T) (slot : Slot T name id) (hty : typeOf (.builtin id) = pure (.type "method_descriptor")) (hm : MtR X id r) (hd : MthD X.K r m)
    (hN : X.N[i]? = some x := by rfl) (hv : Vis X.env.scope x := by first | exact Or.inl rfl | exact Or.inr (Or.inl rfl) | exact Or.inr (Or.inr rfl))
    (hdb : (x == ("__debug__" : Str)) = false := by decide) (hcd : (x == ("__classdict__" : Str)) = false := by decide)
    (hbase : attributeBase (.Name x px) name X.env (eval (.Name x px) X.env) = eval (.Name x px) X.env := by rfl) (hline : (apos.endLine == cpos.line) = true := by rfl) :
    ME X (.Call (.Attribute (.Name x px) name apos) [] [] cpos) (mthM T i m fun ρ => .ok ([], ρ)) :=
  pe_imp (pe_bm0 pa slot hty hm (pe_var hN hv hdb hcd) hbase hline) fun σ H Q ⟨Z, F, ρ, S, u⟩ => by
    obtain ⟨p, h1, h2, h3⟩ := mth_core hd S u
    exact ⟨_, h1, h2, h3 [] F H (Same.refl F) S .nil⟩
end

/-! ### lists: append, extend, pop, reverse, insert -/
section
variable {X : Cx} {K : Frg}
@[simp] def appendO : O → List D → Option (D × O)
  | .l xs, [d] => if xs.length < sizeLine then some (.none, .l (xs ++ [d])) else none
  | _, _ => none
theorem m_append : MthD K rAppend appendO := by
  intro F H p vs o ds d o' Q s hf r0 rs hm h
  cases o with
  | l xs =>
    obtain ⟨ys, h1, hz, h2⟩ := r0
    cases rs with
    | nil => cases hm
    | cons r rs =>
      cases rs with
      | nil =>
        simp only [appendO] at hm
        split at hm
        · rename_i hl
          cases hm
          refine ⟨p, ys, _, rfl, rfl, h1, by rw [h2.length]; exact hl, h _ _ ⟨_, upd_same, ?_, h2.append (.cons r .nil)⟩ .non⟩
          rw [List.length_append, List.length_singleton, h2.length]
          omega
        · cases hm
      | cons _ _ => cases hm
  | d _ => cases hm
  | t _ => cases hm
@[simp] def extendO : O → List D → Option (D × O)
  | .l xs, [.list zs] => if xs.length + zs.length ≤ sizeLine then some (.none, .l (xs ++ zs)) else none
  | _, _ => none
def rExtendR : V → List V → Hp → VK → Prop := fun x vs H Q => ∃ l b xs zs, x = .ref l ∧ vs = [.ref b] ∧ H l = some (.lst xs) ∧ Rd H b (.lst zs) ∧ xs.length + zs.length ≤ sizeLine ∧ Q .non (upd H l (.lst (xs ++ zs)))
theorem mt_extendR : MtR X "list.extend" rExtendR := by
  intro pins s σ H x vs v us Q I rx rv h
  obtain ⟨l, b, xs, zs, rfl, rfl, hH, hB, hz, q⟩ := h
  cases rx
  obtain ⟨u, rfl, ru⟩ := rv.one
  cases ru
  obtain ⟨z, its, n, r, hl, e⟩ := I.lstM hH
  obtain ⟨z2, its2, n2, r2, e2⟩ := rd_of I.hok hB
  have hl2 := r2.length
  have hsz : its.toArray.size + its2.toArray.size ≤ sizeLine := by rw [List.size_toArray, List.size_toArray]; omega
  have hno : ¬ (!its.toArray.isEmpty && Builtin.List.listTooLong (its.toArray.size + its2.toArray.size)) = true := by
    rw [notLongL hsz, Bool.and_false]
    exact fun w => by cases w
  refine call_meets F.slot_list_extend ⟨_, e, rfl⟩ F.entry_list_extend (F.args_list_extend_2 _ _) (AutoSeq1.list_extend_list_list_0 l its.toArray n b its2.toArray n2 hno (by rw [List.size_toArray]; omega) (by omega)) ⟨e, e2, ?_⟩
  exact ⟨.non, _, I.lset (its' := its ++ its2) hH e (by simp) (r.append r2) (by rw [List.length_append]; omega), rfl, q⟩
theorem m_extend : MthD K rExtendR extendO := by
  intro F H p vs o ds d o' Q s hf r0 rs hm h
  cases o with
  | l xs =>
    obtain ⟨ys, h1, hz, h2⟩ := r0
    cases rs with
    | nil => cases hm
    | cons r rs =>
      cases rs with
      | nil =>
        cases r with
        | lst t hz2 q =>
          simp only [extendO] at hm
          split at hm
          · rename_i hl
            cases hm
            refine ⟨p, _, ys, _, rfl, rfl, h1, rd_mono s t, by rw [h2.length, q.length]; exact hl, h _ _ ⟨_, upd_same, ?_, h2.append q⟩ .non⟩
            rw [List.length_append, h2.length, q.length]
            exact hl
          · cases hm
        | _ => cases hm
      | cons _ _ => cases r <;> cases hm
  | d _ => cases hm
  | t _ => cases hm
@[simp] def popO : O → List D → Option (D × O)
  | .l xs, [] => match xs.getLast? with
    | some d => some (d, .l xs.dropLast)
    | none => none
  | _, _ => none
theorem RDs.dropLast {F : Hp} {vs : List V} {ds : List D} (h : RDs K F vs ds) : RDs K F vs.dropLast ds.dropLast := by
  rw [List.dropLast_eq_take, List.dropLast_eq_take, h.length]
  exact RDs.take 0 _ h
theorem m_pop : MthD K rPop popO := by
  intro F H p vs o ds d o' Q s hf r0 rs hm h
  cases o with
  | l xs =>
    obtain ⟨ys, h1, hz, h2⟩ := r0
    cases rs with
    | nil =>
      simp only [popO] at hm
      split at hm
      · rename_i y hy
        cases hm
        rw [List.getLast?_eq_getElem?] at hy
        obtain ⟨v, hv, rv⟩ := h2.get hy
        refine ⟨p, ys, v, rfl, rfl, h1, by rw [h2.length]; exact hv, h _ _ ⟨_, upd_same, ?_, h2.dropLast⟩ rv⟩
        rw [List.length_dropLast]
        omega
      · cases hm
    | cons _ _ => cases hm
  | d _ => cases hm
  | t _ => cases hm
@[simp] def reverseO : O → List D → Option (D × O)
  | .l xs, [] => some (.none, .l xs.reverse)
  | _, _ => none
theorem m_reverse : MthD K rReverse reverseO := by
  intro F H p vs o ds d o' Q s hf r0 rs hm h
  cases o with
  | l xs =>
    obtain ⟨ys, h1, hz, h2⟩ := r0
    cases rs with
    | nil =>
      cases hm
      exact ⟨p, ys, rfl, rfl, h1, h _ _ ⟨_, upd_same, by rw [List.length_reverse]; exact hz, h2.reverse⟩ .non⟩
    | cons _ _ => cases hm
  | d _ => cases hm
  | t _ => cases hm
end
section
variable {X : Cx} {W : WX} {x : Str} {e : Expr} {fs : Ev → Rs (List D × Ev)} {px apos cpos : Pos}
theorem me_append (i : Nat) (ha : MA X [e] fs)
    (hN : X.N[i]? = some x := by rfl) (hv : Vis X.env.scope x := by first | exact Or.inl rfl | exact Or.inr (Or.inl rfl) | exact Or.inr (Or.inr rfl))
    (hdb : (x == ("__debug__" : Str)) = false := by decide) (hcd : (x == ("__classdict__" : Str)) = false := by decide)
    (hbase : attributeBase (.Name x px) "append" X.env (eval (.Name x px) X.env) = eval (.Name x px) X.env := by rfl)
    (hfew : ((backTo cpos (starEach [e] X.env)).all (fun x => !x.1) && (backToKw cpos (keywordEach [] X.env)).all (fun x => x.1.isSome)
      && decide ([e].length + ([] : List Keyword).length + (if ([] : List Keyword).isEmpty then 0 else 1) < 30)) = true := by rfl)
    (hline : (apos.endLine == cpos.line) = true := by rfl) (hs : starEach [e] X.env = (false, eval e X.env) :: starEach [] X.env := by rfl) (hplain : (backTo cpos (starEach [] X.env)).any (·.1) = false := by rfl) :
    ME X (.Call (.Attribute (.Name x px) "append" apos) [e] [] cpos) (mthM "list" i appendO fs) := me_mth i F.plainAttrs_list F.slot_list_append F.type_list_append mt_append m_append ha hN hv hdb hcd hbase hfew hline hs hplain
theorem me_extend (i : Nat) (ha : MA X [e] fs)
    (hN : X.N[i]? = some x := by rfl) (hv : Vis X.env.scope x := by first | exact Or.inl rfl | exact Or.inr (Or.inl rfl) | exact Or.inr (Or.inr rfl))
    (hdb : (x == ("__debug__" : Str)) = false := by decide) (hcd : (x == ("__classdict__" : Str)) = false := by decide)
    (hbase : attributeBase (.Name x px) "extend" X.env (eval (.Name x px) X.env) = eval (.Name x px) X.env := by rfl)
    (hfew : ((backTo cpos (starEach [e] X.env)).all (fun x => !x.1) && (backToKw cpos (keywordEach [] X.env)).all (fun x => x.1.isSome)
      && decide ([e].length + ([] : List Keyword).length + (if ([] : List Keyword).isEmpty then 0 else 1) < 30)) = true := by rfl)
    (hline : (apos.endLine == cpos.line) = true := by rfl) (hs : starEach [e] X.env = (false, eval e X.env) :: starEach [] X.env := by rfl) (hplain : (backTo cpos (starEach [] X.env)).any (·.1) = false := by rfl) :
    ME X (.Call (.Attribute (.Name x px) "extend" apos) [e] [] cpos) (mthM "list" i extendO fs) := me_mth i F.plainAttrs_list F.slot_list_extend F.type_list_extend mt_extendR m_extend ha hN hv hdb hcd hbase hfew hline hs hplain
theorem me_pop (i : Nat)
    (hN : X.N[i]? = some x := by rfl) (hv : Vis X.env.scope x := by first | exact Or.inl rfl | exact Or.inr (Or.inl rfl) | exact Or.inr (Or.inr rfl))
    (hdb : (x == ("__debug__" : Str)) = false := by decide) (hcd : (x == ("__classdict__" : Str)) = false := by decide)
    (hbase : attributeBase (.Name x px) "pop" X.env (eval (.Name x px) X.env) = eval (.Name x px) X.env := by rfl) (hline : (apos.endLine == cpos.line) = true := by rfl) :
    ME X (.Call (.Attribute (.Name x px) "pop" apos) [] [] cpos) (mthM "list" i popO fun ρ => .ok ([], ρ)) := me_mth0 i F.plainAttrs_list F.slot_list_pop F.type_list_pop mt_pop m_pop hN hv hdb hcd hbase hline
theorem me_reverse (i : Nat)
    (hN : X.N[i]? = some x := by rfl) (hv : Vis X.env.scope x := by first | exact Or.inl rfl | exact Or.inr (Or.inl rfl) | exact Or.inr (Or.inr rfl))
    (hdb : (x == ("__debug__" : Str)) = false := by decide) (hcd : (x == ("__classdict__" : Str)) = false := by decide)
    (hbase : attributeBase (.Name x px) "reverse" X.env (eval (.Name x px) X.env) = eval (.Name x px) X.env := by rfl) (hline : (apos.endLine == cpos.line) = true := by rfl) :
    ME X (.Call (.Attribute (.Name x px) "reverse" apos) [] [] cpos) (mthM "list" i reverseO fun ρ => .ok ([], ρ)) := me_mth0 i F.plainAttrs_list F.slot_list_reverse F.type_list_reverse mt_reverse m_reverse hN hv hdb hcd hbase hline
end

/-! ### a name is lent: its own object is data while a pure expression runs -/
@[simp] def brwG {α : Type} (i : Nat) (chk : α → Bool) (g : Ev → Rs α) (ρ : Ev) : Rs α := match ρ[i]? with
  | some (some (.own _ o)) => match g (ρ.set i (some (.dat o.dat))) with
    | .ok a => if chk a = true then .ok a else .bad
    | _ => .bad
  | some (some (.dat _)) => g ρ
  | _ => .bad
section
variable {α β : Type} {X : Cx} {W : WX} {i : Nat}
theorem cut_ext {F H F' H' : Hp} {p : Addr} {u : HO} (hf : F p = none) (hu : H p = some u) (x : Ext (upd F p u) H F' H') : Ext F H (cutP F' p) H' :=
  ⟨fun b o e => by
    have ne : b ≠ p := fun z => by rw [z, hf] at e; cases e
    rw [cutP_ne ne]
    exact x.ff b o (by rw [upd_ne ne]; exact e), fun b o e => by
    by_cases hb : b = p
    · rw [hb, cutP_self] at e; cases e
    · rw [cutP_ne hb] at e; exact x.fh b o e, x.hh, fun q e n => by
    by_cases hb : q = p
    · rw [hb]; exact cutP_self
    · rw [cutP_ne hb]
      exact x.nw q (by rw [upd_ne hb]; exact e) n⟩
theorem brw_of {R : Hp → Hp → Hp → β → α → Prop} {g : Ev → Rs α} {chk : α → Bool}
    (hR : ∀ (H F' H' : Hp) (p : Addr) (u : HO) b a, (∀ ys, ¬ Rd F' p (.tup ys)) → H p = some u → chk a = true → R H F' H' b a → R H (cutP F' p) H' b a) (σ : Sl) (H : Hp) (Q : β → Hp → Prop) (h : tU X W R (brwG i chk g) σ H Q) : tU X W R g σ H Q := by
  obtain ⟨Z, F, ρ, S, u⟩ := h
  unfold brwG at u
  split at u
  · rename_i b o e
    obtain ⟨p, h1, hf, hg, r⟩ := S.own e
    obtain ⟨ho, hu, ht⟩ := r.ex
    have hil : i < σ.length := (List.getElem?_eq_some_iff.mp h1).1
    have es : σ.set i (some (V.ref p)) = σ := by
      apply List.ext_getElem?
      intro j
      by_cases hj : i = j
      · subst hj
        rw [List.getElem?_set_self hil, h1]
      · rw [List.getElem?_set_ne hj]
    have S0 : SR X.K ⟨Z.G, none⟩ F (ρ.set i none) σ H := by
      refine ⟨S.sf, S.sg, S.dj, by simpa using S.len, fun j q hj => ?_, fun j k b b' o1 o2 p ne h1 h2 => ?_, fun p q => by cases q⟩
      · rcases getSet hj with ⟨_, z, _⟩ | ⟨ne, hj⟩
        · cases z
        · exact S.sl j q hj
      · rcases getSet h1 with ⟨_, z, _⟩ | ⟨ne1, h1⟩
        · cases z
        rcases getSet h2 with ⟨_, z, _⟩ | ⟨ne2, h2⟩
        · cases z
        exact S.ap j k b b' o1 o2 p ne h1 h2
    have S1 := S0.frzNew hf hg hu fun j b1 o' hj hs' => by
      rcases getSet hj with ⟨_, z, _⟩ | ⟨ne, hj⟩
      · cases z
      · exact S.ap j i b1 b o' o p ne hj e hs' h1
    have S2 := S1.setDat (i := i) (r.rd hu hf) fun ⟨o', q⟩ => by
      rcases getSet q with ⟨_, z, _⟩ | ⟨ne, _⟩
      · cases z
      · exact ne rfl
    rw [List.set_set, es] at S2
    refine ⟨_, _, _, S2, ?_⟩
    cases eg : g (ρ.set i (some (.dat o.dat))) with
    | ok a =>
      rw [eg] at u
      simp only at u
      split at u
      · rename_i hc
        intro b1 F' H' x q
        refine u b1 (cutP F' p) H' (cut_ext hf hu x) (hR H F' H' p ho b1 a (fun ys hy => ?_) hu hc q)
        have e1 : F' p = some ho := x.ff p ho upd_same
        rcases hy with hy | ⟨ob, hy⟩
        · rw [e1] at hy
          exact (ht ys).1 (Option.some.inj hy)
        · rw [e1] at hy
          exact (ht ys).2 ob (Option.some.inj hy)
      · exact u.elim
    | xc n as => rw [eg] at u; exact u.elim
    | bad => rw [eg] at u; exact u.elim
  · exact ⟨Z, F, ρ, S, u⟩
  · exact u.elim
theorem RDs.cutS {K : Frg} {F : Hp} {p : Addr} (hp : ∀ ys, ¬ Rd F p (.tup ys)) : ∀ {vs : List V} {ds : List D}, RDs K F vs ds → imms ds = true → RDs K (cutP F p) vs ds
  | _, _, .nil, _ => .nil
  | _, _, .cons r rs, q => by
    simp only [imms, Bool.and_eq_true] at q
    exact .cons (r.cut hp q.1) (RDs.cutS hp rs q.2)
def immO : O → Bool
  | .l ds => imms ds
  | _ => false
theorem pu_brw (i : Nat) {e : Expr} {g : Ev → Rs D} (h : PU X W e g) : PU X W e (brwG i imm g) := pe_imp h (brw_of fun H F' H' p u b a hp hu hc r => RD.cut hp r hc)
theorem put_brw (i : Nat) {e : Expr} {g : Ev → Rs Bool} (h : PUT X W e g) : PUT X W e (brwG i (fun _ => true) g) := pt_imp h (brw_of fun H F' H' p u b a hp hu hc r => r)
theorem puw_brw (i : Nat) {e : Expr} {g : Ev → Rs Bool} (h : PUW X W e g) : PUW X W e (brwG i (fun _ => true) g) := pw_imp h (brw_of fun H F' H' p u b a hp hu hc r => r)
theorem pua_brw (i : Nat) {e : List Expr} {g : Ev → Rs (List D)} (h : PUA X W e g) : PUA X W e (brwG i imms g) := pa_imp h (brw_of fun H F' H' p u b a hp hu hc r => RDs.cutS hp r hc)
theorem po_brw (i : Nat) {e : Expr} {g : Ev → Rs O} (h : PO X W e g) : PO X W e (brwG i immO g) := pe_imp h (brw_of fun H F' H' p u b a hp hu hc r => by
  obtain ⟨q, rfl, n, n', r⟩ := r
  have ne : q ≠ p := fun z => by rw [z, hu] at n; cases n
  refine ⟨q, rfl, n, by rw [cutP_ne ne]; exact n', ?_⟩
  cases a with
  | l ds =>
    obtain ⟨xs, h1, hz, h2⟩ := r
    exact ⟨xs, h1, hz, RDs.cutS hp h2 hc⟩
  | d _ => cases hc
  | t _ => cases hc)
end

/-! ### a, b = x, y -/
@[simp] def parS (i j : Nat) (ds : List D) (ρ : Ev) : Out := match ds with
  | [c, d] => optO (setE i (some (.dat c)) ρ) fun ρ1 => optO (setE j (some (.dat d)) ρ1) .nx
  | _ => .bad
section
variable {X : Cx} {W : WX} {i j : Nat} {x y : Str} {a b : Expr} {px py pt pos : Pos} {kt k2 pt2} {fs : Ev → Rs (List D × Ev)}
theorem s_par (hc : X.calm = true) (hN : X.N.Nodup) (i j : Nat) (ha : MA X [a, b] fs) (hi : X.N[i]? = some x := by rfl) (hj : X.N[j]? = some y := by rfl) (hij : i ≠ j := by decide)
    (hx : X.env.scope.names.lookup x = some .local := by rfl) (hy : X.env.scope.names.lookup y = some .local := by rfl)
    (hw : swappedStores [.Tuple [.Name x px, .Name y py] kt pt] (.Tuple [a, b] k2 pt2) X.env = pure (some [x, y]) := by rfl)
    (hs : swapsWithSole [.Tuple [.Name x px, .Name y py] kt pt] (.Tuple [a, b] k2 pt2) pos.line X.env = pure false := by rfl) :
    SU X W (.Assign [.Tuple [.Name x px, .Name y py] kt pt] (.Tuple [a, b] k2 pt2) pos) (outM fs (parS i j)) := ps_imp (ps_par hc hN hi hj hij hx hy ha hw hs) fun T σ H ⟨Z, F, ρ, S, h⟩ =>
  ⟨Z, F, ρ, S, outM_M h fun ds ρ' vs F' H' x' S' r h' => by
    unfold parS at h'
    split at h'
    · rename_i c d
      cases r with
      | cons r1 r =>
        cases r with
        | cons r2 r =>
          cases r
          obtain ⟨ρ1, e1, h1⟩ := optO_some h'
          obtain ⟨ρ2, e2, h2⟩ := optO_some h1
          obtain ⟨rfl, np, hl⟩ := setE_ok e1
          obtain ⟨rfl, np2, hl2⟩ := setE_ok e2
          exact ⟨_, _, rfl, h2 F' _ H' (Same.refl _) ((S'.setDat r1 np).setDat r2 np2)⟩
    · exact h'.elim⟩
end
end DL
/-! DLl: defs of the text: their promises by pure functions, their calls. -/
namespace DL
open PySem PySem.Spec PyProof.Rows L2

/-! ### a def's promise, where no guard stands -/
structure FnG (P : Program) (w : World) (K : Frg) (mg : Str → Option Value) (base : Heap) (k : Nat) (f : Addr) (fd : FuncData) (ps : List Str) (sp : Sp) : Prop where
  ln : ∀ vs H Q E, sp vs H Q E → vs.length = ps.length
  go : ∀ (A : Around) (outer : List Env) (s : Shared) (H : Hp) (args : Args) (us : List Value) (vs : List V) (Q : VK) (E : XK), A.guards = some [] → Room k A → Env0 P w K mg base A outer s H → BindsTo s fd args (ps.zip us) → Vals vs us → sp vs H Q E →
    codeAny (model P w) A (.call (.ref f) args) (CR CX0 outer P w H s Q E) s
/-- a def of the text as it lies behind the top; dV: its defaults -/
structure FunG (K : Frg) (x : Str) (st : Stmt) (dV : Value) (f : Addr) (fd : FuncData) : Prop where
  ex : ∃ (oc : Value) (od : Option Addr) (kV doc pm : Value) (an : Option Addr) (cdv ct : Value) (osl : Array (Option Value)),
    fd = PySem.W.fnOf x x (defArgs st) (defBody st) (defScope st) dV kV doc pm an cdv ct ∧ K.lookup f = some ⟨oc, od, .func fd, osl⟩ ∧ PySem.W.codeIn K cdv x = true
/-- the context of a def's body; what may be used of it -/
abbrev bodyX (P : Program) (w : World) (K : Frg) (mg : Str → Option Value) (base : Heap) (N : List Str) (x : Str) (st : Stmt) (f : Addr) (cdv : Value) (A : Around) (outer : List Env) (s : Shared) (H : Hp) (E : XK) : Cx :=
  (cxOf CX0 P w K mg base N x (defScope st) f cdv A outer s H E).nox
section
variable {P : Program} {w : World} {K : Frg} {mg : Str → Option Value} {base : Heap} {k : Nat} {x : Str} {st : Stmt} {dV : Value} {f : Addr} {fd : FuncData} {N ps : List Str} {sp : Sp}
theorem fnG_of (F : FunG K x st dV f fd) (S : FnScope N ps (defScope st)) (hln : ∀ vs H Q E, sp vs H Q E → vs.length = ps.length)
    (hbody : ∀ (cdv : Value) (A : Around) (outer : List Env) (s : Shared) (H : Hp) (vs : List V) (Q : VK) (E : XK), A.guards = some [] → Room k (bodyX P w K mg base N x st f cdv A outer s H E).A → sp vs H Q E →
      ∃ t, PSs (bodyX P w K mg base N x st f cdv A outer s H E) (defBody st) t ∧ t { nx := fun _ H' => Q .non H', rt := Q } (L2.start N vs) H) : FnG P w K mg base (k + 1) f fd ps sp := by
  obtain ⟨oc, od, kV, doc, pm, an, cdv, ct, osl, rfl, lk, hcd⟩ := F.ex
  refine ⟨hln, fun A outer s H args us vs Q E hg hr e0 hb r hsp => ?_⟩
  have KX : K.In s.heap := e0.mod.kin.keeps fun b o e => (e0.bs b o e).1
  refine codeAny_call_function hr.depth (KX _ _ lk) rfl S.co S.gen rfl (PySem.W.codeRec_of KX hcd) (hb _ _ _ _ ?_)
  refine wpAny_newFunctionEnv_cells S.kind (fun ⟨n, v⟩ hy => ?_) fun env he s1 y => ?_
  · rcases S.par n (List.of_mem_zip hy).1 with q | q
    · exact .inl q
    · exact .inr ⟨q, PySem.W.cellsFrom_some _ _ _ (.inl q)⟩
  subst he
  refine ⟨(e0.mod.nolimit.keeps fun b o e => (e0.bs b o e).1).keeps y.toInCall.keep, codeAny_func ?_⟩
  obtain ⟨t, ht, hq⟩ := hbody cdv A outer s H vs Q E hg (hr.deeper _) hsp
  have I : Inv (cxOf CX0 P w K mg base N x (defScope st) f cdv A outer s H E) [] (L2.start N vs) H s1 := inv_start S hr.hd e0 (hln _ _ _ _ hsp) r y
  refine wpAny_mono (ht.nox.run [] s1 (L2.start N vs) H _ I hq) (fun fl s' hs => ?_) fun e s' hs => hs
  cases fl with
  | ret u =>
    obtain ⟨v, σ', H', J, rv, q⟩ := hs
    exact ⟨v, H', J.os, J.bare, J.base, J.hok, rv, q⟩
  | next =>
    obtain ⟨σ', H', J, q⟩ := hs
    exact ⟨V.non, H', J.os, J.bare, J.base, J.hok, rfl, q⟩
  | brk =>
    obtain ⟨_, _, _, q⟩ := hs
    exact q.elim
  | cont =>
    obtain ⟨_, _, _, q⟩ := hs
    exact q.elim
theorem FnG.mono {j : Nat} (F : FnG P w K mg base j f fd ps sp) (h : j ≤ k) : FnG P w K mg base k f fd ps sp := ⟨F.ln, fun A outer s H args us vs Q E hg hr => F.go A outer s H args us vs Q E hg (hr.mono h)⟩
end
/-- a def that may be called by its name -/
def CalG (P : Program) (w : World) (K : Frg) (mg : Str → Option Value) (base : Heap) (k : Nat) (x : Str) (sp : Sp) (dvs : List V) : Prop :=
  ∃ (f : Addr) (fd : FuncData) (ps : List Str) (ds : List Value), FnG P w K mg base k f fd ps sp ∧ mg x = some (.ref f) ∧ PySem.W.keepIn K (.ref f) = true ∧ Binds K fd ps ds ∧ Vals dvs ds
section
variable {X : Cx} {j k : Nat} {x : Str} {sp : Sp} {dvs : List V} {p pos : Pos} {e : Expr} {es : List Expr} {t : TA}
theorem pe_cg (c : CalG X.prog X.w X.K X.mg X.base k x sp dvs) (hr : Room j X.A) (hgd : X.A.guards = some []) (ha : PA X (e :: es) t) (hk : k ≤ j := by decide) (hg : Gl X x := by rfl)
    (hdb : (x == ("__debug__" : Str)) = false := by decide) (he : starEach (e :: es) X.env = (false, eval e X.env) :: starEach es X.env := by rfl) (hpl : (backTo pos (starEach es X.env)).any (·.1) = false := by rfl) :
    PE X (.Call (.Name x p) (e :: es) [] pos) (tCall sp dvs E0 t) := by
  obtain ⟨f, fd, ps, ds, F, hm, hkp, hb, hd⟩ := c
  refine ⟨fun pins s σ H Q I h => wpAny_Call_Name_kw (ld_glob I hg hm ?_ hdb)⟩
  refine PySem.W.callWith_K (h₀ := X.base) I.ok.mod.kin hkp (thn (ha.run pos pins s σ H _ I h) fun us s1 ⟨vs, H1, I1, r, q⟩ => ⟨I1.kIn, ?_⟩) he hpl
  have r2 : Vals (vs ++ dvs) (us ++ ds) := r.append hd
  have hl : (us ++ ds).length = ps.length := by rw [← r2.length]; exact F.ln _ _ _ _ q
  refine wpAny_call (codeAny_mono (F.go X.A X.stack s1 H1 ⟨us, []⟩ (us ++ ds) (vs ++ dvs) Q E0 hgd (hr.mono hk) I1.env0 (hb s1 us I1.kIn hl) r2 q) fun rr s' hq => ?_)
  cases rr with
  | error e => exact False.elim hq
  | ok fl =>
    cases fl with
    | ret u => exact I1.after hq
    | next => exact False.elim hq
    | brk => exact False.elim hq
    | cont => exact False.elim hq
end

/-! ### promises by pure functions -/
def Rs.get {α : Type} (r : Rs α) (P : α → Prop) : Prop := match r with
  | .ok a => P a
  | _ => False
/-- of data, data -/
def spD (K : Frg) (n : Nat) (f : List D → Rs D) : Sp := fun vs H Q _ => ∃ F ds, vs.length = n ∧ Same F H ∧ RDs K F vs ds ∧ (f ds).get fun d => ∀ v F' H', Ext F H F' H' → RD K F' v d → Q v H'
/-- of data, a new own object -/
def spO (K : Frg) (n : Nat) (f : List D → Rs O) : Sp := fun vs H Q _ => ∃ F ds, vs.length = n ∧ Same F H ∧ RDs K F vs ds ∧ (f ds).get fun o => ∀ p F' H', Ext F H F' H' → H p = none → F' p = none → RO K F' H' p o → Q (.ref p) H'
/-- the first argument's own object is changed -/
structure Xt (p : Addr) (F H F' H' : Hp) : Prop where
  ff : Same F F'
  fh : Same F' H'
  fp : F' p = none
  ot : ∀ q, q ≠ p → F q = none → H q ≠ none → F' q = none ∧ H' q = H q
def spMD (K : Frg) (n : Nat) (f : O → List D → Rs (D × O)) : Sp := fun vs H Q _ => ∃ F p ws ds o, vs = .ref p :: ws ∧ vs.length = n ∧ Same F H ∧ F p = none ∧ RO K F H p o ∧ RDs K F ws ds ∧
  (f o ds).get fun r => ∀ v F' H', Xt p F H F' H' → RO K F' H' p r.2 → RD K F' v r.1 → Q v H'
def spMO (K : Frg) (n : Nat) (f : O → List D → Rs (O × O)) : Sp := fun vs H Q _ => ∃ F p ws ds o, vs = .ref p :: ws ∧ vs.length = n ∧ Same F H ∧ F p = none ∧ RO K F H p o ∧ RDs K F ws ds ∧
  (f o ds).get fun r => ∀ q F' H', Xt p F H F' H' → RO K F' H' p r.2 → q ≠ p → H q = none → F' q = none → RO K F' H' q r.1 → Q (.ref q) H'

/-! ### the environment at a def's entry -/
def startE (n : Nat) (ds : List D) : Ev := ds.map (fun d => some (.dat d)) ++ List.replicate (n - ds.length) none
def startI (n : Nat) (o : O) (ds : List D) : Ev := some (.own true o) :: startE (n - 1) ds
/-- what others have -/
def rest (F H : Hp) : Hp := fun q => match F q with
  | none => H q
  | some _ => none
theorem rest_none {F H : Hp} {q : Addr} (h : F q = none) : rest F H q = H q := by unfold rest; rw [h]
theorem rest_some {F H : Hp} {q : Addr} {u : HO} (h : rest F H q = some u) : F q = none ∧ H q = some u := by
  unfold rest at h
  split at h
  · rename_i e
    exact ⟨e, h⟩
  · cases h
section
variable {K : Frg} {F H F' H' : Hp} {vs : List V} {ds : List D} {n : Nat}
theorem start_len (N : List Str) (hn : vs.length ≤ N.length) : (L2.start N vs).length = N.length := by
  unfold L2.start
  rw [List.length_append, List.length_map, List.length_replicate]
  omega
theorem startE_len (hn : ds.length ≤ n) : (startE n ds).length = n := by
  unfold startE
  rw [List.length_append, List.length_map, List.length_replicate]
  omega
theorem startE_get {i : Nat} {e : E} (h : (startE n ds)[i]? = some (some e)) : ∃ d, ds[i]? = some d ∧ e = .dat d := by
  unfold startE at h
  by_cases hi : i < ds.length
  · rw [List.getElem?_append_left (by simpa using hi), List.getElem?_map] at h
    cases q : ds[i]? with
    | none => rw [q] at h; cases h
    | some d => rw [q] at h; cases h; exact ⟨d, rfl, rfl⟩
  · rw [List.getElem?_append_right (by simp; omega), List.getElem?_replicate] at h
    split at h <;> cases h
theorem start_get {N : List Str} {i : Nat} {v : V} (h : vs[i]? = some v) : (L2.start N vs)[i]? = some (some v) := by
  unfold L2.start
  have hi : i < vs.length := (List.getElem?_eq_some_iff.mp h).1
  rw [List.getElem?_append_left (by simpa using hi), List.getElem?_map, h]
  rfl
theorem SR.begin {N : List Str} (s : Same F H) (r : RDs K F vs ds) (hn : vs.length ≤ N.length) : SR K ⟨rest F H, none⟩ F (startE N.length ds) (L2.start N vs) H := by
  refine ⟨s, fun q u e => (rest_some e).2, fun q u e => (rest_some e).1, ?_, fun i e h => ?_, fun i j b b' o o' p ne h1 => ?_, fun p e => by cases e⟩
  · rw [start_len N hn, startE_len (by rw [← r.length]; exact hn)]
  · obtain ⟨d, h1, rfl⟩ := startE_get h
    obtain ⟨v, h2, r2⟩ := r.get h1
    exact ⟨v, start_get h2, r2⟩
  · obtain ⟨d, _, z⟩ := startE_get h1
    cases z
theorem SR.back {ρ : Ev} {σ : Sl} (s : Same F H) (x : Same F F') (S : SR K ⟨rest F H, none⟩ F' ρ σ H') : Ext F H F' H' := by
  refine ⟨x, S.sf, fun q u e => ?_, fun q e n => ?_⟩
  · cases h : F q with
    | none => exact S.sg q u (by show rest F H q = some u; rw [rest_none h, e])
    | some u' =>
      have e1 := s q u' h
      rw [e] at e1
      rw [e1]
      exact S.sf q u' (x q u' h)
  · cases h : H q with
    | none => exact absurd h n
    | some u => exact S.dj q u (by show rest F H q = some u; rw [rest_none e, h])
/-- the same with the first parameter's own object -/
def restP (p : Addr) (F H : Hp) : Hp := fun q => if q = p then none else rest F H q
theorem restP_some {p q : Addr} {u : HO} (h : restP p F H q = some u) : q ≠ p ∧ F q = none ∧ H q = some u := by
  unfold restP at h
  split at h
  · cases h
  · rename_i e
    exact ⟨e, rest_some h⟩
theorem restP_ne {p q : Addr} (h : q ≠ p) (e : F q = none) : restP p F H q = H q := by
  unfold restP
  rw [if_neg h, rest_none e]
theorem SR.beginP {N : List Str} {p : Addr} {o : O} (s : Same F H) (hp : F p = none) (ro : RO K F H p o) (r : RDs K F vs ds) (hn : vs.length + 1 ≤ N.length) :
    SR K ⟨restP p F H, some p⟩ F (startI N.length o ds) (L2.start N (.ref p :: vs)) H := by
  have hl : ds.length ≤ N.length - 1 := by rw [← r.length]; omega
  refine ⟨s, fun q u e => (restP_some e).2.2, fun q u e => (restP_some e).2.1, ?_, fun i e h => ?_, fun i j b b' o1 o2 q ne h1 h2 => ?_, fun q e => ?_⟩
  · rw [start_len N (by rw [List.length_cons]; exact hn)]
    show _ = (startE (N.length - 1) ds).length + 1
    rw [startE_len hl]
    omega
  · cases i with
    | zero =>
      cases h
      refine ⟨_, start_get (i := 0) rfl, p, rfl, hp, ?_, ro⟩
      show restP p F H p = none
      unfold restP
      rw [if_pos rfl]
    | succ i =>
      obtain ⟨d, h1, rfl⟩ := startE_get (show (startE (N.length - 1) ds)[i]? = some (some e) from h)
      obtain ⟨v, h2, r2⟩ := r.get h1
      exact ⟨v, start_get (i := i + 1) h2, r2⟩
  · cases i with
    | zero =>
      cases j with
      | zero => exact absurd rfl ne
      | succ j =>
        obtain ⟨d, _, z⟩ := startE_get (show (startE (N.length - 1) ds)[j]? = some (some (E.own b' o2)) from h2)
        cases z
    | succ i =>
      obtain ⟨d, _, z⟩ := startE_get (show (startE (N.length - 1) ds)[i]? = some (some (E.own b o1)) from h1)
      cases z
  · cases e
    exact ⟨start_get (i := 0) rfl, o, rfl⟩
theorem SR.backP {ρ : Ev} {σ : Sl} {p : Addr} (x : Same F F') (S : SR K ⟨restP p F H, some p⟩ F' ρ σ H') : ∃ o, ρ[0]? = some (some (.own true o)) ∧ RO K F' H' p o ∧ Xt p F H F' H' := by
  obtain ⟨h1, o, h2⟩ := S.pin p rfl
  obtain ⟨q, h3, hf, hg, r⟩ := S.own h2
  rw [h1] at h3
  cases h3
  refine ⟨o, h2, r, x, S.sf, hf, fun q ne e n => ?_⟩
  cases h : H q with
  | none => exact absurd h n
  | some u =>
    have g : restP p F H q = some u := by rw [restP_ne ne e, h]
    exact ⟨S.dj q u g, S.sg q u g⟩
end
/-- the pure functions of a body -/
@[simp] def fnD (n : Nat) (b : Ev → Out) (ds : List D) : Rs D := match b (startE n ds) with
  | .nx _ => .ok .none
  | .rt d _ => .ok d
  | _ => .bad
@[simp] def fnO (n : Nat) (b : Ev → Out) (ds : List D) : Rs O := match b (startE n ds) with
  | .ro o _ => .ok o
  | _ => .bad
@[simp] def fst0 (ρ : Ev) : Option O := match ρ[(0 : Nat)]? with
  | some (some (.own true o)) => some o
  | _ => none
@[simp] def fnMD (n : Nat) (b : Ev → Out) (o : O) (ds : List D) : Rs (D × O) := match b (startI n o ds) with
  | .nx ρ => match fst0 ρ with
    | some o' => .ok (.none, o')
    | none => .bad
  | .rt d ρ => match fst0 ρ with
    | some o' => .ok (d, o')
    | none => .bad
  | _ => .bad
@[simp] def fnMO (n : Nat) (b : Ev → Out) (o : O) (ds : List D) : Rs (O × O) := match b (startI n o ds) with
  | .ro d ρ => match fst0 ρ with
    | some o' => .ok (d, o')
    | none => .bad
  | _ => .bad
section
variable {P : Program} {w : World} {K : Frg} {mg : Str → Option Value} {base : Heap} {k m : Nat} {x : Str} {st : Stmt} {dV : Value} {f : Addr} {fd : FuncData} {N ps : List Str} {W : WX} {b : Ev → Out}
theorem ps_le (S : FnScope N ps (defScope st)) : ps.length ≤ N.length := by
  have h := congrArg List.length S.pre
  rw [List.length_take] at h
  omega
/-- what is asked of a body -/
def Body (P : Program) (w : World) (K : Frg) (mg : Str → Option Value) (base : Heap) (k : Nat) (N : List Str) (x : Str) (st : Stmt) (W : WX) (b : Ev → Out) : Prop :=
  ∀ (f : Addr) (cdv : Value) (A : Around) (outer : List Env) (s : Shared) (H : Hp) (E : XK), (bodyX P w K mg base N x st f cdv A outer s H E).A.guards = some [] → Room k (bodyX P w K mg base N x st f cdv A outer s H E).A →
    SUs (bodyX P w K mg base N x st f cdv A outer s H E) W (defBody st) b
theorem fn_D (F : FunG K x st dV f fd) (S : FnScope N ps (defScope st)) (hb : Body P w K mg base k N x st W b) (hm : ps.length = m) (hN : N.length = n) : FnG P w K mg base (k + 1) f fd ps (spD K m (fnD n b)) := by
  subst hN
  refine fnG_of F S (fun vs H Q E ⟨F, ds, h, _⟩ => h.trans hm.symm) fun cdv A outer s H vs Q E hg hr ⟨F0, ds, hl, s0, r, q⟩ => ⟨_, hb f cdv A outer s H E hg hr, ?_⟩
  refine ⟨_, F0, _, SR.begin s0 r (by rw [hl, ← hm]; exact ps_le S), ?_⟩
  unfold fnD at q
  cases e : b (startE N.length ds) with
  | nx ρ => rw [e] at q; exact fun F' σ' H' y S' => q V.non F' H' (S'.back s0 y) .non
  | rt d ρ => rw [e] at q; exact fun v F' σ' H' y S' rv => q v F' H' (S'.back s0 y) rv
  | _ => rw [e] at q; exact q.elim
theorem fn_O (F : FunG K x st dV f fd) (S : FnScope N ps (defScope st)) (hb : Body P w K mg base k N x st W b) (hm : ps.length = m) (hN : N.length = n) : FnG P w K mg base (k + 1) f fd ps (spO K m (fnO n b)) := by
  subst hN
  refine fnG_of F S (fun vs H Q E ⟨F, ds, h, _⟩ => h.trans hm.symm) fun cdv A outer s H vs Q E hg hr ⟨F0, ds, hl, s0, r, q⟩ => ⟨_, hb f cdv A outer s H E hg hr, ?_⟩
  refine ⟨_, F0, _, SR.begin s0 r (by rw [hl, ← hm]; exact ps_le S), ?_⟩
  unfold fnO at q
  cases e : b (startE N.length ds) with
  | ro d ρ =>
    rw [e] at q
    intro v F' σ' H' y S' rv
    obtain ⟨p, rfl, n1, n2, ro, ap⟩ := rv
    have n2 : rest F0 H p = none := n2
    refine q p F' H' (S'.back s0 y) ?_ n1 ro
    rw [rest_none (L2.Same.free y n1)] at n2
    exact n2
  | _ => rw [e] at q; exact q.elim
theorem fst0_of {ρ : Ev} {o : O} (h : ρ[0]? = some (some (.own true o))) : fst0 ρ = some o := by unfold fst0; rw [h]
theorem fn_MD (F : FunG K x st dV f fd) (S : FnScope N ps (defScope st)) (hb : Body P w K mg base k N x st W b) (hm : ps.length = m) (hN : N.length = n) : FnG P w K mg base (k + 1) f fd ps (spMD K m (fnMD n b)) := by
  subst hN
  refine fnG_of F S (fun vs H Q E ⟨F, p, ws, ds, o, _, h, _⟩ => h.trans hm.symm) fun cdv A outer s H vs Q E hg hr ⟨F0, p, ws, ds, o, e0, hl, s0, hp, ro, r, q⟩ => ⟨_, hb f cdv A outer s H E hg hr, ?_⟩
  subst e0
  refine ⟨_, F0, _, SR.beginP s0 hp ro r (by have := ps_le S; rw [List.length_cons] at hl; omega), ?_⟩
  unfold fnMD at q
  cases e : b (startI N.length o ds) with
  | nx ρ =>
    rw [e] at q
    intro F' σ' H' y S'
    obtain ⟨o', h1, h2, h3⟩ := S'.backP y
    simp only [fst0_of h1] at q
    exact q V.non F' H' h3 h2 .non
  | rt d ρ =>
    rw [e] at q
    intro v F' σ' H' y S' rv
    obtain ⟨o', h1, h2, h3⟩ := S'.backP y
    simp only [fst0_of h1] at q
    exact q v F' H' h3 h2 rv
  | _ => rw [e] at q; exact q.elim
theorem fn_MO (F : FunG K x st dV f fd) (S : FnScope N ps (defScope st)) (hb : Body P w K mg base k N x st W b) (hm : ps.length = m) (hN : N.length = n) : FnG P w K mg base (k + 1) f fd ps (spMO K m (fnMO n b)) := by
  subst hN
  refine fnG_of F S (fun vs H Q E ⟨F, p, ws, ds, o, _, h, _⟩ => h.trans hm.symm) fun cdv A outer s H vs Q E hg hr ⟨F0, p, ws, ds, o, e0, hl, s0, hp, ro, r, q⟩ => ⟨_, hb f cdv A outer s H E hg hr, ?_⟩
  subst e0
  refine ⟨_, F0, _, SR.beginP s0 hp ro r (by have := ps_le S; rw [List.length_cons] at hl; omega), ?_⟩
  unfold fnMO at q
  cases e : b (startI N.length o ds) with
  | ro d ρ =>
    rw [e] at q
    intro v F' σ' H' y S' rv
    obtain ⟨o', h1, h2, h3⟩ := S'.backP y
    obtain ⟨p2, rfl, n1, n2, ro2, ap⟩ := rv
    simp only [fst0_of h1] at q
    have ne : p2 ≠ p := fun z => by
      obtain ⟨h4, _⟩ := S'.pin p rfl
      exact ap 0 true o' h1 (by rw [z]; exact h4)
    refine q p2 F' H' h3 h2 ne ?_ n1 ro2
    have n2 : restP p F0 H p2 = none := n2
    rw [restP_ne ne (L2.Same.free y n1)] at n2
    exact n2
  | _ => rw [e] at q; exact q.elim
end

/-! ### calls -/
@[simp] def noX {α : Type} : Rs α → Rs α
  | .ok a => .ok a
  | _ => .bad
@[simp] def callG {α : Type} (m : Nat) (f : List D → Rs α) (dds : List D) (gs : Ev → Rs (List D)) (ρ : Ev) : Rs α := (gs ρ).bind fun ds => if ds.length + dds.length = m then noX (f (ds ++ dds)) else .bad
@[simp] def callM {α : Type} (m : Nat) (f : List D → Rs α) (dds : List D) (fs : Ev → Rs (List D × Ev)) (ρ : Ev) : Rs (α × Ev) := mbind (fs ρ) fun ds ρ1 => if ds.length + dds.length = m then (match f (ds ++ dds) with
  | .ok a => .ok (a, ρ1)
  | _ => .bad) else .bad
@[simp] def callI {α : Type} (m : Nat) (i : Nat) (f : O → List D → Rs (α × O)) (dds : List D) (fs : Ev → Rs (List D × Ev)) (ρ : Ev) : Rs (α × Ev) := match ρ[i]? with
  | some (some (.own _ _)) => mbind (fs ρ) fun ds ρ1 => if ds.length + dds.length + 1 = m then (match ρ1[i]? with
    | some (some (.own b o)) => match f o (ds ++ dds) with
      | .ok r => .ok (r.1, ρ1.set i (some (.own b r.2)))
      | _ => .bad
    | _ => .bad) else .bad
  | _ => .bad
section
variable {K : Frg} {Z : Fz} {F H F' H' : Hp} {ρ : Ev} {σ : Sl}
theorem SR.io (S : SR K Z F ρ σ H) {i : Nat} {b : Bool} {o o' : O} {p : Addr} (h : ρ[i]? = some (some (.own b o))) (hs : σ[i]? = some (some (.ref p))) (x : Xt p F H F' H') (r : RO K F' H' p o') : SR K Z F' (ρ.set i (some (.own b o'))) σ H' := by
  obtain ⟨q, e1, hf, hg, r0⟩ := S.own h
  rw [hs] at e1
  cases e1
  have hil : i < ρ.length := (List.getElem?_eq_some_iff.mp h).1
  have oth : ∀ q u, Z.G q = some u → F' q = none ∧ H' q = some u := fun q u e => by
    have h1 := S.sg q u e
    obtain ⟨a, c⟩ := x.ot q (fun z => by rw [z, hg] at e; cases e) (S.dj q u e) (by rw [h1]; exact fun z => by cases z)
    exact ⟨a, c.trans h1⟩
  refine ⟨x.fh, fun q u e => (oth q u e).2, fun q u e => (oth q u e).1, by simpa using S.len, fun j e hj => ?_, fun j k b1 b2 o1 o2 q ne h1 h2 h3 h4 => ?_, fun q e => ?_⟩
  · rcases getSet hj with ⟨rfl, z, hl⟩ | ⟨ne, hj⟩
    · cases z
      exact ⟨_, hs, p, rfl, x.fp, hg, r⟩
    · obtain ⟨v, a1, a2⟩ := S.sl j e hj
      refine ⟨v, a1, ?_⟩
      cases e with
      | dat d => exact RD.mono x.ff a2
      | own b2 o2 =>
        obtain ⟨q, rfl, c1, c2, c3⟩ := a2
        obtain ⟨f1, f2⟩ := x.ot q (fun z => S.ap j i b2 b o2 o p ne hj h (by rw [← z]; exact a1) hs) c1 c3.ne
        exact ⟨q, rfl, f1, c2, c3.mono x.ff f2⟩
  · have back : ∀ (j : Nat) (b1 : Bool) (o1 : O), (ρ.set i (some (.own b o')))[j]? = some (some (.own b1 o1)) → ∃ b1' o1', ρ[j]? = some (some (.own b1' o1')) := fun j b1 o1 hj => by
      rcases getSet hj with ⟨rfl, _, _⟩ | ⟨_, hj⟩
      · exact ⟨b, o, h⟩
      · exact ⟨b1, o1, hj⟩
    obtain ⟨_, _, c1⟩ := back _ _ _ h1
    obtain ⟨_, _, c2⟩ := back _ _ _ h2
    exact S.ap j k _ _ _ _ q ne c1 c2 h3 h4
  · obtain ⟨h1, o1, h2⟩ := S.pin q e
    refine ⟨h1, ?_⟩
    by_cases hi : i = 0
    · subst hi
      rw [h] at h2
      cases h2
      exact ⟨o', List.getElem?_set_self hil⟩
    · exact ⟨o1, by rw [List.getElem?_set_ne hi]; exact h2⟩
end
section
variable {X : Cx} {W : WX} {j k m : Nat} {x : Str} {dvs : List V} {dds : List D} {p pos : Pos} {e : Expr} {es : List Expr} {gs : Ev → Rs (List D)} {fs : Ev → Rs (List D × Ev)} {f : List D → Rs D} {fo : List D → Rs O} {fm : O → List D → Rs (D × O)} {fmo : O → List D → Rs (O × O)}
theorem pu_cg (c : CalG X.prog X.w X.K X.mg X.base k x (spD X.K m f) dvs) (hr : Room j X.A) (hgd : X.A.guards = some []) (hd : ∀ F, RDs X.K F dvs dds) (ha : PUA X W (e :: es) gs) (hk : k ≤ j := by decide) (hg : Gl X x := by rfl)
    (hdb : (x == ("__debug__" : Str)) = false := by decide) (he : starEach (e :: es) X.env = (false, eval e X.env) :: starEach es X.env := by rfl) (hpl : (backTo pos (starEach es X.env)).any (·.1) = false := by rfl) :
    PU X W (.Call (.Name x p) (e :: es) [] pos) (callG m f dds gs) := pe_imp (pe_cg c hr hgd ha hk hg hdb he hpl) fun σ H Q ⟨Z, F, ρ, S, u⟩ => ⟨Z, F, ρ, S, by
  unfold callG at u
  cases e1 : gs ρ with
  | ok ds =>
    rw [e1, Rs.bind_ok] at u
    split at u
    · rename_i hl
      intro vs F1 H1 x1 r1
      refine ⟨F1, ds ++ dds, by rw [List.length_append, RDs.length r1, (hd F1).length]; exact hl, x1.fh, RDs.append r1 (hd F1), ?_⟩
      cases e2 : f (ds ++ dds) with
      | ok d =>
        simp only [e2, noX] at u
        exact fun v F' H' y q => u v F' H' (x1.trans y) q
      | xc n as => simp only [e2, noX] at u; exact u.elim
      | bad => simp only [e2, noX] at u; exact u.elim
    · exact u.elim
  | xc n as => rw [e1] at u; exact u
  | bad => rw [e1] at u; exact u⟩
theorem po_cg (c : CalG X.prog X.w X.K X.mg X.base k x (spO X.K m fo) dvs) (hr : Room j X.A) (hgd : X.A.guards = some []) (hd : ∀ F, RDs X.K F dvs dds) (ha : PUA X W (e :: es) gs) (hk : k ≤ j := by decide) (hg : Gl X x := by rfl)
    (hdb : (x == ("__debug__" : Str)) = false := by decide) (he : starEach (e :: es) X.env = (false, eval e X.env) :: starEach es X.env := by rfl) (hpl : (backTo pos (starEach es X.env)).any (·.1) = false := by rfl) :
    PO X W (.Call (.Name x p) (e :: es) [] pos) (callG m fo dds gs) := pe_imp (pe_cg c hr hgd ha hk hg hdb he hpl) fun σ H Q ⟨Z, F, ρ, S, u⟩ => ⟨Z, F, ρ, S, by
  unfold callG at u
  cases e1 : gs ρ with
  | ok ds =>
    rw [e1, Rs.bind_ok] at u
    split at u
    · rename_i hl
      intro vs F1 H1 x1 r1
      refine ⟨F1, ds ++ dds, by rw [List.length_append, RDs.length r1, (hd F1).length]; exact hl, x1.fh, RDs.append r1 (hd F1), ?_⟩
      cases e2 : fo (ds ++ dds) with
      | ok d =>
        simp only [e2, noX] at u
        exact fun q F' H' y n1 n2 ro => u _ F' H' (x1.trans y) ⟨q, rfl, L2.Same.free x1.hh n1, n2, ro⟩
      | xc n as => simp only [e2, noX] at u; exact u.elim
      | bad => simp only [e2, noX] at u; exact u.elim
    · exact u.elim
  | xc n as => rw [e1] at u; exact u
  | bad => rw [e1] at u; exact u⟩
theorem me_cg (c : CalG X.prog X.w X.K X.mg X.base k x (spD X.K m f) dvs) (hr : Room j X.A) (hgd : X.A.guards = some []) (hd : ∀ F, RDs X.K F dvs dds) (ha : MA X (e :: es) fs) (hk : k ≤ j := by decide) (hg : Gl X x := by rfl)
    (hdb : (x == ("__debug__" : Str)) = false := by decide) (he : starEach (e :: es) X.env = (false, eval e X.env) :: starEach es X.env := by rfl) (hpl : (backTo pos (starEach es X.env)).any (·.1) = false := by rfl) :
    ME X (.Call (.Name x p) (e :: es) [] pos) (callM m f dds fs) := pe_imp (pe_cg c hr hgd ha hk hg hdb he hpl) fun σ H Q ⟨Z, F, ρ, S, u⟩ => ⟨Z, F, ρ, S, by
  unfold callM at u
  cases e1 : fs ρ with
  | ok q =>
    obtain ⟨ds, ρ1⟩ := q
    rw [e1, mbind_ok] at u
    split at u
    · rename_i hl
      intro vs F1 H1 x1 S1 r1
      refine ⟨F1, ds ++ dds, by rw [List.length_append, RDs.length r1, (hd F1).length]; exact hl, S1.sf, RDs.append r1 (hd F1), ?_⟩
      cases e2 : f (ds ++ dds) with
      | ok d =>
        simp only [e2] at u
        exact fun v F' H' y q => u v F' H' (x1.trans y.ff) (S1.ext y) q
      | xc n as => simp only [e2] at u; exact u.elim
      | bad => simp only [e2] at u; exact u.elim
    · exact u.elim
  | xc n as => rw [e1] at u; exact u
  | bad => rw [e1] at u; exact u⟩
theorem mo_cg (c : CalG X.prog X.w X.K X.mg X.base k x (spO X.K m fo) dvs) (hr : Room j X.A) (hgd : X.A.guards = some []) (hd : ∀ F, RDs X.K F dvs dds) (ha : MA X (e :: es) fs) (hk : k ≤ j := by decide) (hg : Gl X x := by rfl)
    (hdb : (x == ("__debug__" : Str)) = false := by decide) (he : starEach (e :: es) X.env = (false, eval e X.env) :: starEach es X.env := by rfl) (hpl : (backTo pos (starEach es X.env)).any (·.1) = false := by rfl) :
    MO X (.Call (.Name x p) (e :: es) [] pos) (callM m fo dds fs) := pe_imp (pe_cg c hr hgd ha hk hg hdb he hpl) fun σ H Q ⟨Z, F, ρ, S, u⟩ => ⟨Z, F, ρ, S, by
  unfold callM at u
  cases e1 : fs ρ with
  | ok q =>
    obtain ⟨ds, ρ1⟩ := q
    rw [e1, mbind_ok] at u
    split at u
    · rename_i hl
      intro vs F1 H1 x1 S1 r1
      refine ⟨F1, ds ++ dds, by rw [List.length_append, RDs.length r1, (hd F1).length]; exact hl, S1.sf, RDs.append r1 (hd F1), ?_⟩
      cases e2 : fo (ds ++ dds) with
      | ok d =>
        simp only [e2] at u
        exact fun q F' H' y n1 n2 ro => u _ F' H' (x1.trans y.ff) (S1.ext y) ⟨q, rfl, n2, L2.Same.free S1.sg n1, ro, S1.apart n1⟩
      | xc n as => simp only [e2] at u; exact u.elim
      | bad => simp only [e2] at u; exact u.elim
    · exact u.elim
  | xc n as => rw [e1] at u; exact u
  | bad => rw [e1] at u; exact u⟩
/-- the first argument is a name with an own object -/
theorem me_ci (i : Nat) {y : Str} {py : Pos} (c : CalG X.prog X.w X.K X.mg X.base k x (spMD X.K m fm) dvs) (hr : Room j X.A) (hgd : X.A.guards = some []) (hd : ∀ F, RDs X.K F dvs dds) (ha : MA X es fs) (hk : k ≤ j := by decide) (hg : Gl X x := by rfl)
    (hN : X.N[i]? = some y := by rfl) (hv : Vis X.env.scope y := by first | exact Or.inl rfl | exact Or.inr (Or.inl rfl) | exact Or.inr (Or.inr rfl)) (hdy : (y == ("__debug__" : Str)) = false := by decide) (hcd : (y == ("__classdict__" : Str)) = false := by decide)
    (hdb : (x == ("__debug__" : Str)) = false := by decide) (he : starEach (.Name y py :: es) X.env = (false, eval (.Name y py) X.env) :: starEach es X.env := by rfl) (hpl : (backTo pos (starEach es X.env)).any (·.1) = false := by rfl) :
    ME X (.Call (.Name x p) (.Name y py :: es) [] pos) (callI m i fm dds fs) := pe_imp (pe_cg c hr hgd (pa_cons (pe_var hN hv hdy hcd) ha he) hk hg hdb he hpl) fun σ H Q ⟨Z, F, ρ, S, u⟩ => by
  unfold callI at u
  split at u
  · rename_i b0 o0 e0
    obtain ⟨q, h1, hf, hg, r0⟩ := S.own e0
    refine ⟨_, h1, Z, F, ρ, S, ?_⟩
    cases e1 : fs ρ with
    | ok z =>
      obtain ⟨ds, ρ1⟩ := z
      rw [e1, mbind_ok] at u
      split at u
      rotate_left
      · exact u.elim
      rename_i hl
      intro vs F1 H1 x1 S1 r1
      split at u
      · rename_i b o e2
        obtain ⟨q', h1', hf', hg', r0'⟩ := S1.own e2
        rw [h1] at h1'
        cases h1'
        refine ⟨F1, q, vs ++ dvs, ds ++ dds, o, rfl, ?_, S1.sf, hf', r0', RDs.append r1 (hd F1), ?_⟩
        · show ((V.ref q :: vs) ++ dvs).length = m
          rw [List.length_append, List.length_cons, RDs.length r1, (hd F1).length]
          omega
        · cases e3 : fm o (ds ++ dds) with
          | ok r =>
            simp only [e3] at u
            exact fun v F' H' y ro rv => u v F' H' (x1.trans y.ff) (S1.io e2 h1 y ro) rv
          | xc n as => simp only [e3] at u; exact u.elim
          | bad => simp only [e3] at u; exact u.elim
      · exact u.elim
    | xc n as => rw [e1] at u; exact u.elim
    | bad => rw [e1] at u; exact u.elim
  · exact u.elim
theorem mo_ci (i : Nat) {y : Str} {py : Pos} (c : CalG X.prog X.w X.K X.mg X.base k x (spMO X.K m fmo) dvs) (hr : Room j X.A) (hgd : X.A.guards = some []) (hd : ∀ F, RDs X.K F dvs dds) (ha : MA X es fs) (hk : k ≤ j := by decide) (hg : Gl X x := by rfl)
    (hN : X.N[i]? = some y := by rfl) (hv : Vis X.env.scope y := by first | exact Or.inl rfl | exact Or.inr (Or.inl rfl) | exact Or.inr (Or.inr rfl)) (hdy : (y == ("__debug__" : Str)) = false := by decide) (hcd : (y == ("__classdict__" : Str)) = false := by decide)
    (hdb : (x == ("__debug__" : Str)) = false := by decide) (he : starEach (.Name y py :: es) X.env = (false, eval (.Name y py) X.env) :: starEach es X.env := by rfl) (hpl : (backTo pos (starEach es X.env)).any (·.1) = false := by rfl) :
    MO X (.Call (.Name x p) (.Name y py :: es) [] pos) (callI m i fmo dds fs) := pe_imp (pe_cg c hr hgd (pa_cons (pe_var hN hv hdy hcd) ha he) hk hg hdb he hpl) fun σ H Q ⟨Z, F, ρ, S, u⟩ => by
  unfold callI at u
  split at u
  · rename_i b0 o0 e0
    obtain ⟨q, h1, hf, hg, r0⟩ := S.own e0
    refine ⟨_, h1, Z, F, ρ, S, ?_⟩
    cases e1 : fs ρ with
    | ok z =>
      obtain ⟨ds, ρ1⟩ := z
      rw [e1, mbind_ok] at u
      split at u
      rotate_left
      · exact u.elim
      rename_i hl
      intro vs F1 H1 x1 S1 r1
      split at u
      · rename_i b o e2
        obtain ⟨q', h1', hf', hg', r0'⟩ := S1.own e2
        rw [h1] at h1'
        cases h1'
        refine ⟨F1, q, vs ++ dvs, ds ++ dds, o, rfl, ?_, S1.sf, hf', r0', RDs.append r1 (hd F1), ?_⟩
        · show ((V.ref q :: vs) ++ dvs).length = m
          rw [List.length_append, List.length_cons, RDs.length r1, (hd F1).length]
          omega
        · cases e3 : fmo o (ds ++ dds) with
          | ok r =>
            simp only [e3] at u
            intro q2 F' H' y ro ne n1 n2 ro2
            refine u _ F' H' (x1.trans y.ff) (S1.io e2 h1 y ro) ⟨q2, rfl, n2, L2.Same.free S1.sg n1, ro2, fun jj bb oo hj hs => ?_⟩
            rcases getSet hj with ⟨e5, _, _⟩ | ⟨_, hj⟩
            · rw [e5, h1] at hs
              cases hs
              exact ne rfl
            · exact S1.apart n1 jj bb oo hj hs
          | xc n as => simp only [e3] at u; exact u.elim
          | bad => simp only [e3] at u; exact u.elim
      · exact u.elim
    | xc n as => rw [e1] at u; exact u.elim
    | bad => rw [e1] at u; exact u.elim
  · exact u.elim
end
end DL
/-! DLm: built-ins of data. -/
namespace DL
open PySem PySem.Spec PyProof.Rows L2

def asI : D → Option Int
  | .int i => some i
  | _ => none
def asB : D → Option Bool
  | .bool b => some b
  | _ => none
theorem asI_some {d : D} {i : Int} (h : asI d = some i) : d = .int i := by
  cases d with
  | int j => cases h; rfl
  | _ => cases h
theorem asB_some {d : D} {i : Bool} (h : asB d = some i) : d = .bool i := by
  cases d with
  | bool j => cases h; rfl
  | _ => cases h
/-- all of one kind -/
def allM {α : Type} (f : D → Option α) : List D → Option (List α)
  | [] => some []
  | d :: ds => (f d).bind fun a => (allM f ds).map (a :: ·)
theorem allM_map {α : Type} {f : D → Option α} {g : α → D} (hf : ∀ d a, f d = some a → d = g a) : ∀ {ds : List D} {as : List α}, allM f ds = some as → ds = as.map g
  | [], as, h => by
    cases h
    rfl
  | d :: ds, as, h => by
    unfold allM at h
    cases e1 : f d with
    | none => rw [e1] at h; cases h
    | some a =>
      rw [e1] at h
      cases e2 : allM f ds with
      | none => rw [Option.bind_some, e2] at h; cases h
      | some bs =>
        rw [Option.bind_some, e2] at h
        cases h
        rw [allM_map hf e2, hf d a e1]
        rfl
abbrev intsD : List D → Option (List Int) := allM asI
abbrev boolsD : List D → Option (List Bool) := allM asB
theorem intsD_some {ds : List D} {ns : List Int} (h : intsD ds = some ns) : ds = ns.map PyData.int := allM_map (fun _ _ => asI_some) h
theorem boolsD_some {ds : List D} {ns : List Bool} (h : boolsD ds = some ns) : ds = ns.map PyData.bool := allM_map (fun _ _ => asB_some) h

section
variable {X : Cx} {K : Frg}
theorem newO {F H : Hp} {xs : List V} {ds : List D} {Q : VK} (s : Same F H) (hz : xs.length ≤ sizeLine) (r : RDs K F xs ds) (h : ∀ p F' H', Ext F H F' H' → H p = none → F' p = none → RO K F' H' p (.l ds) → Q (.ref p) H') :
    ∀ p, H p = none → Q (.ref p) (upd H p (.lst xs)) := fun p n => h p F _ (Ext.newO s n) n (L2.Same.free s n) ⟨xs, upd_same, hz, r⟩
/-! ### len, abs, int, sum, all, any -/
@[simp] def lenD : List D → Option D
  | [.list xs] => some (.int xs.length)
  | [.tuple xs] => some (.int xs.length)
  | [.str z] => if z.length ≤ sizeLine then some (.int z.length) else none
  | _ => none
theorem b_len : CallD K (fun xs H Q => (∃ p ys, xs = [.ref p] ∧ (SqL K H p ys ∨ SqT K H p ys) ∧ Q (.int ys.length) H) ∨ ∃ z, xs = [.str z] ∧ z.length ≤ sizeLine ∧ Q (.int z.length) H) lenD := by
  intro F H vs ds c Q s r hg h
  unfold lenD at hg
  split at hg
  · rename_i xs
    cases hg
    obtain ⟨v, rfl, r1⟩ := r.inv1
    obtain ⟨a, ys, rfl, t, z, q⟩ := r1.invL
    exact .inl ⟨a, ys, rfl, .inl (.inl (rd_mono s t)), by rw [q.length]; exact RD.ext s (.int _) h⟩
  · rename_i xs
    cases hg
    obtain ⟨v, rfl, r1⟩ := r.inv1
    obtain ⟨a, ys, rfl, t, z, q⟩ := r1.invT
    exact .inl ⟨a, ys, rfl, .inr (sqT_mono s t), by rw [q.length]; exact RD.ext s (.int _) h⟩
  · split at hg
    · rename_i z hz
      cases hg
      obtain ⟨v, rfl, r1⟩ := r.inv1
      cases r1
      exact .inr ⟨z, rfl, hz, RD.ext s (.int _) h⟩
    · cases hg
  · cases hg
@[simp] def absD : List D → Option D
  | [.int i] => some (.int (if i < 0 then -i else i))
  | _ => none
theorem b_abs : CallD K (fun xs H Q => ∃ i, xs = [.int i] ∧ Q (.int (if i < 0 then -i else i)) H) absD := by
  intro F H vs ds c Q s r hg h
  unfold absD at hg
  split at hg
  · rename_i i
    cases hg
    obtain ⟨v, rfl, r1⟩ := r.inv1
    cases r1
    exact ⟨i, rfl, RD.ext s (.int _) h⟩
  · cases hg
@[simp] def intD : List D → Option D
  | [.int i] => some (.int i)
  | [.bool b] => some (.int (if b then 1 else 0))
  | _ => none
theorem b_int : CallD K (fun xs H Q => (∃ i, xs = [.int i] ∧ Q (.int i) H) ∨ ∃ k, xs = [.bl k] ∧ Q (.int (if k then 1 else 0)) H) intD := by
  intro F H vs ds c Q s r hg h
  unfold intD at hg
  split at hg
  · rename_i i
    cases hg
    obtain ⟨v, rfl, r1⟩ := r.inv1
    cases r1
    exact .inl ⟨i, rfl, RD.ext s (.int _) h⟩
  · rename_i i
    cases hg
    obtain ⟨v, rfl, r1⟩ := r.inv1
    cases r1
    exact .inr ⟨i, rfl, RD.ext s (.int _) h⟩
  · cases hg
def sumD : List D → Option D
  | [.list xs] => (intsD xs).map fun ns => .int ns.sum
  | _ => none
theorem b_sum : CallD K (rSum K) sumD := by
  intro F H vs ds c Q s r hg h
  unfold sumD at hg
  split at hg
  · rename_i xs
    obtain ⟨ns, e, rfl⟩ := Option.map_eq_some_iff.mp hg
    cases intsD_some e
    obtain ⟨v, rfl, r1⟩ := r.inv1
    obtain ⟨a, ys, rfl, t, z, q⟩ := r1.invL
    cases RDs.of_ints q
    exact ⟨a, ns, rfl, .inl (rd_mono s t), RD.ext s (.int _) h⟩
  · cases hg
def allD : List D → Option D
  | [.list xs] => (boolsD xs).map fun ns => .bool (ns.all id)
  | _ => none
theorem b_all : CallD K (rAll K) allD := by
  intro F H vs ds c Q s r hg h
  unfold allD at hg
  split at hg
  · rename_i xs
    obtain ⟨ns, e, rfl⟩ := Option.map_eq_some_iff.mp hg
    cases boolsD_some e
    obtain ⟨v, rfl, r1⟩ := r.inv1
    obtain ⟨a, ys, rfl, t, z, q⟩ := r1.invL
    cases RDs.of_bools q
    exact ⟨a, ns, rfl, .inl (rd_mono s t), RD.ext s (.bl _) h⟩
  · cases hg
def anyD : List D → Option D
  | [.list xs] => (boolsD xs).map fun ns => .bool (ns.any id)
  | _ => none
theorem b_any : CallD K (rAny K) anyD := by
  intro F H vs ds c Q s r hg h
  unfold anyD at hg
  split at hg
  · rename_i xs
    obtain ⟨ns, e, rfl⟩ := Option.map_eq_some_iff.mp hg
    cases boolsD_some e
    obtain ⟨v, rfl, r1⟩ := r.inv1
    obtain ⟨a, ys, rfl, t, z, q⟩ := r1.invL
    cases RDs.of_bools q
    exact ⟨a, ns, rfl, .inl (rd_mono s t), RD.ext s (.bl _) h⟩
  · cases hg
/-! ### list, tuple -/
@[simp] def listO : List D → Option O
  | [.list xs] => some (.l xs)
  | [.tuple xs] => some (.l xs)
  | _ => none
theorem b_list : CallO K (fun xs H Q => ∃ p ys, xs = [.ref p] ∧ (SqL K H p ys ∨ SqT K H p ys) ∧ ∀ l, H l = none → Q (.ref l) (upd H l (.lst ys))) listO := by
  intro F H vs ds c Q s r hg h
  unfold listO at hg
  split at hg
  · rename_i xs
    cases hg
    obtain ⟨v, rfl, r1⟩ := r.inv1
    obtain ⟨a, ys, rfl, t, z, q⟩ := r1.invL
    exact ⟨a, ys, rfl, .inl (.inl (rd_mono s t)), newO s z q h⟩
  · rename_i xs
    cases hg
    obtain ⟨v, rfl, r1⟩ := r.inv1
    obtain ⟨a, ys, rfl, t, z, q⟩ := r1.invT
    exact ⟨a, ys, rfl, .inr (sqT_mono s t), newO s z q h⟩
  · cases hg
@[simp] def tupleD : List D → Option D
  | [.list xs] => some (.tuple xs)
  | [.tuple xs] => some (.tuple xs)
  | _ => none
theorem b_tuple : CallD K (fun xs H Q => ∃ p ys, xs = [.ref p] ∧ ((SqL K H p ys ∧ ∀ l, H l = none → Q (.ref l) (upd H l (.tup ys))) ∨ (SqT K H p ys ∧ Q (.ref p) H))) tupleD := by
  intro F H vs ds c Q s r hg h
  unfold tupleD at hg
  split at hg
  · rename_i xs
    cases hg
    obtain ⟨v, rfl, r1⟩ := r.inv1
    obtain ⟨a, ys, rfl, t, z, q⟩ := r1.invL
    exact ⟨a, ys, rfl, .inl ⟨.inl (rd_mono s t), RD.newT s z q h⟩⟩
  · rename_i xs
    cases hg
    obtain ⟨v, rfl, r1⟩ := r.inv1
    obtain ⟨a, ys, rfl, t, z, q⟩ := r1.invT
    exact ⟨a, ys, rfl, .inr ⟨sqT_mono s t, RD.ext s (.tup t z q) h⟩⟩
  · cases hg
/-! ### sorted of ints -/
def insI (n : Int) : List Int → List Int
  | [] => [n]
  | m :: ms => if n ≤ m then n :: m :: ms else m :: insI n ms
def srtI : List Int → List Int
  | [] => []
  | n :: ns => insI n (srtI ns)
theorem insI_perm (n : Int) : ∀ ns : List Int, (insI n ns).Perm (n :: ns)
  | [] => List.Perm.refl _
  | m :: ms => by
    unfold insI
    split
    · exact List.Perm.refl _
    · exact ((insI_perm n ms).cons m).trans (List.Perm.swap n m ms)
theorem srtI_perm : ∀ ns : List Int, (srtI ns).Perm ns
  | [] => List.Perm.refl _
  | n :: ns => (insI_perm n _).trans ((srtI_perm ns).cons n)
theorem insI_pw (n : Int) : ∀ {ns : List Int}, ns.Pairwise (· ≤ ·) → (insI n ns).Pairwise (· ≤ ·)
  | [], _ => List.pairwise_singleton _ _
  | m :: ms, h => by
    unfold insI
    split
    · rename_i hl
      refine List.pairwise_cons.mpr ⟨fun a ha => ?_, h⟩
      rcases List.mem_cons.mp ha with rfl | ha
      · exact hl
      · exact Int.le_trans hl ((List.pairwise_cons.mp h).1 a ha)
    · rename_i hl
      refine List.pairwise_cons.mpr ⟨fun a ha => ?_, insI_pw n (List.pairwise_cons.mp h).2⟩
      rcases List.mem_cons.mp ((insI_perm n ms).mem_iff.mp ha) with rfl | ha
      · omega
      · exact (List.pairwise_cons.mp h).1 a ha
theorem srtI_pw : ∀ ns : List Int, (srtI ns).Pairwise (· ≤ ·)
  | [] => List.Pairwise.nil
  | n :: ns => insI_pw n (srtI_pw ns)
theorem srt_one {l l' : List Int} (p : l.Perm l') (h : l.Pairwise (· ≤ ·)) (h' : l'.Pairwise (· ≤ ·)) : l = l' := p.eq_of_pairwise (fun a b _ _ h1 h2 => Int.le_antisymm h1 h2) h h'
def sortIO : List D → Option O
  | [.list xs] => (intsD xs).map fun ns => .l ((srtI ns).map PyData.int)
  | _ => none
theorem b_sortI : CallO K (rSortedI K) sortIO := by
  intro F H vs ds c Q s r hg h
  unfold sortIO at hg
  split at hg
  · rename_i xs
    obtain ⟨ns, e, rfl⟩ := Option.map_eq_some_iff.mp hg
    cases intsD_some e
    obtain ⟨v, rfl, r1⟩ := r.inv1
    obtain ⟨a, ys, rfl, t, z, q⟩ := r1.invL
    cases RDs.of_ints q
    refine ⟨a, ns, rfl, .inl (rd_mono s t), fun ns' p hp hw hn => ?_⟩
    cases srt_one (hp.trans (srtI_perm ns).symm) hw (srtI_pw ns)
    refine newO s ?_ (RDs.ints _) h p hn
    rw [List.length_map] at z ⊢
    rw [(srtI_perm ns).length_eq]
    exact z
  · cases hg
/-! ### a tuple or a list times an int -/
theorem tuple_mul1 (l : Addr) (items : Array Value) (n : Nat) (dd : Option Addr) (sl : Array (Option Value)) (u : Tok) :
    Meets (Builtin.«tuple.__mul__» ⟨[.ref l, .int 1 u], []⟩) (fun _ R s => s.heap.get? l = some { cls := .type "tuple", dict := dd, data := .seq items n, slots := sl } ∧ R (.ok (.ret (Value.ref l))) s) :=
  .of_wp fun prog w A R s h => by
    obtain ⟨hp, g, d, tk, os⟩ := s
    obtain ⟨hl, h⟩ := h
    have f1 := AutoSeq1.idx_int
    wp_walk using wpAny_loadPart' hl
    repeat (first
      | (refine wpAny_ite_false (decide_eq_false (by simp)) ?_; wp_walk using wpAny_loadPart' hl)
      | (refine wpAny_ite_true (decide_eq_true (by simp)) ?_; wp_walk using wpAny_loadPart' hl))
    exact ⟨_, rfl, h⟩
end
end DL
/-! DLn: tuples times ints, ranges as values, dicts, repr. -/
namespace DL
open PySem PySem.Spec PyProof.Rows L2

/-! ### a tuple times an int -/
def rRep1 (K : Frg) : R2 := fun x y H Q => ∃ l xs, x = .ref l ∧ y = .int 1 ∧ SqT K H l xs ∧ Q (.ref l) H
theorem op_rep1 {X : Cx} : OpR X (binaryOp .Mult) (rRep1 X.K) := by
  intro pins s σ H x y v u Q I rx ry h
  obtain ⟨l, xs, rfl, rfl, hT, q⟩ := h
  cases rx
  obtain ⟨t, rfl⟩ := ry
  obtain ⟨its, r, ⟨⟨cls, dd, data, sl⟩, ho, hc, n, hd⟩, hs⟩ := I.tuple hT
  simp only at hc hd
  subst hc hd
  exact wpAny_binaryOp_repeat_ref (T := "tuple") (U := "int") (by decide) ⟨_, ho, rfl⟩ (fun s' => typeIs_int s' 1 t) noFill_tuple_mul F.fills_int_mul F.slot_int_rmul repeat_tuple F.slot_int_index.lookup
    (call_meets F.slot_int_rmul (typeIs_int s 1 t) F.entry_int_rmul (F.args_int_rmul_2 _ _) (int_rmul_tuple 1 t l its.toArray n dd sl)
      ⟨ho, rfl, ⟨_, ho, rfl⟩, call_meets F.slot_tuple_mul ⟨_, ho, rfl⟩ F.entry_tuple_mul (F.args_tuple_mul_2 _ _) (tuple_mul1 l its.toArray n dd sl t) ⟨ho, .ref l, H, I, rfl, q⟩⟩)
def mulTD : D → D → Option D
  | .int i, .int j => mulD (.int i) (.int j)
  | .tuple xs, .int k => if k = 1 then some (.tuple xs) else if xs ≠ [] ∧ 2 ≤ k ∧ k ≤ 1000 ∧ xs.length ≤ 1000 then some (.tuple (List.replicate k.toNat xs).flatten) else none
  | _, _ => none
def rMulA (K : Frg) : R2 := fun x y H Q => L2.rI CMul (fun i j => .int (i * j)) x y H Q ∨ rRep1 K x y H Q ∨ rRepT K x y H Q
theorem o_mulT {X : Cx} : OpR X (binaryOp .Mult) (rMulA X.K) := op_mul.or (op_rep1.or op_repT)
theorem RDs.rep {K : Frg} {F : Hp} {vs : List V} {ds : List D} (h : RDs K F vs ds) : ∀ n : Nat, RDs K F (List.replicate n vs).flatten (List.replicate n ds).flatten
  | 0 => .nil
  | n + 1 => by
    rw [List.replicate_succ, List.replicate_succ, List.flatten_cons, List.flatten_cons]
    exact h.append (RDs.rep h n)
theorem d_mulT {K : Frg} : OpD K (rMulA K) mulTD := by
  intro F H x y d e c Q s r1 r2 hg h
  unfold mulTD at hg
  split at hg
  · exact .inl (d_mul F H x y _ _ c Q s r1 r2 hg h)
  · rename_i xs k
    cases r2
    obtain ⟨a, ys, rfl, t, z, q⟩ := r1.invT
    split at hg
    · rename_i hk
      subst hk
      cases hg
      exact .inr (.inl ⟨a, ys, rfl, rfl, sqT_mono s t, RD.ext s r1 h⟩)
    · split at hg
      · rename_i hk
        obtain ⟨k1, k2, k3, k4⟩ := hk
        cases hg
        have hl := q.length
        refine .inr (.inr ⟨a, k, ys, rfl, rfl, sqT_mono s t, fun e => k1 ?_, k2, k3, by omega, RD.newT s ?_ (q.rep _) h⟩)
        · rw [e] at hl
          exact List.eq_nil_of_length_eq_zero hl.symm
        · rw [PyProof.Rows.lm_len_rep_flat, sizeLine_eq]
          have a1 : k.toNat * ys.length ≤ 1000 * 1000 := Nat.mul_le_mul (by omega) (by omega)
          omega
      · cases hg
  · cases hg

/-! ### a < b, tuples of ints too -/
def ltTD : D → D → Option D
  | .tuple xs, .tuple ys => (intsD xs).bind fun ns => (intsD ys).map fun ms => .bool (HT.lexLt ns ms)
  | .int i, .int j => some (.bool (decide (i < j)))
  | .str i, .str j => some (.bool (decide (i.cps.toList < j.cps.toList)))
  | _, _ => none
theorem o_ltT {X : Cx} (hu : X.A.units < cLine) : OpR X (compareOp .Lt) (fun x y H Q => rLtA x y H Q ∨ rLtT X.K x y H Q) := o_lt.or (op_ltT hu)
theorem d_ltT {K : Frg} : OpD K (fun x y H Q => rLtA x y H Q ∨ rLtT K x y H Q) ltTD := by
  intro F H x y d e c Q s r1 r2 hg h
  unfold ltTD at hg
  split at hg
  · obtain ⟨ns, e1, hg⟩ := Option.bind_eq_some_iff.mp hg
    obtain ⟨ms, e2, rfl⟩ := Option.map_eq_some_iff.mp hg
    cases intsD_some e1
    cases intsD_some e2
    obtain ⟨a, ys, rfl, t, z, q⟩ := r1.invT
    obtain ⟨b, zs, rfl, t2, z2, q2⟩ := r2.invT
    cases RDs.of_ints q
    cases RDs.of_ints q2
    exact .inr ⟨a, b, ns, ms, rfl, rfl, sqT_mono s t, sqT_mono s t2, RD.ext s (.bl _) h⟩
  · exact .inl (d_lt F H x y _ _ c Q s r1 r2 hg h)
  · exact .inl (d_lt F H x y _ _ c Q s r1 r2 hg h)
  · cases hg

/-! ### range(..) as a value -/
theorem rds_rg {K : Frg} {F : Hp} (a b : Int) : RDs K F (rgV a b) (rangeL a (b - a).toNat) := by
  have e1 : rgV a b = ((List.range (b - a).toNat).map fun (i : Nat) => a + (i : Int)).map V.int := by unfold rgV; rw [List.map_map]; rfl
  have e2 : rangeL a (b - a).toNat = ((List.range (b - a).toNat).map fun (i : Nat) => a + (i : Int)).map PyData.int := by unfold rangeL; rw [List.map_map]; rfl
  rw [e1, e2]
  exact RDs.ints _
def rgD {α : Type} (f : List D → α) (g : Ev → Rs D) (ρ : Ev) : Rs α := (g ρ).bind fun d => match d with
  | .int n => if n.natAbs ≤ 16777216 then .ok (f (rangeL 0 n.toNat)) else .bad
  | _ => .bad
section
variable {X : Cx} {W : WX} {e : Expr} {ga : Ev → Rs D} {p p2 q pos : Pos}
theorem rg_abs {n : Int} (h : n.natAbs ≤ 16777216) : -(2 ^ 62) ≤ n ∧ n ≤ 16777216 := by omega
theorem rg_ok {n : Int} (h : -(2 ^ 62) ≤ n ∧ n ≤ 16777216) : RgOk 0 n := by
  have e : (2 : Nat) ^ 24 = 16777216 := by decide
  exact ⟨by decide, by decide, h.1, by omega, by omega⟩
theorem rg_len {n : Int} (h : n ≤ 16777216) : (rgV 0 n).length ≤ sizeLine := by
  rw [rgV_length, sizeLine_eq]
  omega
theorem pu_tupRg (hc : X.calm = true) (hm : X.mg "tuple" = none) (hm2 : X.mg "range" = none) (ha : PU X W e ga) (hg : Gl X "tuple" := by rfl) (hg2 : Gl X "range" := by rfl) (n1 : starEach [e] X.env = (false, eval e X.env) :: starEach [] X.env := by rfl)
    (na : starEach [.Call (.Name "range" p2) [e] [] q] X.env = (false, eval (.Call (.Name "range" p2) [e] [] q) X.env) :: starEach [] X.env := by rfl) :
    PU X W (.Call (.Name "tuple" p) [.Call (.Name "range" p2) [e] [] q] [] pos) (rgD .tuple ga) := pe_imp (pe_tupRg hc hg hm (prg_1 hg2 hm2 ha n1) na) fun σ H Q ⟨Z, F, ρ, S, u⟩ =>
  ⟨Z, F, ρ, S, by
    unfold rgD at u
    cases e1 : ga ρ with
    | ok d =>
      rw [e1, Rs.bind_ok] at u
      intro v F1 H1 x1 r1
      cases r1 with
      | int n =>
        simp only at u
        split at u
        · rename_i hz0
          have hz := rg_abs hz0
          exact ⟨n, rfl, rg_ok hz, RD.newT x1.fh (rg_len hz.2) (by have h := rds_rg (K := X.K) (F := F1) 0 n; rw [Int.sub_zero] at h; exact h) fun v F' H' y z => u v F' H' (x1.trans y) z⟩
        · exact u.elim
      | _ => exact u.elim
    | xc n as => rw [e1] at u; exact u
    | bad => rw [e1] at u; exact u⟩
theorem po_listRg (hc : X.calm = true) (hm : X.mg "list" = none) (hm2 : X.mg "range" = none) (ha : PU X W e ga) (hg : Gl X "list" := by rfl) (hg2 : Gl X "range" := by rfl) (n1 : starEach [e] X.env = (false, eval e X.env) :: starEach [] X.env := by rfl)
    (na : starEach [.Call (.Name "range" p2) [e] [] q] X.env = (false, eval (.Call (.Name "range" p2) [e] [] q) X.env) :: starEach [] X.env := by rfl) :
    PO X W (.Call (.Name "list" p) [.Call (.Name "range" p2) [e] [] q] [] pos) (rgD .l ga) := pe_imp (pe_listRg hc hg hm (prg_1 hg2 hm2 ha n1) na) fun σ H Q ⟨Z, F, ρ, S, u⟩ =>
  ⟨Z, F, ρ, S, by
    unfold rgD at u
    cases e1 : ga ρ with
    | ok d =>
      rw [e1, Rs.bind_ok] at u
      intro v F1 H1 x1 r1
      cases r1 with
      | int n =>
        simp only at u
        split at u
        · rename_i hz0
          have hz := rg_abs hz0
          exact ⟨n, rfl, rg_ok hz, newO x1.fh (rg_len hz.2) (by have h := rds_rg (K := X.K) (F := F1) 0 n; rw [Int.sub_zero] at h; exact h) fun p F' H' y n1 n2 z => u (.ref p) F' H' (x1.trans y) ⟨p, rfl, L2.Same.free x1.hh n1, n2, z⟩⟩
        · exact u.elim
      | _ => exact u.elim
    | xc n as => rw [e1] at u; exact u
    | bad => rw [e1] at u; exact u⟩
end

/-! ### repr -/
section
variable {X : Cx} {K : Frg}
def rRepr (K : Frg) : List V → Hp → VK → Prop := fun vs H Q => ∃ (p : Addr) (d : D), vs = [.ref p] ∧ Dp K H (.ref p) d ∧ d.showable = true ∧ d.hasDict = false ∧ d.depth ≤ 50 ∧ d.shown.length ≤ sizeLine ∧ Q (.str d.shown) H
theorem cr_repr (hgd : X.A.guards = some []) (hu : X.A.units + 64 < cLine) : CallR X (.builtin "repr") (rRepr X.K) := by
  intro pins s σ H vs us Q I r h
  obtain ⟨p, d, rfl, hd, h1, h2, h3, h4, q⟩ := h
  rw [Vals.ref1 r]
  obtain ⟨as, hr⟩ := Dp.reads I d _ (.ref p) hd rfl
  exact repr_of_reads' hr h1 (PyData.noDict_hsm h2) hgd (by omega) (fun _ _ e => e) (fun h' u tk hk => ⟨.str d.shown, H, I.kept hk, ⟨u, rfl⟩, q⟩) h4
def reprD : List D → Option D
  | [d] => match d with
    | .list _ => if d.canLay0 = true ∧ d.showable = true ∧ d.depth ≤ 50 ∧ d.shown.length ≤ sizeLine then some (.str d.shown) else none
    | .tuple _ => if d.canLay0 = true ∧ d.showable = true ∧ d.depth ≤ 50 ∧ d.shown.length ≤ sizeLine then some (.str d.shown) else none
    | _ => none
  | _ => none
theorem b_repr : CallD K (rRepr K) reprD := by
  intro F H vs ds c Q s r hg h
  unfold reprD at hg
  split at hg
  · rename_i d
    obtain ⟨v, rfl, r1⟩ := r.inv1
    split at hg
    · split at hg
      · rename_i xs hz
        obtain ⟨z1, z2, z3, z4⟩ := hz
        cases hg
        have dp := r1.dp s z1
        obtain ⟨a, ys, rfl, _⟩ := r1.invL
        exact ⟨a, _, rfl, dp, z2, PyData.hasDict_of_canLay _ z1, z3, z4, RD.ext s (.str _) h⟩
      · cases hg
    · split at hg
      · rename_i xs hz
        obtain ⟨z1, z2, z3, z4⟩ := hz
        cases hg
        have dp := r1.dp s z1
        obtain ⟨a, ys, rfl, _⟩ := r1.invT
        exact ⟨a, _, rfl, dp, z2, PyData.hasDict_of_canLay _ z1, z3, z4, RD.ext s (.str _) h⟩
      · cases hg
    · cases hg
  · cases hg
end

/-! ### dicts with ints or texts as keys -/
def keyD : D → Option Key
  | .int i => some (.inl i)
  | .str x => some (.inr x)
  | _ => none
theorem keyD_k (k : Key) : keyD (kD k) = some k := by cases k <;> rfl
theorem keyD_some {d : D} {k : Key} (h : keyD d = some k) : d = kD k := by
  cases d <;> first | (cases h; rfl) | cases h
/-- the value at a key -/
def lookD (k : Key) : List (D × D) → Option D
  | [] => none
  | p :: r => if keyD p.1 = some k then some p.2 else lookD k r
theorem rd_key {K : Frg} {F : Hp} {v : V} {k : Key} (h : RD K F v (kD k)) : v = kV k := by
  cases k with
  | inl i => cases h; rfl
  | inr x => cases h; rfl
theorem lookD_V {K : Frg} {F : Hp} (k : Key) : ∀ {ks : List Key} {xs : List V} {ds : List D}, ks.length = xs.length → RDs K F xs ds →
    (lookD k ((ks.map kD).zip ds) = none ∧ valV (ks.zip xs) k = none) ∨ ∃ d v, lookD k ((ks.map kD).zip ds) = some d ∧ valV (ks.zip xs) k = some v ∧ RD K F v d
  | [], [], _, _, .nil => .inl ⟨rfl, rfl⟩
  | [], _ :: _, _, h, _ => by simp at h
  | _ :: _, [], _, h, _ => by simp at h
  | a :: ks, v :: xs, d :: ds, h, .cons r rs => by
    rw [List.map_cons, List.zip_cons_cons, List.zip_cons_cons]
    unfold lookD
    by_cases e : a = k
    · refine .inr ⟨d, v, ?_, valV_pos e, r⟩
      rw [if_pos (by rw [keyD_k, e])]
    · rw [if_neg (by rw [keyD_k]; exact fun z => e (Option.some.inj z)), valV_neg (by exact e)]
      exact lookD_V k (by simpa using h) rs
/-- d[k] -/
def dgetD (d k : D) : Option D := match d with
  | .dict kvs => (keyD k).bind fun k => lookD k kvs
  | _ => none
theorem dit_no {ks : List (List Key)} {ds : List D} (k : Key) : lookD k ((ks.map kDs).zip ds) = none := by
  induction ks generalizing ds with
  | nil => rfl
  | cons a ks ih =>
    cases ds with
    | nil => rfl
    | cons d ds =>
      rw [List.map_cons, List.zip_cons_cons]
      unfold lookD
      rw [if_neg (by simp [kDs, keyD])]
      exact ih
section
variable {X : Cx} {W : WX} {a b : Expr} {ga gb : Ev → Rs D} {fa fb : Ev → Rs (D × Ev)} {pos : Pos}
theorem dget_V {K : Frg} {F H : Hp} {v w : V} {d k c : D} (s : Same F H) (r1 : RD K F v d) (r2 : RD K F w k) (h : dgetD d k = some c) : ∃ p u, v = .ref p ∧ DGet H p w (some u) ∧ RD K F u c := by
  cases r1 with
  | dic t hl q =>
    obtain ⟨kk, e1, e2⟩ := Option.bind_eq_some_iff.mp (show (keyD k).bind (fun k => lookD k _) = some c from h)
    cases keyD_some e1
    cases rd_key r2
    rcases lookD_V kk hl q with ⟨z, _⟩ | ⟨d2, u, h1, h2, h3⟩
    · rw [z] at e2; cases e2
    · rw [h1] at e2
      cases e2
      exact ⟨_, u, rfl, .inl ⟨_, kk, rd_mono s t, rfl, h2.symm⟩, h3⟩
  | dit t hl q =>
    obtain ⟨kk, e1, e2⟩ := Option.bind_eq_some_iff.mp (show (keyD k).bind (fun k => lookD k _) = some c from h)
    unfold lookD at e2
    rw [if_neg (by simp [keyD]), dit_no kk] at e2
    cases e2
  | _ => cases h
theorem pu_dix (hu : X.A.units + 1 < cLine) (ha : PU X W a ga) (hb : PU X W b gb) (hs : NoSl b := by exact fun _ _ => rfl) : PU X W (.Subscript a b pos) (opG dgetD ga gb) := pe_imp (pe_dget hu ha hb hs) fun σ H Q ⟨Z, F, ρ, S, u⟩ =>
  ⟨Z, F, ρ, S, U.bind u fun d v F1 H1 x1 r1 u1 => ⟨Z, F1, ρ, S.ext x1, U.bind u1 fun e w F2 H2 x2 r2 u2 => by
    cases e1 : dgetD d e with
    | none => rw [e1] at u2; exact u2.elim
    | some c =>
      rw [e1] at u2
      obtain ⟨p, z, rfl, hg, r⟩ := dget_V x2.fh (RD.mono x2.ff r1) r2 e1
      exact ⟨p, z, rfl, hg, u2 z F2 H2 (Ext.refl x2.fh) r⟩⟩⟩
theorem me_dix (hu : X.A.units + 1 < cLine) (ha : ME X a fa) (hb : ME X b fb) (hs : NoSl b := by exact fun _ _ => rfl) : ME X (.Subscript a b pos) (opM dgetD fa fb) := pe_imp (pe_dget hu ha hb hs) fun σ H Q ⟨Z, F, ρ, S, u⟩ =>
  ⟨Z, F, ρ, S, M.bind u fun d ρ1 v F1 H1 x1 S1 r1 u1 => ⟨Z, F1, ρ1, S1, M.bind u1 fun e ρ2 w F2 H2 x2 S2 r2 u2 => by
    cases e1 : dgetD d e with
    | none => rw [e1] at u2; exact u2.elim
    | some c =>
      rw [e1] at u2
      obtain ⟨p, z, rfl, hg, r⟩ := dget_V S2.sf (RD.mono x2 r1) r2 e1
      exact ⟨p, z, rfl, hg, u2 z F2 H2 (Same.refl _) S2 r⟩⟩⟩
end
/-- the keys are tuples -/
def markD : List (D × D) → Bool
  | (.none, _) :: _ => true
  | _ => false
/-- k in d -/
def inTD (d e : D) : Option D := match e with
  | .dict kvs => if markD kvs = true then none else (keyD d).map fun k => .bool (lookD k kvs).isSome
  | _ => inD d e
def ninTD (d e : D) : Option D := match e with
  | .dict kvs => if markD kvs = true then none else (keyD d).map fun k => .bool (!(lookD k kvs).isSome)
  | _ => ninD d e
def rInDct (neg : Bool) : R2 := fun y x H Q => ∃ a o, x = .ref a ∧ DGet H a y o ∧ Q (.bl (if neg = true then !o.isSome else o.isSome)) H
section
variable {X : Cx} {K : Frg}
theorem o_inT (hu : X.A.units + 65 < cLine) : OpR X (compareOp .In) (fun x y H Q => rInA X.K false x y H Q ∨ rInDct false x y H Q) := (o_in hu).or (r' := rInDct false) fun pins s σ H y x u v Q I ry rx h => by
  obtain ⟨a, o, rfl, g, q⟩ := h
  cases rx
  exact L2.d_in (by omega) I g ry fun s' I' => ⟨.bl o.isSome, H, I', rfl, q⟩
theorem o_ninT (hu : X.A.units + 65 < cLine) : OpR X (compareOp .NotIn) (fun x y H Q => rInA X.K true x y H Q ∨ rInDct true x y H Q) := (o_nin hu).or (r' := rInDct true) fun pins s σ H y x u v Q I ry rx h => by
  obtain ⟨a, o, rfl, g, q⟩ := h
  cases rx
  exact L2.d_notIn (by omega) I g ry fun s' I' => ⟨.bl (!o.isSome), H, I', rfl, q⟩
theorem inDct_V {F H : Hp} {v w : V} {d : D} {kvs : List (D × D)} {k : Key} (s : Same F H) (r1 : RD K F w d) (r2 : RD K F v (.dict kvs)) (hm : markD kvs = false) (h : keyD d = some k) : ∃ p o, v = .ref p ∧ DGet H p w o ∧ o.isSome = (lookD k kvs).isSome := by
  cases keyD_some h
  cases rd_key r1
  cases r2 with
  | dic t hl q =>
    refine ⟨_, valV _ k, rfl, .inl ⟨_, k, rd_mono s t, rfl, rfl⟩, ?_⟩
    rcases lookD_V k hl q with ⟨z1, z2⟩ | ⟨d2, u, h1, h2, h3⟩
    · rw [z1, z2]
      rfl
    · rw [h1, h2]
      rfl
  | dit t hl q => cases hm
theorem d_inT : OpD K (fun x y H Q => rInA K false x y H Q ∨ rInDct false x y H Q) inTD := by
  intro F H x y d e c Q s r1 r2 hg h
  unfold inTD at hg
  split at hg
  · rename_i kvs
    split at hg
    · cases hg
    · rename_i hm
      obtain ⟨k, e1, rfl⟩ := Option.map_eq_some_iff.mp hg
      obtain ⟨p, o, rfl, g, eo⟩ := inDct_V s r1 r2 (by simpa using hm) e1
      exact .inr ⟨p, o, rfl, g, by rw [if_neg (by simp), eo]; exact RD.ext s (.bl _) h⟩
  · exact .inl (d_in F H x y _ _ c Q s r1 r2 hg h)
theorem d_ninT : OpD K (fun x y H Q => rInA K true x y H Q ∨ rInDct true x y H Q) ninTD := by
  intro F H x y d e c Q s r1 r2 hg h
  unfold ninTD at hg
  split at hg
  · rename_i kvs
    split at hg
    · cases hg
    · rename_i hm
      obtain ⟨k, e1, rfl⟩ := Option.map_eq_some_iff.mp hg
      obtain ⟨p, o, rfl, g, eo⟩ := inDct_V s r1 r2 (by simpa using hm) e1
      exact .inr ⟨p, o, rfl, g, by rw [if_pos rfl, eo]; exact RD.ext s (.bl _) h⟩
  · exact .inl (d_nin F H x y _ _ c Q s r1 r2 hg h)
end
end DL
/-! DLo: sorted of tuples of ints. -/
namespace DL
open PySem PySem.Spec PyProof.Rows L2

/-- the order of tuples of ints -/
def lexI : List Int → List Int → Bool
  | _, [] => false
  | [], _ :: _ => true
  | a :: as, b :: bs => if a = b then lexI as bs else decide (a < b)
theorem lexI_irr : ∀ a : List Int, lexI a a = false
  | [] => rfl
  | a :: as => by
    unfold lexI
    rw [if_pos rfl]
    exact lexI_irr as
theorem lexI_asym : ∀ a b : List Int, lexI a b = true → lexI b a = false
  | [], [], h => rfl
  | [], _ :: _, _ => by unfold lexI; rfl
  | _ :: _, [], h => by unfold lexI at h; cases h
  | a :: as, b :: bs, h => by
    unfold lexI at h ⊢
    by_cases e : a = b
    · subst e
      rw [if_pos rfl] at h ⊢
      exact lexI_asym as bs h
    · rw [if_neg e] at h
      rw [if_neg (Ne.symm e)]
      simp only [decide_eq_true_eq] at h
      simp only [decide_eq_false_iff_not]
      omega
theorem lexI_tr : ∀ a b c : List Int, lexI b a = false → lexI c b = false → lexI c a = false
  | [], [], c, _, h => h
  | [], b :: bs, c, h, _ => by
    cases c with
    | nil => unfold lexI; rfl
    | cons c cs => unfold lexI; rfl
  | a :: as, [], c, h, _ => by unfold lexI at h; cases h
  | a :: as, b :: bs, [], _, h => by unfold lexI at h; cases h
  | a :: as, b :: bs, c :: cs, h1, h2 => by
    unfold lexI at h1 h2 ⊢
    by_cases e1 : b = a
    · subst e1
      rw [if_pos rfl] at h1
      by_cases e2 : c = b
      · subst e2
        rw [if_pos rfl] at h2 ⊢
        exact lexI_tr as bs cs h1 h2
      · rw [if_neg e2] at h2 ⊢
        exact h2
    · rw [if_neg e1] at h1
      simp only [decide_eq_false_iff_not] at h1
      by_cases e2 : c = b
      · subst e2
        rw [if_neg e1]
        simp only [decide_eq_false_iff_not]
        exact h1
      · rw [if_neg e2] at h2
        simp only [decide_eq_false_iff_not] at h2
        rw [if_neg (by omega)]
        simp only [decide_eq_false_iff_not]
        omega
theorem lexI_anti : ∀ a b : List Int, lexI a b = false → lexI b a = false → a = b
  | [], [], _, _ => rfl
  | [], _ :: _, h, _ => by unfold lexI at h; cases h
  | _ :: _, [], _, h => by unfold lexI at h; cases h
  | a :: as, b :: bs, h1, h2 => by
    unfold lexI at h1 h2
    by_cases e : a = b
    · subst e
      rw [if_pos rfl] at h1 h2
      rw [lexI_anti as bs h1 h2]
    · rw [if_neg e] at h1
      rw [if_neg (Ne.symm e)] at h2
      simp only [decide_eq_false_iff_not] at h1 h2
      omega
/-! ### the sorted list -/
def insT (n : List Int) : List (List Int) → List (List Int)
  | [] => [n]
  | m :: ms => if lexI m n = true then m :: insT n ms else n :: m :: ms
def srtT : List (List Int) → List (List Int)
  | [] => []
  | n :: ns => insT n (srtT ns)
abbrev LeT (a b : List Int) : Prop := lexI b a = false
theorem insT_perm (n : List Int) : ∀ ns : List (List Int), (insT n ns).Perm (n :: ns)
  | [] => List.Perm.refl _
  | m :: ms => by
    unfold insT
    split
    · exact ((insT_perm n ms).cons m).trans (List.Perm.swap n m ms)
    · exact List.Perm.refl _
theorem srtT_perm : ∀ ns : List (List Int), (srtT ns).Perm ns
  | [] => List.Perm.refl _
  | n :: ns => (insT_perm n _).trans ((srtT_perm ns).cons n)
theorem insT_pw (n : List Int) : ∀ {ns : List (List Int)}, ns.Pairwise LeT → (insT n ns).Pairwise LeT
  | [], _ => List.pairwise_singleton _ _
  | m :: ms, h => by
    unfold insT
    split
    · rename_i hl
      refine List.pairwise_cons.mpr ⟨fun a ha => ?_, insT_pw n (List.pairwise_cons.mp h).2⟩
      rcases List.mem_cons.mp ((insT_perm n ms).mem_iff.mp ha) with rfl | ha
      · exact lexI_asym _ _ hl
      · exact (List.pairwise_cons.mp h).1 a ha
    · rename_i hl
      have hl : lexI m n = false := by simpa using hl
      refine List.pairwise_cons.mpr ⟨fun a ha => ?_, h⟩
      rcases List.mem_cons.mp ha with rfl | ha
      · exact hl
      · exact lexI_tr n m a hl ((List.pairwise_cons.mp h).1 a ha)
theorem srtT_pw : ∀ ns : List (List Int), (srtT ns).Pairwise LeT
  | [] => List.Pairwise.nil
  | n :: ns => insT_pw n (srtT_pw ns)
theorem srtT_one {l l' : List (List Int)} (p : l.Perm l') (h : l.Pairwise LeT) (h' : l'.Pairwise LeT) : l = l' := p.eq_of_pairwise (fun a b _ _ h1 h2 => lexI_anti a b h2 h1) h h'
theorem srtT_id {l : List (List Int)} (h : l.Pairwise LeT) : srtT l = l := srtT_one (srtT_perm l) (srtT_pw l) h

/-! ### tuples of ints in a heap -/
def TupIs (h : Heap) (v : Value) (ns : List Int) : Prop := ∃ a o its n, v = .ref a ∧ h.get? a = some o ∧ o.cls = .type "tuple" ∧ o.data = .seq its n ∧ IntsAre its.toList ns
theorem intsAre_fun : ∀ {vs : List Value} {ns ms : List Int}, IntsAre vs ns → IntsAre vs ms → ns = ms
  | _, _, _, .nil, h => by cases h; rfl
  | _, _, _, .cons n t h, h' => by
    cases h' with
    | cons _ _ h2 => rw [intsAre_fun h h2]
theorem TupIs.fun {h : Heap} {v : Value} {ns ms : List Int} (a : TupIs h v ns) (b : TupIs h v ms) : ns = ms := by
  obtain ⟨p, o, its, n, rfl, h1, h2, h3, h4⟩ := a
  obtain ⟨q, o', its', n', e, g1, g2, g3, g4⟩ := b
  cases e
  rw [h1] at g1
  cases g1
  rw [h3] at g3
  cases g3
  exact intsAre_fun h4 g4
theorem TupIs.keep {h h' : Heap} {v : Value} {ns : List Int} (a : TupIs h v ns) (k : ∀ b o, h.get? b = some o → o.cls = .type "tuple" → h'.get? b = some o) : TupIs h' v ns := by
  obtain ⟨p, o, its, n, rfl, h1, h2, h3, h4⟩ := a
  exact ⟨p, o, its, n, rfl, k _ _ h1 h2, h2, h3, h4⟩
open Classical in
noncomputable def kkOf (h : Heap) (v : Value) : List Int := if e : ∃ ns, TupIs h v ns then e.choose else []
theorem kkOf_eq {h : Heap} {v : Value} {ns : List Int} (a : TupIs h v ns) : kkOf h v = ns := by
  have e : ∃ ns, TupIs h v ns := ⟨ns, a⟩
  unfold kkOf
  rw [dif_pos e]
  exact e.choose_spec.fun a
section
variable {prog : Program} {w : World} {A : Around} {s : Shared}
theorem lex_go {fin : Bool} (i : Nat) {xs ys : List Value} {ns ms : List Int} (hx : IntsAre xs ns) (hy : IntsAre ys ms) (hf : fin = decide (xs.length < ys.length)) :
    PySem.W.KatLex prog w A true fin (fun r s' => s' = s ∧ r = lexI ns ms) (xs.zip ys) i s := by
  induction hx generalizing ys ms i with
  | nil =>
    cases hy with
    | nil => exact PySem.W.kat_nil ⟨rfl, by rw [hf]; rfl⟩
    | cons m u h => exact PySem.W.kat_nil ⟨rfl, by rw [hf]; simp [lexI]⟩
  | cons n t h ih =>
    cases hy with
    | nil => exact PySem.W.kat_nil ⟨rfl, by rw [hf]; simp [lexI]⟩
    | cons m u h' =>
      rw [List.zip_cons_cons]
      refine PySem.W.kat_cons (SeqAt.EqAt.int_int n t m u prog w _ _ ?_)
      refine PySem.W.kat_go (fun e1 => ?_) fun e1 => ?_
      · have e : n = m := by simpa using e1
        subst e
        refine PySem.W.kat_yes ?_
        have ih' := ih (i + 1) h' (by rw [hf]; simp)
        unfold lexI
        rw [if_pos rfl]
        exact ih'
      · have e : n ≠ m := by simpa using e1
        refine PySem.W.kat_no ?_
        have g : ∀ as bs : List Int, (s = s ∧ decide (n < m) = lexI (n :: as) (m :: bs)) := fun as bs => ⟨rfl, by unfold lexI; rw [if_neg e]⟩
        cases i with
        | zero => exact oneLt_int (g _ _)
        | succ i => exact PySem.W.kat_one _ _ (PyProof.Rows.lt_int (g _ _))
theorem tup_cmp {h : Heap} {vs : List Value} (hp : ∀ v ∈ vs, ∃ ns, TupIs h v ns) (k : ∀ b o, h.get? b = some o → o.cls = .type "tuple" → s.heap.get? b = some o) :
    SrtO.Cmp prog w A s (tuples' true) (fun p => p.1 ∈ vs) (SrtO.lt2 fun v u => lexI (kkOf h v) (kkOf h u)) := by
  intro p q hm hm'
  obtain ⟨ns, t1⟩ := hp _ hm
  obtain ⟨ms, t2⟩ := hp _ hm'
  show wpAny (model prog w) A (keyLt' (tuples' true) p.1 q.1) (fun r s' => s' = s ∧ r = lexI (kkOf h p.1) (kkOf h q.1)) (fun _ _ => False) s
  rw [kkOf_eq t1, kkOf_eq t2]
  obtain ⟨a, o, its, n, e, ho, hc, hd, hi⟩ := t1
  obtain ⟨a', o', its', n', e', ho', hc', hd', hi'⟩ := t2
  rw [e, e']
  exact PySem.W.kat_lt (k _ _ ho hc) hd (k _ _ ho' hc') hd' (lex_go 0 hi hi' (by simp))
theorem firsts_tup {h : Heap} : ∀ {vs : List Value}, (∀ v ∈ vs, ∃ ns, TupIs h v ns ∧ ns ≠ []) → ∃ fs : List Value, PySem.W.KatTups h vs fs ∧ fs.length = vs.length ∧ ∀ f ∈ fs, ∃ x t, f = Value.int x t
  | [], _ => ⟨[], PySem.W.KatTups.nil, rfl, fun _ hm => by simp at hm⟩
  | v :: vs, hp => by
    obtain ⟨fs, h1, h2, h3⟩ := firsts_tup (vs := vs) fun v' hm => hp v' (List.mem_cons_of_mem _ hm)
    obtain ⟨ns, ⟨a, o, its, n, rfl, ho, hc, hd, hi⟩, hne⟩ := hp v List.mem_cons_self
    obtain ⟨l⟩ := its
    cases hi with
    | nil => exact absurd rfl hne
    | cons x t _ =>
      refine ⟨.int x t :: fs, PySem.W.KatTups.cons ho hc hd rfl h1, by simp [h2], fun f hm => ?_⟩
      rcases List.mem_cons.mp hm with rfl | hm
      · exact ⟨x, t, rfl⟩
      · exact h3 f hm
end
def rSortedT (K : Frg) : List V → Hp → VK → Prop := fun vs H Q => ∃ (a : Addr) (xs : List V) (nss : List (List Int)), vs = [.ref a] ∧ SqL K H a xs ∧ xs.length = nss.length ∧ (∀ (i : Nat) x ns, xs[i]? = some x → nss[i]? = some ns → ∃ t, x = .ref t ∧ SqT K H t (ns.map V.int) ∧ ns ≠ []) ∧
  ∀ (ys : List V) (mss : List (List Int)) (p : Addr), ys.length = mss.length → (ys.zip mss).Perm (xs.zip nss) → mss.Pairwise LeT → H p = none → Q (.ref p) (upd H p (.lst ys))
theorem cr_sortedT {X : Cx} : CallR X (.builtin "sorted") (DL.rSortedT X.K) := by
  intro pins s σ H vs us Q I r h
  obtain ⟨a, xs, nss, rfl, hs, hlen, hx, q⟩ := h
  obtain ⟨its, rv, hl, hz⟩ := I.list hs
  rw [Vals.ref1 r]
  have hx1 : ∀ x ∈ xs, ∃ t, x = V.ref t := fun x m => by
    obtain ⟨i, hi⟩ := List.mem_iff_getElem?.mp m
    have hil := (List.getElem?_eq_some_iff.mp hi).1
    obtain ⟨t, e, _⟩ := hx i x nss[i] hi (List.getElem?_eq_getElem (by omega))
    exact ⟨t, e⟩
  obtain ⟨e1, e2⟩ := refs_back rv hx1
  have hT0 : ∀ (i : Nat) v, its[i]? = some v → ∃ ns, nss[i]? = some ns ∧ TupIs s.heap v ns ∧ ns ≠ [] := fun i v hv => by
    have hil := (List.getElem?_eq_some_iff.mp hv).1
    have hil2 : i < nss.length := by
      have h1 := congrArg List.length e1
      rw [List.length_map] at h1
      omega
    obtain ⟨t, e, hq, hn⟩ := hx i (backV v) nss[i] (by rw [e1, List.getElem?_map, hv]; rfl) (List.getElem?_eq_getElem hil2)
    obtain ⟨a', rfl⟩ := e2 v (List.mem_of_getElem? hv)
    cases e
    obtain ⟨it2, r2, ⟨o, ho, hc, n, hd⟩, _⟩ := I.tuple hq
    exact ⟨_, List.getElem?_eq_getElem hil2, ⟨_, o, it2.toArray, n, rfl, ho, hc, hd, by simpa using r2.ints⟩, hn⟩
  have hT : ∀ v ∈ its, TupIs s.heap v (kkOf s.heap v) ∧ kkOf s.heap v ≠ [] := fun v hv => by
    obtain ⟨i, hi⟩ := List.mem_iff_getElem?.mp hv
    obtain ⟨ns, _, h2, h3⟩ := hT0 i v hi
    rw [kkOf_eq h2]
    exact ⟨h2, h3⟩
  have ek : nss = its.map (kkOf s.heap) := by
    apply List.ext_getElem?
    intro i
    rw [List.getElem?_map]
    cases e : its[i]? with
    | none =>
      have h1 := congrArg List.length e1
      rw [List.length_map] at h1
      have := List.getElem?_eq_none_iff.mp e
      rw [List.getElem?_eq_none (by omega)]
      rfl
    | some v =>
      obtain ⟨ns, h1, h2, _⟩ := hT0 i v e
      rw [h1]
      exact congrArg some (kkOf_eq h2).symm
  have O : SrtO.Swo fun v u => lexI (kkOf s.heap v) (kkOf s.heap u) := ⟨fun x y h => lexI_asym _ _ h, fun x y z h1 h2 => lexI_tr _ _ _ h1 h2⟩
  refine SrtO.sorted_ord O hl.isList (by rw [← rv.length]; exact hz) (fun h2 h₁ a' ha kk h' keep => ?_) fun out hso hb => ?_
  · have kp : ∀ b o, s.heap.get? b = some o → o.cls = .type "tuple" → h'.get? b = some o := fun b o e c => keep b o (kk b o e).1 (kk b o e).2
    obtain ⟨fs, g1, g2, g3⟩ := firsts_tup (h := h') (vs := its) fun v hv => ⟨_, (hT v hv).1.keep kp, (hT v hv).2⟩
    refine ⟨tuples' true, fun Q' E' hq => ?_, tup_cmp (fun v hv => ⟨_, (hT v hv).1⟩) kp⟩
    refine PySem.W.kat_kind (T := .type "int") g1 (by omega) (fun u hm => ?_) (by rfl) ?_
    · obtain ⟨x, t, rfl⟩ := g3 u hm
      exact PySem.W.Looks.now
    · rw [show (Value.type "int" != Value.type "tuple") = true by first | decide +kernel | rfl | decide]
      exact hq
  · have h3 : ∀ u ∈ out, ∃ a, u = Value.ref a := fun u hu => e2 u (hb.perm.mem_iff.mp hu)
    obtain ⟨n, hn⟩ := sortedAll_at s.heap its out.toArray
    have zm : ∀ l : List Value, (l.map backV).zip (l.map (kkOf s.heap)) = l.map fun v => (backV v, kkOf s.heap v) := fun l => by
      rw [List.zip_map', ]
    have pm : (out.map backV).Perm xs := by
      rw [e1]
      exact hb.perm.map backV
    refine ⟨.ref _, upd H (s.heap.objs.size + 1) (.lst (out.map backV)), I.laid (t' := s.toks) (fun b o e => sortedAll_old e) (Nat.le_succ _) ⟨?_, out, n, vals_back h3, hn⟩, rfl, q _ (out.map (kkOf s.heap)) _ (by simp) ?_ ?_ (I.hok.fresh (Nat.le_succ _))⟩
    · rw [pm.length_eq]
      exact hz
    · rw [e1, ek, zm, zm]
      exact hb.perm.map _
    · exact List.pairwise_map.mpr hso
/-! ### as data -/
def asT : D → Option (List Int)
  | .tuple xs => match intsD xs with
    | some [] => none
    | r => r
  | _ => none
abbrev tupI (ns : List Int) : D := .tuple (ns.map PyData.int)
theorem asT_some {d : D} {ns : List Int} (h : asT d = some ns) : d = tupI ns ∧ ns ≠ [] := by
  unfold asT at h
  split at h
  · rename_i xs
    split at h
    · cases h
    · rename_i hne
      cases intsD_some h
      refine ⟨rfl, fun e => ?_⟩
      subst e
      exact hne h
  · cases h
theorem allT_ne : ∀ {xs : List D} {nss : List (List Int)}, allM asT xs = some nss → ∀ ns ∈ nss, ns ≠ []
  | [], nss, e => by
    cases e
    exact fun _ h => by cases h
  | x :: xs, nss, e => by
    unfold allM at e
    cases e1 : asT x with
    | none => rw [e1] at e; cases e
    | some a =>
      rw [e1] at e
      cases e2 : allM asT xs with
      | none => rw [Option.bind_some, e2] at e; cases e
      | some bs =>
        rw [Option.bind_some, e2] at e
        cases e
        intro ns hm
        rcases List.mem_cons.mp hm with rfl | hm
        · exact (asT_some e1).2
        · exact allT_ne e2 ns hm
def sortTO : List D → Option O
  | [.list xs] => match intsD xs with
    | some ns => some (.l ((srtI ns).map PyData.int))
    | none => (allM asT xs).map fun ns => .l ((srtT ns).map tupI)
  | _ => none
theorem b_sortT {K : Frg} : CallO K (fun vs H Q => rSortedI K vs H Q ∨ DL.rSortedT K vs H Q) sortTO := by
  intro F H vs ds c Q s r hg h
  unfold sortTO at hg
  split at hg
  · rename_i xs
    split at hg
    · rename_i ns e
      cases hg
      exact .inl (b_sortI F H vs _ _ Q s r (by show Option.map _ (intsD xs) = _; rw [e]; rfl) h)
    · obtain ⟨nss, e, rfl⟩ := Option.map_eq_some_iff.mp hg
      have ex := allM_map (g := tupI) (fun d a q => (asT_some q).1) e
      have en : ∀ ns ∈ nss, ns ≠ [] := allT_ne e
      subst ex
      obtain ⟨v, rfl, r1⟩ := r.inv1
      obtain ⟨a, ys, rfl, t, z, q⟩ := r1.invL
      have hR : ∀ (i : Nat) x ns, ys[i]? = some x → nss[i]? = some ns → RD K F x (tupI ns) := fun i x ns h1 h2 => by
        obtain ⟨d, h3, h4⟩ := q.getV h1
        rw [List.getElem?_map, h2] at h3
        cases h3
        exact h4
      have hl : ys.length = nss.length := by
        have := q.length
        rw [List.length_map] at this
        exact this
      refine .inr ⟨a, ys, nss, rfl, .inl (rd_mono s t), hl, fun i x ns h1 h2 => ?_, fun zs mss p hzl hp hw hn => ?_⟩
      · obtain ⟨t', zs, rfl, t2, z2, q2⟩ := (hR i x ns h1 h2).invT
        cases RDs.of_ints q2
        exact ⟨t', rfl, sqT_mono s t2, en _ (List.mem_of_getElem? h2)⟩
      · have em : mss.Perm nss := by
          have p2 := hp.map Prod.snd
          rw [List.map_snd_zip (by omega), List.map_snd_zip (by omega)] at p2
          exact p2
        have ez : mss = srtT nss := srtT_one (em.trans (srtT_perm nss).symm) hw (srtT_pw nss)
        have hz : zs.length ≤ sizeLine := by rw [hzl, em.length_eq, ← hl]; exact z
        refine newO s hz ?_ h p hn
        rw [← ez]
        refine RDs.of_get (by simpa using hzl) fun i v d h1 h2 => ?_
        rw [List.getElem?_map] at h2
        obtain ⟨ns, h3, rfl⟩ := Option.map_eq_some_iff.mp h2
        have hm : (v, ns) ∈ zs.zip mss := List.mem_of_getElem? (i := i) (List.getElem?_zip_eq_some.mpr ⟨h1, h3⟩)
        obtain ⟨j, hj⟩ := List.mem_iff_getElem?.mp (hp.mem_iff.mp hm)
        obtain ⟨g1, g2⟩ := List.getElem?_zip_eq_some.mp hj
        exact hR j v ns g1 g2
  · cases hg
end DL
/-! DLp: a dict comprehension of two clauses without tests. -/
namespace DL
open PySem PySem.Spec PyProof.Rows L2

section
variable {kx vx t0 i0 t1 i1 : Expr} {scope : Scope} {pos : Pos}
abbrev dcE (kx vx t0 i0 t1 i1 : Expr) (scope : Scope) (pos : Pos) : Expr := .DictComp kx vx [⟨t0, i0, [], 0⟩, ⟨t1, i1, [], 0⟩] scope pos
theorem dturn_out (it : Value) (D : Addr) (env : Env) : compTurn (dcE kx vx t0 i0 t1 i1 scope pos) 0 it (.ref D) env = (do
    standAt i0.pos
    match ← pyNext it with
    | none => pure (.done .next)
    | some v =>
      letOwnedTupleGo t0 it v
      assign t0 env v
      let x ← eval i1 env
      standAt i1.pos
      let x ← foldedSetIterable i1 env x
      let _ ← runOwn (.compStart (dcE kx vx t0 i0 t1 i1 scope pos) 1 (← holding [x] (pyIter x)) (.ref D) env) env
      again (.compLoop (dcE kx vx t0 i0 t1 i1 scope pos) 0 it (.ref D) env)) := by rfl
theorem dturn_in (it : Value) (D : Addr) (env : Env) : compTurn (dcE kx vx t0 i0 t1 i1 scope pos) 1 it (.ref D) env = (do
    standAt i1.pos
    match ← pyNext it with
    | none => pure (.done .next)
    | some v =>
      letOwnedTupleGo t1 it v
      assign t1 env v
      (do
        let kv ← eval kx env
        let vv ← holding [kv] (eval vx env)
        standAt { kx.pos with endLine := vx.pos.endLine, endCol := vx.pos.endCol }
        holding [kv, vv] (dictSet D kv vv))
      again (.compLoop (dcE kx vx t0 i0 t1 i1 scope pos) 1 it (.ref D) env)) := by rfl
variable {prog : Program} {w : World} {A : Around} {R : Result → Shared → Prop} {s : Shared} {it : Value} {D : Addr} {env : Env}
abbrev NB (prog : Program) (w : World) (A : Around) (env : Env) (R : Result → Shared → Prop) : Value → Shared → Prop := notedBy (model prog w) A env fun e s' => R (.error e) s'
theorem dloop_out (hs : ∀ x, foldedSetIterable i1 env x = pure x) (I : Nat → Shared → Prop)
    (turn : ∀ n s, I n s → wpAny (model prog w) A (pyNext it) (fun r s₁ => match r with
      | none => R (.ok .next) s₁
      | some v => wpAny (model prog w) A (letOwnedTupleGo t0 it v) (fun _ s₂ => wpAny (model prog w) A (assign t0 env v) (fun _ s₃ => wpAny (model prog w) A (eval i1 env) (fun x s₄ =>
          wpAny (model prog w) A (pyIter x) (fun it1 s₅ => codeAny (model prog w) A (.compStart (dcE kx vx t0 i0 t1 i1 scope pos) 1 it1 (.ref D) env) (fun r s' => match r with
            | .ok _ => ∃ m, m < n ∧ I m s'
            | .error _ => False) s₅) (NB prog w A env R) s₄) (NB prog w A env R) s₃) (NB prog w A env R) s₂) (NB prog w A env R) s₁) (NB prog w A env R) s)
    (n : Nat) (h : I n s) : codeAny (model prog w) A (.compLoop (dcE kx vx t0 i0 t1 i1 scope pos) 0 it (.ref D) env) R s := by
  refine codeAny_loop rfl I (fun n s hI => ?_) n h
  show wpAny _ A ((compTurn (dcE kx vx t0 i0 t1 i1 scope pos) 0 it (.ref D) env).onRaise (fun x => do noteFrame x env; theTreesLotGoes x)) _ _ s
  refine wpAny_noted ?_
  rw [dturn_out]
  refine wpAny_bind (wpAny_standAt (wpAny_bind (wpAny_mono (turn n s hI) (fun r s₁ g1 => ?_) fun _ _ z => z)))
  cases r with
  | none => exact wpAny_pure g1
  | some v =>
    refine wpAny_bind (wpAny_mono g1 (fun _ s₂ g2 => ?_) fun _ _ z => z)
    refine wpAny_bind (wpAny_mono g2 (fun _ s₃ g3 => ?_) fun _ _ z => z)
    refine wpAny_bind (wpAny_mono g3 (fun x s₄ g4 => ?_) fun _ _ z => z)
    refine wpAny_bind (wpAny_standAt (wpAny_bind (wpAny_of_eq (hs x) (wpAny_bind (wpAny_holding (wpAny_mono g4 (fun it1 s₅ g5 => ?_) fun _ _ z => z))))))
    refine wpAny_bind (wpAny_runOwn ?_)
    rw [Around.mark_none]
    refine codeAny_mono g5 fun r s' hr => ?_
    cases r with
    | ok f =>
      first
        | exact wpAny_pure ⟨rfl, hr⟩
        | exact wpAny_bind (wpAny_pure (wpAny_pure ⟨rfl, hr⟩))
    | error e => exact hr.elim
theorem dloop_in (I : Nat → Shared → Prop)
    (turn : ∀ n s, I n s → wpAny (model prog w) A (pyNext it) (fun r s₁ => match r with
      | none => R (.ok .next) s₁
      | some v => wpAny (model prog w) A (letOwnedTupleGo t1 it v) (fun _ s₂ => wpAny (model prog w) A (assign t1 env v) (fun _ s₃ => wpAny (model prog w) A (eval kx env) (fun kv s₄ => wpAny (model prog w) A (eval vx env) (fun vv s₅ =>
          wpAny (model prog w) A (dictSet D kv vv) (fun _ s₆ => ∃ m, m < n ∧ I m s₆) (NB prog w A env R) s₅) (NB prog w A env R) s₄) (NB prog w A env R) s₃) (NB prog w A env R) s₂) (NB prog w A env R) s₁) (NB prog w A env R) s)
    (n : Nat) (h : I n s) : codeAny (model prog w) A (.compLoop (dcE kx vx t0 i0 t1 i1 scope pos) 1 it (.ref D) env) R s := by
  refine codeAny_loop rfl I (fun n s hI => ?_) n h
  show wpAny _ A ((compTurn (dcE kx vx t0 i0 t1 i1 scope pos) 1 it (.ref D) env).onRaise (fun x => do noteFrame x env; theTreesLotGoes x)) _ _ s
  refine wpAny_noted ?_
  rw [dturn_in]
  refine wpAny_bind (wpAny_standAt (wpAny_bind (wpAny_mono (turn n s hI) (fun r s₁ g1 => ?_) fun _ _ z => z)))
  cases r with
  | none => exact wpAny_pure g1
  | some v =>
    refine wpAny_bind (wpAny_mono g1 (fun _ s₂ g2 => ?_) fun _ _ z => z)
    refine wpAny_bind (wpAny_mono g2 (fun _ s₃ g3 => ?_) fun _ _ z => z)
    refine wpAny_bind (wpAny_bind (wpAny_mono g3 (fun kv s₄ g4 => ?_) fun _ _ z => z))
    refine wpAny_bind (wpAny_holding (wpAny_mono g4 (fun vv s₅ g5 => ?_) fun _ _ z => z))
    exact wpAny_bind (wpAny_standAt (wpAny_holding (wpAny_mono g5 (fun _ s₆ g6 => wpAny_pure ⟨rfl, g6⟩) fun _ _ z => z)))
theorem dstart1 (h0 : codeAny (model prog w) A (.compLoop (dcE kx vx t0 i0 t1 i1 scope pos) 1 it (.ref D) env) R s)
    (h : wpAny (model prog w) A (pyIter it) (fun it' s' => codeAny (model prog w) A (.compLoop (dcE kx vx t0 i0 t1 i1 scope pos) 1 it' (.ref D) env) R s') (NB prog w A env R) s) :
    codeAny (model prog w) A (.compStart (dcE kx vx t0 i0 t1 i1 scope pos) 1 it (.ref D) env) R s := by
  refine codeAny_of_tree ?_
  show wpAny _ _ ((compStart (dcE kx vx t0 i0 t1 i1 scope pos) 1 it (.ref D) env).onRaise (fun x => do noteFrame x env; standAt theWindowsPlace)) _ _ s
  refine wpAny_notedAt ?_
  unfold compStart
  show wpAny _ _ (ask >>= _) _ _ s
  refine wpAny_bind (wpAny_askSetting (wpAny_ite ?_))
  split
  · first
      | exact wpAny_bind (wpAny_pure (wpAny_pure (And.intro rfl h0)))
      | exact wpAny_pure (And.intro rfl h0)
  · refine wpAny_bind (wpAny_rule ?_)
    first
      | exact wpAny_bind (wpAny_standAt (wpAny_bind (wpAny_mono h (fun it' s' h' => wpAny_pure (And.intro rfl h')) fun _ _ x => x)))
      | (show wpAny _ _ (standAt i1.pos >>= _) _ _ s; exact wpAny_bind (wpAny_standAt (wpAny_bind (wpAny_mono h (fun it' s' h' => wpAny_pure (And.intro rfl h')) fun _ _ x => x))))
end

/-- what a put does: y: the key, z: the value, D: the dict -/
abbrev PutT := V → V → Addr → Hp → (Hp → Prop) → Prop
def tDd (o0 : HO) (put : PutT) (wi : TI) (g : TG) (wi1 : TI) (g1 : TG) (tk tv : TE) (vs vs1 : List Nat) : TE := fun σ H Q => wi σ H fun J H1 => ∀ D, H1 D = none → ∃ W : Nat → Nat → Hp → Prop, (∃ m, W 0 m (upd H1 D o0)) ∧ ∀ i m H, W i m H →
  (J.stop i H ∧ Q (.ref D) H) ∨ (J.go i H ∧ ∃ Nx : Hp → Prop, (∀ H', Nx H' → ∃ m', m' < m ∧ W (i + 1) m' H') ∧ ∀ x H', J.yld i H x H' → g x (wipe σ vs) H' fun σ2 H2 => wipe σ2 vs = wipe σ vs ∧
    wi1 σ2 H2 fun J1 H4 => ∃ W1 : Nat → Nat → Hp → Prop, (∃ m, W1 0 m H4) ∧ ∀ j k H, W1 j k H →
      (J1.stop j H ∧ Nx H) ∨ (J1.go j H ∧ ∃ Nx1 : Hp → Prop, (∀ H', Nx1 H' → ∃ k', k' < k ∧ W1 (j + 1) k' H') ∧ ∀ x H', J1.yld j H x H' → g1 x (wipe σ2 vs1) H' fun σ3 H5 => wipe σ3 vs1 = wipe σ2 vs1 ∧
        tk σ3 H5 fun y H6 => tv σ3 H6 fun z H7 => put y z D H7 Nx1))
/-- the put is sound -/
def PutOk (P : Program) (w : World) (K : Frg) (put : PutT) : Prop := ∀ (X : Cx), X.prog = P → X.w = w → X.K = K → ∀ (pins : List (Addr × Obj)) (σ : Sl) (H : Hp) (s : Shared) (E : Value → Shared → Prop) (y z : V) (u r : Value) (D : Addr) (Nx : Hp → Prop) (Q : Unit → Shared → Prop),
  Inv X pins σ H s → RelV y u → RelV z r → put y z D H Nx → (∀ s' H', Inv X pins σ H' s' → Nx H' → Q () s') → wpAny (model P w) X.A (dictSet D u r) Q E s
theorem put_k {P : Program} {w : World} {K : Frg} : PutOk P w K fun y z D H Nx => ∃ kvs k, y = kV k ∧ H D = some (.dK kvs) ∧ kvs.length < sizeLine ∧ Nx (upd H D (.dK (putK kvs k z))) := by
  intro X e1 e2 e3 pins σ H s E y z u r D Nx Q I ry rz h q
  subst e1 e2 e3
  obtain ⟨kvs, k, rfl, hD, hz, nx⟩ := h
  exact d_dictSet I hD hz ry rz fun s' I' => q s' _ I' nx
section
variable {X : Cx}
theorem dd_core {pins : List (Addr × Obj)} {s : Shared} {σ : Sl} {H : Hp} {Q : VK} {kx vx tg iter tg1 iter1 : Expr} {scope : Scope} {own : List (Str × Nat)} {vs1 : List Nat} {pos pos' : Pos} {o0 : HO} {put : PutT} {wi wi1 : TI} {g g1 : TG} {tk tv : TE} {use : Option (Value → Sem Unit)} {Qf : Value → Shared → Prop}
    (hc : X.calm = true) (hN : X.N.Nodup) (I : Inv X pins σ H s) (hi : PI X tg iter wi) (ok : BlkOk X.N X.env.scope scope own) (hv : ∀ i ∈ vs1, i ∈ own.map (·.2)) (hp : PutOk X.prog X.w X.K put)
    (h0 : ∀ (H : Hp) (h : Heap), sysModules < h.objs.size → ObjOk X.prog X.w H (h.push { cls := .type "dict", data := .dict #[] }) h.objs.size o0)
    (hg : Blk X scope fun Y => PG Y tg g) (hi1 : Blk X scope fun Y => PI Y tg1 iter1 wi1) (hg1 : Blk X scope fun Y => PG Y tg1 g1) (hk : Blk X scope fun Y => PE Y kx tk) (he : Blk X scope fun Y => PE Y vx tv)
    (hs : ∀ x, foldedSetIterable iter X.env x = pure x) (hs1 : ∀ env x, foldedSetIterable iter1 env x = pure x) (h : tDd o0 put wi g wi1 g1 tk tv (own.map (·.2)) vs1 σ H Q)
    (hRR : ∀ D C s' m H', Inv X pins σ H' s' → Q (.ref D) H' → s'.heap.Ns C m → FpOk X pins H' C → compPost (model X.prog X.w) X.A X.xe use Qf (.ref D) C (.ok .next) s') :
    wpAny (model X.prog X.w) X.A (comprehension (dcE kx vx tg iter tg1 iter1 scope pos) scope X.env pos' newDict false (eval iter X.env) use) Qf X.xe s := by
  refine wpAny_comprehension_free (use := use) rfl hs (closure_ok fun y hy e => (ok.free y hy e).elim (fun k => I.ok.has _ (.inl k)) fun k => I.ok.has _ (.inr k)) ok.kind (fun y hy e => by rw [ok.uniq y hy, e])
    (thn (hi.run pins s σ H _ I h) fun _ _ hx => thn hx fun _ s2 ⟨it, fp, tn, J, H2, e, I2, T, st2, f2, q⟩ => ?_)
  subst e
  refine wpAny_newObj_type (newEnv_comp ?_)
  generalize hD : s2.heap.objs.size = D
  obtain ⟨W, ⟨m0, w0⟩, turn⟩ := q D (I2.hok.fresh (Nat.le_of_eq hD))
  generalize hs3 : ({ s2 with heap := s2.heap.push { cls := .type "dict", data := .dict #[] } } : Shared) = s3
  have h3 : s3.heap = s2.heap.push { cls := .type "dict", data := .dict #[] } := by rw [← hs3]
  have I3 : Inv X pins σ (upd H2 D o0) s3 := by
    rw [← hs3]
    refine I2.laid (t' := s2.toks) (fun b o e => Heap.get?_push_of_some _ e) (Nat.le_of_eq hD) ?_
    rw [← hD]
    exact h0 _ s2.heap I2.big
  have f3 : ∀ b ∈ fp, FpOk X pins (upd H2 D o0) b ∧ b < s3.heap.objs.size := fun b hb => by
    obtain ⟨o, e, _⟩ := T.obj _ _ st2 b hb
    have hlt := Heap.lt_size e
    refine ⟨⟨?_, (f2 b hb).2⟩, by rw [h3, Heap.size_push]; exact Nat.lt_succ_of_lt hlt⟩
    rw [upd_ne (by rw [← hD]; exact Nat.ne_of_lt hlt)]
    exact (f2 b hb).1
  have st3 : tn 0 s3.heap := T.keep _ _ _ st2 fun b _ o e => by rw [h3]; exact Heap.get?_push_of_some _ e
  have I4 := block_start I3 ok hN f3
  let cl := cellsFrom (s3.heap.objs.size + 1) scope.names (cloFrom X.env.cells scope.names [])
  have pg := hg s3 (upd H2 D o0) s3.heap.objs.size cl fp
  have pi1 := hi1 s3 (upd H2 D o0) s3.heap.objs.size cl fp
  have pg1 := hg1 s3 (upd H2 D o0) s3.heap.objs.size cl fp
  have pk := hk s3 (upd H2 D o0) s3.heap.objs.size cl fp
  have pe := he s3 (upd H2 D o0) s3.heap.objs.size cl fp
  show codeAny _ _ (.compStart (dcE kx vx tg iter tg1 iter1 scope pos) 0 (.ref it) (.ref D) (compEnvC scope cl s3.heap.objs.size X.env)) (compPost (model X.prog X.w) X.A X.xe use Qf (.ref D) s3.heap.objs.size) { s3 with heap := pushCells (s3.heap.push { cls := .type "dict", data := .dict #[] }) scope.names }
  have nfp : ∀ b ∈ fp, (upd H2 D o0) b = none := fun b hb => (f3 b hb).1.1
  have I4 : Inv (X.blk s3 (upd H2 D o0) scope (compEnvC scope cl s3.heap.objs.size X.env) fp) _ _ _ _ := I4
  generalize hce : compEnvC scope cl s3.heap.objs.size X.env = ce at I4 pg pi1 pg1 pk pe ⊢
  have cL : ce.locals = s3.heap.objs.size := by subst hce; rfl
  generalize hH3 : upd H2 D o0 = H3 at I3 I4 pg pi1 pg1 pk pe w0 nfp f3
  generalize hs4 : ({ s3 with heap := pushCells (s3.heap.push { cls := .type "dict", data := .dict #[] }) scope.names } : Shared) = s4 at I4 ⊢
  have st4 : tn 0 s4.heap := T.keep _ _ _ st3 fun b _ o e => by rw [← hs4]; exact pushCells_keeps _ _ _ _ (Heap.get?_push_of_some _ e)
  have stat : ∀ {σ' : Sl} {H' : Hp} {s' : Shared}, Inv (X.blk s3 H3 scope ce fp) [] σ' H' s' → (∀ b ∈ fp, H' b = none) → ∀ b ∈ fp, FpOk (X.blk s3 H3 scope ce fp) [] H' b := fun {σ' H' s'} I' hn b hb =>
    ⟨hn b hb, (I'.ok.exf b hb).1, I'.ok.exfs b hb, .inl hb, fun x c e => (I'.ok.exf b hb).2 x c e, fun p hp => absurd (show p ∈ ([] : List (Addr × Obj)) ++ [] from hp) (by simp)⟩
  -- what holds between the turns of the outer loop
  let Out : Nat → Shared → Prop := fun n s' => ∃ i H', Inv (X.blk s3 H3 scope ce fp) [] (wipe σ (own.map (·.2))) H' s' ∧ tn i s'.heap ∧ (∀ b ∈ fp, H' b = none) ∧ W i n H'
  have loop : codeAny (model X.prog X.w) X.A (.compLoop (dcE kx vx tg iter tg1 iter1 scope pos) 0 (.ref it) (.ref D) ce) (compPost (model X.prog X.w) X.A X.xe use Qf (.ref D) s3.heap.objs.size) s4 := by
    refine dloop_out (hs1 ce) Out ?_ m0 ⟨0, H3, I4, st4, nfp, w0⟩
    rintro n s5 ⟨i, H5, I5, st5, n5, w5⟩
    rcases turn i n H5 w5 with ⟨stop, qq⟩ | ⟨go, Nx, hNx, step⟩
    · refine thnF (T.done (X.blk s3 H3 scope ce fp) rfl rfl rfl hc i [] s5 _ H5 (fun _ _ => False) I5 (stat I5 n5) st5 stop) fun r s6 ⟨hr, I6⟩ => ?_
      subst hr
      have I7 : Inv X pins σ H5 s6 := I3.call' (ch := fp) I6.os I6.base I6.hok I6.bare fun b hb => ⟨(f3 b hb).1.2.2.2.1, (f3 b hb).1.2.1, (f3 b hb).1.2.2.2.2.1, (f3 b hb).1.2.2.2.2.2⟩
      have nC : H5 ce.locals = none := I6.free
      obtain ⟨m, hn, _⟩ := I6.loc
      have hn : s6.heap.Ns ce.locals m := hn
      rw [cL] at hn nC
      exact hRR D s3.heap.objs.size s6 m H5 I7 qq hn (I3.fpOk (Nat.le_refl _) nC)
    · refine thnF (T.item (X.blk s3 H3 scope ce fp) rfl rfl rfl hc i [] s5 _ H5 (fun _ _ => False) I5 (stat I5 n5) st5 go) fun r s6 ⟨u, hr, h6⟩ => ?_
      subst hr
      refine thnF h6 fun _ s7 ⟨x, H7, I7, r7, y7, st7, n7⟩ => ?_
      refine thnF (pg.run _ s7 _ H7 x u _ (I7.pinned (stat I7 n7) (T.obj _ _ st7)) r7 (step x H7 y7)) fun _ s8 ⟨σ8, H8, I8, hw8, q8⟩ => ?_
      refine thnF (pi1.run _ s8 σ8 H8 _ I8 q8) fun _ _ hx => thnF hx fun _ s11 ⟨it1, fp1, tn1, J1, H11, e1, I11, T1, st11, f11, W1, ⟨m1, w1⟩, turn1⟩ => ?_
      subst e1
      have back : ∀ {s' : Shared} {H' : Hp}, Inv (X.blk s3 H3 scope ce fp) ([] ++ pinsAt fp s7.heap) (wipe σ8 vs1) H' s' → Nx H' → ∃ m, m < n ∧ Out m s' := fun {s' H'} I' nx => by
        obtain ⟨m', hm, w'⟩ := hNx H' nx
        have kp : ∀ b ∈ fp, ∀ o, s7.heap.get? b = some o → s'.heap.get? b = some o ∧ H' b = none := fun b hb o e =>
          let z := I'.pin (b, o) (List.mem_append_right _ (List.mem_append_right _ (mem_pinsAt hb e)))
          ⟨z.1, z.2.1⟩
        refine ⟨m', hm, i + 1, H', (I'.unpinned (pins := [])).weak (by have e := congrArg List.length hw8; rw [wipe_length, wipe_length] at e; rw [wipe_length, wipe_length]; exact e.symm) (fun j v e => ?_), T.keep _ _ _ st7 fun b hb o e => (kp b hb o e).1, fun b hb => ?_, w'⟩
        · rw [← hw8] at e
          obtain ⟨e1, e2⟩ := wipe_some e
          rw [wipe_out fun z => e2 (hv j z)]
          exact e1
        · obtain ⟨o, e, _⟩ := T.obj _ _ st7 b hb
          exact (kp b hb o e).2
      have stat1 : ∀ {H' : Hp}, (∀ b ∈ fp1, H' b = none) → ∀ b ∈ fp1, FpOk (X.blk s3 H3 scope ce fp) ([] ++ pinsAt fp s7.heap) H' b := fun hn b hb => ⟨hn b hb, (f11 b hb).2⟩
      let In : Nat → Shared → Prop := fun k s' => ∃ j H', Inv (X.blk s3 H3 scope ce fp) ([] ++ pinsAt fp s7.heap) (wipe σ8 vs1) H' s' ∧ tn1 j s'.heap ∧ (∀ b ∈ fp1, H' b = none) ∧ W1 j k H'
      have loop1 : codeAny (model X.prog X.w) X.A (.compLoop (dcE kx vx tg iter tg1 iter1 scope pos) 1 (.ref it1) (.ref D) ce) (fun r s' => match r with
          | .ok _ => ∃ m, m < n ∧ Out m s'
          | .error _ => False) s11 := by
        refine dloop_in In ?_ m1 ⟨0, H11, I11.weak (wipe_length _ _) (fun j v e => (wipe_some e).1), st11, fun b hb => (f11 b hb).1, w1⟩
        rintro k s12 ⟨j, H12, I12, st12, n12, w12⟩
        rcases turn1 j k H12 w12 with ⟨stop1, nx1⟩ | ⟨go1, Nx1, hNx1, step1⟩
        · refine thnF (T1.done (X.blk s3 H3 scope ce fp) rfl rfl rfl hc j _ s12 (wipe σ8 vs1) H12 (fun _ _ => False) I12 (stat1 n12) st12 stop1) fun r s13 ⟨hr, I13⟩ => ?_
          subst hr
          exact back I13 nx1
        · refine thnF (T1.item (X.blk s3 H3 scope ce fp) rfl rfl rfl hc j _ s12 (wipe σ8 vs1) H12 (fun _ _ => False) I12 (stat1 n12) st12 go1) fun r s13 ⟨u1, hr, h13⟩ => ?_
          subst hr
          refine thnF h13 fun _ s14 ⟨x1, H14, I14, r14, y14, st14, n14⟩ => ?_
          refine thnF (pg1.run _ s14 (wipe σ8 vs1) H14 x1 u1 _ (I14.pinned (stat1 n14) (T1.obj _ _ st14)) r14 (step1 x1 H14 y14)) fun _ s15 ⟨σ15, H15, I15, hw15, q15⟩ => ?_
          refine thnF (pk.run _ s15 σ15 H15 _ I15 q15) fun ku s16 ⟨ky, H16, I16, r16, q16⟩ => ?_
          refine thnF (pe.run _ s16 σ15 H16 _ I16 q16) fun zu s17 ⟨zv, H17, I17, r17, q17⟩ => ?_
          refine hp (X.blk s3 H3 scope ce fp) rfl rfl rfl _ _ _ _ _ _ _ _ _ _ _ _ I17 r16 r17 q17 fun s' H' I' nx => ?_
          obtain ⟨m', hm, w'⟩ := hNx1 H' nx
          have kp : ∀ b ∈ fp1, ∀ o, s14.heap.get? b = some o → s'.heap.get? b = some o ∧ H' b = none := fun b hb o e =>
            let z := I'.pin (b, o) (List.mem_append_right _ (List.mem_append_right _ (mem_pinsAt hb e)))
            ⟨z.1, z.2.1⟩
          refine ⟨m', hm, j + 1, H', I'.unpinned.weak (by rw [← hw15, wipe_length]) (fun j v e => by rw [← hw15] at e; exact (wipe_some e).1), T1.keep _ _ _ st14 fun b hb o e => (kp b hb o e).1, fun b hb => ?_, w'⟩
          obtain ⟨o, e, _⟩ := T1.obj _ _ st14 b hb
          exact (kp b hb o e).2
      exact dstart1 loop1 (T1.self X.A 0 _ _ _ st11 loop1)
  exact codeAny_compStart_dict loop (T.self X.A 0 _ _ _ st4 loop)
theorem pe_dd {kx vx tg iter tg1 iter1 : Expr} {scope : Scope} {own : List (Str × Nat)} {vs1 : List Nat} {pos : Pos} {o0 : HO} {put : PutT} {wi wi1 : TI} {g g1 : TG} {tk tv : TE}
    (hc : X.calm = true) (hN : X.N.Nodup) (hi : PI X tg iter wi) (ok : BlkOk X.N X.env.scope scope own) (hv : ∀ i ∈ vs1, i ∈ own.map (·.2)) (hp : PutOk X.prog X.w X.K put)
    (h0 : ∀ (H : Hp) (h : Heap), sysModules < h.objs.size → ObjOk X.prog X.w H (h.push { cls := .type "dict", data := .dict #[] }) h.objs.size o0)
    (hg : Blk X scope fun Y => PG Y tg g) (hi1 : Blk X scope fun Y => PI Y tg1 iter1 wi1) (hg1 : Blk X scope fun Y => PG Y tg1 g1) (hk : Blk X scope fun Y => PE Y kx tk) (he : Blk X scope fun Y => PE Y vx tv)
    (hs : ∀ x, foldedSetIterable iter X.env x = pure x := by intro _; rfl) (hs1 : ∀ env x, foldedSetIterable iter1 env x = pure x := by intro _ _; rfl) :
    PE X (dcE kx vx tg iter tg1 iter1 scope pos) (tDd o0 put wi g wi1 g1 tk tv (own.map (·.2)) vs1) := by
  refine ⟨fun pins s σ H Q I h => ?_⟩
  rw [arm_eval_DictComp]
  refine dd_core hc hN I hi ok hv hp h0 hg hi1 hg1 hk he hs hs1 h fun D C s' m H' I' q hn f => ⟨m, hn, fun h'' sb => ?_⟩
  obtain ⟨f0, f1, f2, f3, f4, f5⟩ := f
  exact ⟨.ref D, H', I'.turned (t' := s'.toks) (fun b o hb e => (sb.2 b hb).trans e) f0 f1 f3 f4 f5, rfl, q⟩
end
end DL
/-! DLq: dict comprehensions of data. -/
namespace DL
open PySem PySem.Spec PyProof.Rows L2

/-! ### d[k] = v as data -/
def putP (kvs : List (D × D)) (k : Key) (v : D) : List (D × D) :=
  if (kvs.any fun p => decide (keyD p.1 = some k)) = true then kvs.map (fun p => if keyD p.1 = some k then (p.1, v) else p) else kvs ++ [(kD k, v)]
theorem any_V (k : Key) : ∀ {ks : List Key} {xs : List V} {ds : List D}, ks.length = xs.length → ks.length = ds.length →
    (((ks.map kD).zip ds).any fun p => decide (keyD p.1 = some k)) = (ks.zip xs).any fun kv => decide (kv.1 = k)
  | [], _, _, _, _ => by simp
  | a :: ks, [], _, h, _ => by simp at h
  | a :: ks, _ :: _, [], _, h => by simp at h
  | a :: ks, x :: xs, d :: ds, h1, h2 => by
    rw [List.map_cons, List.zip_cons_cons, List.zip_cons_cons, List.any_cons, List.any_cons, any_V k (by simpa using h1) (by simpa using h2)]
    congr 1
    show decide (keyD (kD a) = some k) = decide (a = k)
    rw [keyD_k]
    by_cases e : a = k
    · rw [e]; simp
    · simp [e]
theorem map_V {K : Frg} {F : Hp} (k : Key) {z : V} {d : D} (r : RD K F z d) : ∀ {ks : List Key} {xs : List V} {ds : List D}, ks.length = xs.length → RDs K F xs ds →
    ∃ (xs' : List V) (ds' : List D), (ks.zip xs).map (fun kv => if kv.1 = k then (kv.1, z) else kv) = ks.zip xs' ∧ ((ks.map kD).zip ds).map (fun p => if keyD p.1 = some k then (p.1, d) else p) = (ks.map kD).zip ds' ∧ ks.length = xs'.length ∧ RDs K F xs' ds'
  | [], [], _, _, _ => ⟨[], [], rfl, rfl, rfl, .nil⟩
  | a :: ks, [], _, h, _ => by simp at h
  | [], _ :: _, _, h, _ => by simp at h
  | a :: ks, x :: xs, c :: ds, h, .cons rc rs => by
    obtain ⟨xs', ds', h1, h2, h3, h4⟩ := map_V k r (ks := ks) (by simpa using h) rs
    by_cases e : a = k
    · refine ⟨z :: xs', d :: ds', ?_, ?_, by simp [h3], .cons r h4⟩
      · rw [List.zip_cons_cons, List.map_cons, h1, List.zip_cons_cons]
        show (if a = k then _ else _) :: _ = _
        rw [if_pos e]
      · rw [List.map_cons, List.zip_cons_cons, List.map_cons, h2, List.zip_cons_cons]
        show (if keyD (kD a) = some k then _ else _) :: _ = _
        rw [if_pos (by rw [keyD_k, e])]
    · refine ⟨x :: xs', c :: ds', ?_, ?_, by simp [h3], .cons rc h4⟩
      · rw [List.zip_cons_cons, List.map_cons, h1, List.zip_cons_cons]
        show (if a = k then _ else _) :: _ = _
        rw [if_neg e]
      · rw [List.map_cons, List.zip_cons_cons, List.map_cons, h2, List.zip_cons_cons]
        show (if keyD (kD a) = some k then _ else _) :: _ = _
        rw [if_neg (by rw [keyD_k]; exact fun w => e (Option.some.inj w))]
theorem putP_V {K : Frg} {F : Hp} (k : Key) {z : V} {d : D} (r : RD K F z d) {ks : List Key} {xs : List V} {ds : List D} (h : ks.length = xs.length) (rs : RDs K F xs ds) :
    ∃ (ks' : List Key) (xs' : List V) (ds' : List D), putK (ks.zip xs) k z = ks'.zip xs' ∧ putP ((ks.map kD).zip ds) k d = (ks'.map kD).zip ds' ∧ ks'.length = xs'.length ∧ RDs K F xs' ds' ∧ ks'.length ≤ ks.length + 1 := by
  have e := any_V k h (h.trans rs.length)
  unfold putK putP
  cases q : (ks.zip xs).any fun kv => decide (kv.1 = k) with
  | true =>
    rw [q] at e
    rw [if_pos e, if_pos rfl]
    obtain ⟨xs', ds', h1, h2, h3, h4⟩ := map_V k r h rs
    exact ⟨ks, xs', ds', h1, h2, h3, h4, Nat.le_succ _⟩
  | false =>
    rw [q] at e
    rw [if_neg (show ¬ (false = true) by simp), if_neg (show ¬ (((ks.map kD).zip ds).any fun p => decide (keyD p.1 = some k)) = true by rw [e]; simp)]
    refine ⟨ks ++ [k], xs ++ [z], ds ++ [d], ?_, ?_, by simp [h], rs.append (.cons r .nil), by simp⟩
    · rw [List.zip_append h]
      rfl
    · rw [List.map_append, List.zip_append (by rw [List.length_map, h, rs.length])]
      rfl
/-- pairs are put one by one -/
def putQ (kvs : List (D × D)) (p : D) : List (D × D) := match p with
  | .tuple [k, v] => match keyD k with
    | some k => putP kvs k v
    | none => kvs
  | _ => kvs
def foldP (ps : List D) : List (D × D) := ps.foldl putQ []
def DctAt (K : Frg) (F H : Hp) (p : Addr) (ps : List D) : Prop := ∃ (ks : List Key) (xs : List V) (ds : List D), H p = some (.dK (ks.zip xs)) ∧ ks.length = xs.length ∧ RDs K F xs ds ∧ (ks.map kD).zip ds = foldP ps ∧ ks.length ≤ ps.length
theorem DctAt.nil {K : Frg} {F H : Hp} {p : Addr} : DctAt K F (upd H p (.dK [])) p [] := ⟨[], [], [], upd_same, rfl, .nil, rfl, Nat.le_refl _⟩
theorem DctAt.mono {K : Frg} {F F' H H' : Hp} {p : Addr} {ps : List D} (h : DctAt K F H p ps) (f : Same F F') (e : H' p = H p) : DctAt K F' H' p ps := by
  obtain ⟨ks, xs, ds, h1, h2, h3, h4, h5⟩ := h
  exact ⟨ks, xs, ds, e.trans h1, h2, h3.mono f, h4, h5⟩
theorem DctAt.put {K : Frg} {F H : Hp} {p : Addr} {ps : List D} (h : DctAt K F H p ps) {k : Key} {z : V} {d : D} (r : RD K F z d) (hz : ps.length < sizeLine) :
    ∃ kvs, H p = some (.dK kvs) ∧ kvs.length < sizeLine ∧ DctAt K F (upd H p (.dK (putK kvs k z))) p (ps ++ [.tuple [kD k, d]]) := by
  obtain ⟨ks, xs, ds, h1, h2, h3, h4, h5⟩ := h
  refine ⟨_, h1, by rw [List.length_zip]; omega, ?_⟩
  obtain ⟨ks', xs', ds', g1, g2, g3, g4, g5⟩ := putP_V k r h2 h3
  refine ⟨ks', xs', ds', by rw [upd_same, g1], g3, g4, ?_, by simp; omega⟩
  unfold foldP
  rw [List.foldl_append]
  show _ = putQ (foldP ps) (.tuple [kD k, d])
  rw [← h4, ← g2]
  show _ = match keyD (kD k) with | some k => _ | none => _
  rw [keyD_k]
theorem DctAt.ro {K : Frg} {F H : Hp} {p : Addr} {ps : List D} (h : DctAt K F H p ps) : RO K F H p (.d (foldP ps)) := by
  obtain ⟨ks, xs, ds, h1, h2, h3, h4, h5⟩ := h
  exact ⟨ks, xs, ds, h4.symm, h1, h2, h3⟩

/-! ### {k: v for t0 in i0 for t1 in i1}, {k: v for t0 in i0} -/
def pairB (b : D → Ev → Option Ev) (tk tv : Ev → Rs D) (ρ0 : Ev) (x : D) : Rs D := match b x ρ0 with
  | none => .bad
  | some ρ1 => match tk ρ1 with
    | .ok k => match keyD k with
      | some _ => (match tv ρ1 with
        | .ok v => .ok (.tuple [k, v])
        | _ => .bad)
      | none => .bad
    | _ => .bad
def mapR {α β : Type} (f : α → Rs β) : List α → Rs (List β)
  | [] => .ok []
  | x :: xs => (f x).bind fun y => (mapR f xs).bind fun ys => .ok (y :: ys)
theorem mapR_get {α β : Type} {f : α → Rs β} : ∀ {xs : List α} {ys : List β}, mapR f xs = .ok ys → xs.length = ys.length ∧ ∀ (i : Nat) (x : α), xs[i]? = some x → ∃ y, f x = .ok y ∧ ys[i]? = some y
  | [], ys, h => by
    cases h
    exact ⟨rfl, fun i x e => by simp at e⟩
  | x :: xs, ys, h => by
    unfold mapR at h
    cases e1 : f x with
    | ok y =>
      rw [e1, Rs.bind_ok] at h
      cases e2 : mapR f xs with
      | ok zs =>
        rw [e2, Rs.bind_ok] at h
        cases h
        obtain ⟨h1, h2⟩ := mapR_get e2
        refine ⟨by simp [h1], fun i z e => ?_⟩
        cases i with
        | zero =>
          cases e
          exact ⟨y, e1, rfl⟩
        | succ i =>
          obtain ⟨y', h3, h4⟩ := h2 i z (by simpa using e)
          exact ⟨y', h3, by simpa using h4⟩
      | xc n as => rw [e2] at h; cases h
      | bad => rw [e2] at h; cases h
    | xc n as => rw [e1] at h; cases h
    | bad => rw [e1] at h; cases h
/-- the pairs of a turn of the outer loop -/
def pairsB (b : D → Ev → Option Ev) (gi1 : Ev → Rs (List D)) (vs1 : List Nat) (b1 : D → Ev → Option Ev) (tk tv : Ev → Rs D) (ρ0 : Ev) (x : D) : Rs (List D) := match b x ρ0 with
  | none => .bad
  | some ρ1 => match gi1 ρ1 with
    | .ok ys => (match wipeE vs1 ρ1 with
      | none => .bad
      | some ρ2 => mapR (pairB b1 tk tv ρ2) ys)
    | _ => .bad
def okO (r : Rs (List D)) : Rs O := match r with
  | .ok ps => if ps.length ≤ sizeLine then .ok (.d (foldP ps)) else .bad
  | _ => .bad
def flatR (r : Rs (List (List D))) : Rs (List D) := match r with
  | .ok pss => .ok pss.flatten
  | _ => .bad
def dcG2 (gi : Ev → Rs (List D)) (b : D → Ev → Option Ev) (gi1 : Ev → Rs (List D)) (b1 : D → Ev → Option Ev) (tk tv : Ev → Rs D) (vs vs1 : List Nat) (ρ : Ev) : Rs O := (gi ρ).bind fun xs => match wipeE vs ρ with
  | none => .bad
  | some ρ0 => okO (flatR (mapR (pairsB b gi1 vs1 b1 tk tv ρ0) xs))
def dcG1 (gi : Ev → Rs (List D)) (b : D → Ev → Option Ev) (tk tv : Ev → Rs D) (vs : List Nat) (ρ : Ev) : Rs O := (gi ρ).bind fun xs => match wipeE vs ρ with
  | none => .bad
  | some ρ0 => okO (mapR (pairB b tk tv ρ0) xs)
theorem flat_take {α : Type} {l : List (List α)} {i : Nat} {x : List α} (h : l[i]? = some x) : (l.take (i + 1)).flatten = (l.take i).flatten ++ x := by
  rw [take_succ_some h, List.flatten_append]
  simp
theorem flat_le {α : Type} (l : List (List α)) (i : Nat) : (l.take i).flatten.length ≤ l.flatten.length := by
  conv => rhs; rw [← List.take_append_drop i l, List.flatten_append, List.length_append]
  omega
section
variable {X : Cx} {W : WX} {kx vx tg iter tg1 iter1 : Expr} {scope : Scope} {own : List (Str × Nat)} {pos : Pos} {gi gi1 : Ev → Rs (List D)} {b b1 : D → Ev → Option Ev} {tk tv : Ev → Rs D} {sl sl1 : List Nat}
theorem pairB_ok {ρ0 : Ev} {x p : D} (h : pairB b tk tv ρ0 x = .ok p) : ∃ ρ1 k v, b x ρ0 = some ρ1 ∧ tk ρ1 = .ok (kD k) ∧ tv ρ1 = .ok v ∧ p = .tuple [kD k, v] := by
  unfold pairB at h
  split at h
  · cases h
  · rename_i ρ1 e1
    split at h
    · rename_i k e2
      split at h
      · rename_i kk e3
        split at h
        · rename_i v e4
          cases h
          have := keyD_some e3
          subst this
          exact ⟨ρ1, kk, v, e1, e2, e4, rfl⟩
        · cases h
      · cases h
    · cases h
theorem pe_dc1_of (h0 : 0 ∉ own.map (·.2)) (hsl : ∀ i ∈ sl, i ∈ own.map (·.2)) {σ : Sl} {H : Hp} {Q : VK} (h : tU X W (rO X.K) (dcG1 gi b tk tv (own.map (·.2))) σ H Q) :
    tDc (tU X W (rIt X.K) gi) (tTG X b sl) (tU X W0 rT (cG true)) (tU X W0 (rD X.K) tk) (tU X W0 (rD X.K) tv) (own.map (·.2)) σ H Q := by
  obtain ⟨Z, F, ρ, S, u⟩ := h
  refine ⟨Z, F, ρ, S, ?_⟩
  unfold dcG1 at u
  cases e0 : gi ρ with
  | xc n as => rw [e0] at u; exact u
  | bad => rw [e0] at u; exact u
  | ok xs =>
    rw [e0, Rs.bind_ok] at u
    intro J F1 H1 x1 hJ D nD
    obtain ⟨hz, G, Y, w, hG, hY⟩ := (show ItD X.K F1 J xs from hJ)
    split at u
    · exact u.elim
    · rename_i ρ0 e1
      cases e2 : mapR (pairB b tk tv ρ0) xs with
      | xc n as => rw [e2] at u; exact u.elim
      | bad => rw [e2] at u; exact u.elim
      | ok ps =>
        rw [e2] at u
        unfold okO at u
        simp only at u
        split at u
        rotate_left
        · exact u.elim
        rename_i hps
        obtain ⟨hl, hget⟩ := mapR_get e2
        have S0 : SR X.K Z F1 ρ0 (wipe σ (own.map (·.2))) H1 := (S.ext x1).wipe e1 fun _ => h0
        refine ⟨fun i m Hc => i + m = xs.length ∧ ∃ Fi, Ext F1 H1 Fi Hc ∧ Fi D = none ∧ DctAt X.K Fi Hc D (ps.take i), ⟨xs.length, by omega, F1, Ext.newO x1.fh nD, L2.Same.free x1.fh nD, .nil⟩, ?_⟩
        rintro i m Hc ⟨him, Fi, x, fD, hD⟩
        by_cases hi : i < xs.length
        · refine .inr ⟨w.goes i Hc hi (hG Fi Hc x.ff x.fh), fun H' => ∃ Fi, Ext F1 H1 Fi H' ∧ Fi D = none ∧ DctAt X.K Fi H' D (ps.take (i + 1)), fun H' hn => ⟨m - 1, by omega, by omega, hn⟩, fun v H' hy => ?_⟩
          obtain ⟨d, F'', hd, x2, rd⟩ := hY i Fi Hc v H' x.ff x.fh (w.yields i Hc v H' hi (hG Fi Hc x.ff x.fh) hy)
          obtain ⟨p, hp, hpi⟩ := hget i d hd
          obtain ⟨ρ1, k, vv, g1, g2, g3, rfl⟩ := pairB_ok hp
          have x3 := x.trans x2
          have hDn : Hc D ≠ none := by
            obtain ⟨_, _, _, h1, _⟩ := hD
            rw [h1]
            exact fun z => by cases z
          refine ⟨Z, F'', ρ0, d, ρ1, S0.ext x3, rd, g1, fun σ' S' hw => ⟨(hw _ hsl).trans wipe_wipe, Z, F'', ρ1, S', ?_⟩⟩
          intro bb F4 H4 x4 ek
          have ek : bb = true := ek
          subst ek
          refine iteT ⟨Z, F4, ρ1, S'.ext x4, ?_⟩
          rw [g2]
          intro yk F5 H5 x5 rk
          cases rd_key rk
          refine ⟨Z, F5, ρ1, (S'.ext x4).ext x5, ?_⟩
          rw [g3]
          intro zv F6 H6 x6 rz
          have x7 := (x2.trans x4).trans (x5.trans x6)
          have hD6 : DctAt X.K F6 H6 D (ps.take i) := hD.mono x7.ff (by
            cases q : Hc D with
            | none => exact absurd q hDn
            | some u => exact x7.hh D u q)
          have fD6 : F6 D = none := x7.nw D fD hDn
          obtain ⟨kvs, k1, k2, k3⟩ := hD6.put (k := k) rz (by
            rw [List.length_take]
            omega)
          refine ⟨kvs, k, rfl, k1, k2, F6, ?_, fD6, ?_⟩
          · have x8 := x.trans x7
            refine ⟨x8.ff, fun q u e => by rw [upd_ne (fun z => by rw [z, fD6] at e; cases e)]; exact x8.fh q u e, fun q u e => ?_, x8.nw⟩
            rw [upd_ne fun z => by rw [z, nD] at e; cases e]
            exact x8.hh q u e
          · rw [take_succ_some hpi]
            exact k3
        · have e : i = xs.length := by omega
          subst e
          rw [List.take_of_length_le (by omega)] at hD
          exact .inl ⟨w.stops Hc (hG Fi Hc x.ff x.fh), u _ Fi Hc (x1.trans x) ⟨D, rfl, L2.Same.free x1.hh nD, fD, hD.ro⟩⟩
theorem po_dc1 (hc : X.calm = true) (hN : X.N.Nodup) (hi : IU X W tg iter gi) (ok : BlkOk X.N X.env.scope scope own) (hg : Blk X scope fun Y => TU Y tg b sl) (hk : Blk X scope fun Y => PU Y W0 kx tk) (he : Blk X scope fun Y => PU Y W0 vx tv)
    (h0 : 0 ∉ own.map (·.2) := by decide) (hsl : ∀ i ∈ sl, i ∈ own.map (·.2) := by decide) (hs : ∀ x, foldedSetIterable iter X.env x = pure x := by intro _; rfl) :
    PO X W (.DictComp kx vx [⟨tg, iter, [], 0⟩] scope pos) (dcG1 gi b tk tv (own.map (·.2))) := pe_imp (pe_dc hc hN hi ok hg (fun _ _ _ _ _ => puts_nil (W := W0)) hk he hs) fun _ _ _ h => pe_dc1_of h0 hsl h
/-- a target stores data alone -/
def DatB (b : D → Ev → Option Ev) : Prop := ∀ (x : D) (ρ ρ' : Ev), b x ρ = some ρ' → ∀ (i : Nat) (bb : Bool) (o : O), ρ'[i]? = some (some (.own bb o)) → ρ[i]? = some (some (.own bb o))
theorem datB_nm (i : Nat) : DatB (nmB i) := fun x ρ ρ' h j bb o e => by
  obtain ⟨rfl, _, _⟩ := setE_ok h
  rcases getSet e with ⟨_, z, _⟩ | ⟨_, e⟩
  · cases z
  · exact e
theorem SR.xt {K : Frg} {Z : Fz} {F H F' H' : Hp} {ρ : Ev} {σ : Sl} {p : Addr} (S : SR K Z F ρ σ H) (hg : Z.G p = none) (hn : Sep ρ σ p) (x : Xt p F H F' H') : SR K Z F' ρ σ H' := by
  have oth : ∀ q u, Z.G q = some u → F' q = none ∧ H' q = some u := fun q u e => by
    have h1 := S.sg q u e
    obtain ⟨a, c⟩ := x.ot q (fun z => by rw [z, hg] at e; cases e) (S.dj q u e) (by rw [h1]; exact fun z => by cases z)
    exact ⟨a, c.trans h1⟩
  refine ⟨x.fh, fun q u e => (oth q u e).2, fun q u e => (oth q u e).1, S.len, fun j e hj => ?_, S.ap, S.pin⟩
  obtain ⟨v, a1, a2⟩ := S.sl j e hj
  refine ⟨v, a1, ?_⟩
  cases e with
  | dat d => exact RD.mono x.ff a2
  | own b2 o2 =>
    obtain ⟨q, rfl, c1, c2, c3⟩ := a2
    obtain ⟨f1, f2⟩ := x.ot q (fun z => hn j b2 o2 hj (by rw [← z]; exact a1)) c1 c3.ne
    exact ⟨q, rfl, f1, c2, c3.mono x.ff f2⟩
theorem Xt.ext {p : Addr} {F H F1 H1 F2 H2 : Hp} (a : Xt p F H F1 H1) (x : Ext F1 H1 F2 H2) (hp : H1 p ≠ none) : Xt p F H F2 H2 :=
  ⟨a.ff.trans x.ff, x.fh, x.nw p a.fp hp, fun q ne e n => by
    obtain ⟨h1, h2⟩ := a.ot q ne e n
    rw [← h2] at n ⊢
    refine ⟨x.nw q h1 n, ?_⟩
    cases z : H1 q with
    | none => exact absurd z n
    | some u => exact x.hh q u z⟩
theorem Xt.upd {p : Addr} {F H F1 H1 : Hp} {o : HO} (a : Xt p F H F1 H1) : Xt p F H F1 (upd H1 p o) :=
  ⟨a.ff, fun q u e => by rw [upd_ne fun z => by rw [z, a.fp] at e; cases e]; exact a.fh q u e, a.fp, fun q ne e n => by
    rw [upd_ne ne]
    exact a.ot q ne e n⟩
theorem pe_dc2_of (h0 : 0 ∉ own.map (·.2)) (hsl : ∀ i ∈ sl, i ∈ own.map (·.2)) (hb : DatB b) (h1 : 0 ∉ sl1) {σ : Sl} {H : Hp} {Q : VK} (h : tU X W (rO X.K) (dcG2 gi b gi1 b1 tk tv (own.map (·.2)) sl1) σ H Q) :
    tDd (.dK []) (fun y z D H Nx => ∃ kvs k, y = kV k ∧ H D = some (.dK kvs) ∧ kvs.length < sizeLine ∧ Nx (upd H D (.dK (putK kvs k z)))) (tU X W (rIt X.K) gi) (tTG X b sl) (tU X W0 (rIt X.K) gi1) (tTG X b1 sl1) (tU X W0 (rD X.K) tk) (tU X W0 (rD X.K) tv) (own.map (·.2)) sl1 σ H Q := by
  obtain ⟨Z, F, ρ, S, u⟩ := h
  refine ⟨Z, F, ρ, S, ?_⟩
  unfold dcG2 at u
  cases e0 : gi ρ with
  | xc n as => rw [e0] at u; exact u
  | bad => rw [e0] at u; exact u
  | ok xs =>
    rw [e0, Rs.bind_ok] at u
    intro J F1 H1 x1 hJ D nD
    obtain ⟨hz, G, Y, w, hG, hY⟩ := (show ItD X.K F1 J xs from hJ)
    split at u
    · exact u.elim
    · rename_i ρ0 e1
      cases e2 : mapR (pairsB b gi1 sl1 b1 tk tv ρ0) xs with
      | xc n as => rw [e2] at u; exact u.elim
      | bad => rw [e2] at u; exact u.elim
      | ok pss =>
        rw [e2] at u
        unfold flatR okO at u
        simp only at u
        split at u
        rotate_left
        · exact u.elim
        rename_i hps
        obtain ⟨hl, hget⟩ := mapR_get e2
        have S0 : SR X.K Z F1 ρ0 (wipe σ (own.map (·.2))) H1 := (S.ext x1).wipe e1 fun _ => h0
        refine ⟨fun i m Hc => i + m = xs.length ∧ ∃ Fi, Ext F1 H1 Fi Hc ∧ Fi D = none ∧ DctAt X.K Fi Hc D (pss.take i).flatten, ⟨xs.length, by omega, F1, Ext.newO x1.fh nD, L2.Same.free x1.fh nD, .nil⟩, ?_⟩
        rintro i m Hc ⟨him, Fi, x, fD, hD⟩
        by_cases hi : i < xs.length
        · refine .inr ⟨w.goes i Hc hi (hG Fi Hc x.ff x.fh), fun H' => ∃ Fi, Ext F1 H1 Fi H' ∧ Fi D = none ∧ DctAt X.K Fi H' D (pss.take (i + 1)).flatten, fun H' hn => ⟨m - 1, by omega, by omega, hn⟩, fun v H' hy => ?_⟩
          obtain ⟨d, F'', hd, x2, rd⟩ := hY i Fi Hc v H' x.ff x.fh (w.yields i Hc v H' hi (hG Fi Hc x.ff x.fh) hy)
          obtain ⟨p, hp, hpi⟩ := hget i d hd
          have hDn : ∀ {Fc Hc : Hp} {ps : List PyData}, DctAt X.K Fc Hc D ps → Hc D ≠ none := fun h z => by
            obtain ⟨_, _, _, h1, _⟩ := h
            rw [h1] at z
            cases z
          have step : ∀ {Fa Ha Fb Hb : Hp} {ps : List PyData}, Ext Fa Ha Fb Hb → Fa D = none → DctAt X.K Fa Ha D ps → Fb D = none ∧ DctAt X.K Fb Hb D ps := fun {Fa Ha Fb Hb ps} x a hd => by
            refine ⟨x.nw D a (hDn hd), hd.mono x.ff ?_⟩
            cases q : Ha D with
            | none => exact absurd q (hDn hd)
            | some u => exact x.hh D u q
          unfold pairsB at hp
          split at hp
          · cases hp
          rename_i ρ1 g1
          split at hp
          rotate_left
          · cases hp
          rename_i ys g2
          split at hp
          · cases hp
          rename_i ρ2 g3
          obtain ⟨hl2, hget2⟩ := mapR_get hp
          have x3 := x.trans x2
          refine ⟨Z, F'', ρ0, d, ρ1, S0.ext x3, rd, g1, fun σ' S' hw => ⟨(hw _ hsl).trans wipe_wipe, Z, F'', ρ1, S', ?_⟩⟩
          rw [g2]
          intro J1 F4 H4 x4 hJ1
          obtain ⟨hz1, G1, Y1, w1, hG1, hY1⟩ := (show ItD X.K F4 J1 ys from hJ1)
          have S2 : SR X.K Z F4 ρ2 (wipe σ' sl1) H4 := (S'.ext x4).wipe g3 fun _ => h1
          have x04 := x3.trans x4
          obtain ⟨fD4, hD4⟩ := step (x2.trans x4) fD hD
          have gD : Z.G D = none := L2.Same.free S0.sg nD
          have apD : Sep ρ2 (wipe σ' sl1) D := fun jj bb o hj hs => by
            have h2 := ((wipeE_ok g3).2.1 jj _ hj).1
            have h3 := hb d ρ0 ρ1 g1 jj bb o h2
            obtain ⟨q, k1, _, _, k4⟩ := S0.own h3
            have hno : jj ∉ own.map (·.2) := ((wipeE_ok e1).2.1 jj _ h3).2
            have e6 : σ'[jj]? = some (some (.ref D)) := (wipe_some hs).1
            rw [← wipe_get hno, hw _ hsl, wipe_wipe, k1] at e6
            cases e6
            exact k4.ne nD
          have hps2 : (pss.take (i + 1)).flatten.length ≤ sizeLine := Nat.le_trans (flat_le pss (i + 1)) hps
          rw [flat_take hpi, List.length_append] at hps2
          refine ⟨fun j m Hd => j + m = ys.length ∧ ∃ Fj, Xt D F4 H4 Fj Hd ∧ Ext F1 H1 Fj Hd ∧ DctAt X.K Fj Hd D ((pss.take i).flatten ++ p.take j), ⟨ys.length, by omega, F4, ⟨Same.refl F4, x4.fh, fD4, fun q _ e _ => ⟨e, rfl⟩⟩, x04, by rw [List.take_zero, List.append_nil]; exact hD4⟩, ?_⟩
          rintro j mm Hd ⟨hjm, Fj, xj, xe, hDj⟩
          have S3 := S2.xt gD apD xj
          by_cases hj : j < ys.length
          · refine .inr ⟨w1.goes j Hd hj (hG1 Fj Hd xj.ff xj.fh), fun H' => ∃ Fj, Xt D F4 H4 Fj H' ∧ Ext F1 H1 Fj H' ∧ DctAt X.K Fj H' D ((pss.take i).flatten ++ p.take (j + 1)), fun H' hn => ⟨mm - 1, by omega, by omega, hn⟩, fun v1 H' hy1 => ?_⟩
            obtain ⟨d1, F5, hd1, x5, rd1⟩ := hY1 j Fj Hd v1 H' xj.ff xj.fh (w1.yields j Hd v1 H' hj (hG1 Fj Hd xj.ff xj.fh) hy1)
            obtain ⟨p1, hp1, hpi1⟩ := hget2 j d1 hd1
            obtain ⟨ρ3, k, vv, k1, k2, k3, rfl⟩ := pairB_ok hp1
            refine ⟨Z, F5, ρ2, d1, ρ3, S3.ext x5, rd1, k1, fun σ3 S4 hw3 => ⟨(hw3 _ fun i hi => hi).trans wipe_wipe, Z, F5, ρ3, S4, ?_⟩⟩
            rw [k2]
            intro yk F6 H6 x6 rk
            cases rd_key rk
            refine ⟨Z, F6, ρ3, S4.ext x6, ?_⟩
            rw [k3]
            intro zv F7 H7 x7 rz
            have x57 := x5.trans (x6.trans x7)
            obtain ⟨fD7, hD7⟩ := step x57 xj.fp hDj
            obtain ⟨kvs, l1, l2, l3⟩ := hD7.put (k := k) rz (by
              rw [List.length_append, List.length_take]
              omega)
            refine ⟨kvs, k, rfl, l1, l2, F7, (xj.ext x57 (hDn hDj)).upd, ?_, ?_⟩
            · have x8 := xe.trans x57
              refine ⟨x8.ff, fun q u e => by rw [upd_ne (fun z => by rw [z, fD7] at e; cases e)]; exact x8.fh q u e, fun q u e => ?_, x8.nw⟩
              rw [upd_ne fun z => by rw [z, nD] at e; cases e]
              exact x8.hh q u e
            · rw [take_succ_some hpi1, ← List.append_assoc]
              exact l3
          · have e : j = ys.length := by omega
            subst e
            rw [hl2, List.take_length] at hDj
            refine .inl ⟨w1.stops Hd (hG1 Fj Hd xj.ff xj.fh), Fj, xe, xj.fp, ?_⟩
            rw [flat_take hpi]
            exact hDj
        · have e : i = xs.length := by omega
          subst e
          rw [List.take_of_length_le (by omega)] at hD
          exact .inl ⟨w.stops Hc (hG Fi Hc x.ff x.fh), u _ Fi Hc (x1.trans x) ⟨D, rfl, L2.Same.free x1.hh nD, fD, hD.ro⟩⟩
theorem po_dc2 (hc : X.calm = true) (hN : X.N.Nodup) (hi : IU X W tg iter gi) (ok : BlkOk X.N X.env.scope scope own) (hg : Blk X scope fun Y => TU Y tg b sl) (hi1 : Blk X scope fun Y => IU Y W0 tg1 iter1 gi1) (hg1 : Blk X scope fun Y => TU Y tg1 b1 sl1)
    (hk : Blk X scope fun Y => PU Y W0 kx tk) (he : Blk X scope fun Y => PU Y W0 vx tv) (hb : DatB b)
    (h0 : 0 ∉ own.map (·.2) := by decide) (hsl : ∀ i ∈ sl, i ∈ own.map (·.2) := by decide) (hsl1 : ∀ i ∈ sl1, i ∈ own.map (·.2) := by decide) (hs : ∀ x, foldedSetIterable iter X.env x = pure x := by intro _; rfl) (hs1 : ∀ env x, foldedSetIterable iter1 env x = pure x := by intro _ _; rfl) :
    PO X W (.DictComp kx vx [⟨tg, iter, [], 0⟩, ⟨tg1, iter1, [], 0⟩] scope pos) (dcG2 gi b gi1 b1 tk tv (own.map (·.2)) sl1) :=
  pe_imp (pe_dd (o0 := .dK []) hc hN hi ok hsl1 put_k (fun _ h hb => dk_empty h hb) hg hi1 hg1 hk he hs hs1) fun _ _ _ h => pe_dc2_of h0 hsl hb (fun z => h0 (hsl1 0 z)) h
end
end DL
/-! DLr: sorted of a dict with ints as keys; sorted(set(..)) of a list of ints. -/
namespace DL
open PySem PySem.Spec PyProof.Rows L2

/-! ### sorted(d) -/
def sortAO : List D → Option O
  | [.dict kvs] => (intsD (kvs.map (·.1))).bind fun ns => if ns.length < 64 then some (.l ((srtI ns).map PyData.int)) else none
  | ds => sortTO ds
def rSortDI : List V → Hp → VK → Prop := fun xs H Q => ∃ (a : Addr) (kvs : List (Key × V)) (ks : List Int), xs = [.ref a] ∧ Rd H a (.dK kvs) ∧ kvs.map (·.1) = ks.map Sum.inl ∧ ks.length < 64 ∧
  ∀ (ys : List Int) (p : Addr), ys.Perm ks → ys.Pairwise (· ≤ ·) → H p = none → Q (.ref p) (upd H p (.lst (ys.map V.int)))
def rSortA (K : Frg) : List V → Hp → VK → Prop := fun vs H Q => rSortDI vs H Q ∨ rSortedI K vs H Q ∨ DL.rSortedT K vs H Q
theorem cr_sortA {X : Cx} (hc : X.calm = true) : CallR X (.builtin "sorted") (rSortA X.K) := (show CallR X (.builtin "sorted") rSortDI from call_sortedDI hc).or (cr_sortedI.or DL.cr_sortedT)
theorem kD_ints : ∀ {ks : List Key} {ns : List Int}, intsD (ks.map kD) = some ns → ks = ns.map Sum.inl
  | [], ns, h => by cases h; rfl
  | k :: ks, ns, h => by
    rw [List.map_cons] at h
    unfold allM at h
    cases k with
    | inr x => cases h
    | inl i =>
      have h : (some i).bind (fun a => (intsD (ks.map kD)).map (a :: ·)) = some ns := h
      rw [Option.bind_some] at h
      obtain ⟨ms, e, rfl⟩ := Option.map_eq_some_iff.mp h
      rw [kD_ints e]
      rfl
theorem b_sortA {K : Frg} : CallO K (rSortA K) sortAO := by
  intro F H vs ds c Q s r hg h
  unfold sortAO at hg
  split at hg
  · rename_i kvs
    obtain ⟨ns, e, hg⟩ := Option.bind_eq_some_iff.mp hg
    split at hg
    rotate_left
    · cases hg
    rename_i h64
    cases hg
    obtain ⟨v, rfl, r1⟩ := r.inv1
    cases r1 with
    | dic t hl q =>
      rename_i a ks xs ds
      have e1 : ((ks.map kD).zip ds).map (·.1) = ks.map kD := List.map_fst_zip (by rw [List.length_map, hl, q.length]; exact Nat.le_refl _)
      rw [e1] at e
      have ek := kD_ints e
      refine .inl ⟨_, _, ns, rfl, rd_mono s t, ?_, h64, fun ys p hp hw hn => ?_⟩
      · rw [List.map_fst_zip (by rw [hl]; exact Nat.le_refl _)]
        exact ek
      · cases srt_one (hp.trans (srtI_perm ns).symm) hw (srtI_pw ns)
        refine newO s ?_ (RDs.ints _) h p hn
        rw [List.length_map, (srtI_perm ns).length_eq, sizeLine_eq]
        omega
    | dit t hl q => cases e
  · exact .inr (b_sortT F H vs _ c Q s r hg h)

/-! ### sorted(set(xs)) -/
/-- a new set -/
abbrev nuS (w : World) : Obj := { cls := .type "set", dict := none, data := .set #[] 0 (.fresh 0 0 (!w.params.followText "set-order")) }
section
variable {P : Program} {w : World} {A : Around} {E : Value → Shared → Prop} {s : Shared}
/-- what the initializer leaves -/
def InitS (w : World) (s : Shared) (ns : List Int) (r : Value) (s₂ : Shared) : Prop := r = .none ∧ ∃ h' tk c, s₂ = { s with heap := h', toks := tk } ∧ SetR w h' s.heap.objs.size (fun j => decide (j ∈ ns)) c ∧ c ≤ ns.length ∧
  ∀ b o, s.heap.get? b = some o → h'.get? b = some o
set_option maxHeartbeats 3200000 in
theorem set_of_list {l : Addr} {items : Array Value} (ns : List Int) {Q : Value → Shared → Prop} (hh : A.handled = none) (hl : s.heap.IsList l items) (hit : IntsAre items.toList ns) (hb : ns.length + 1 < scanBound)
    (h : ∀ (h' : Heap) (tk c : Nat), SetR w h' s.heap.objs.size (fun j => decide (j ∈ ns)) c → c ≤ ns.length → (∀ b o, s.heap.get? b = some o → h'.get? b = some o) → Q (.ref s.heap.objs.size) { s with heap := h', toks := tk }) :
    wpAny (model P w) A (call (.type "set") [.ref l]) Q E s := by
  have hisz : items.size = ns.length := by rw [← Array.length_toList, IntsAre.length hit]
  obtain ⟨c, tl, hmro⟩ := F.called_set.mro
  have k1 := F.called_set.made
  have k2 := F.called_set.sub
  have k3 := F.called_set.notType
  have k4 := F.called_set.canCreate
  have k5 := F.typeCall_set_1 (.ref l)
  refine wpAny_call (codeAny_of_tree ?_)
  show wpAny _ _ (callAny (.type "set") _) _ _ _
  refine wpAny_pure ⟨Code.quiet_builtin _ (by decide +kernel), codeAny_builtin F.entry_type_call ?_⟩
  rw [Around.under_plain (weight_type_call_type "set" [.ref l] []) rfl]
  repeat (any_goals (first | assumption | wp_step))
  refine codeAny_mono (code_set_led1 (.ref l) (E := E) (Q₁ := fun obj s₁ => obj = .ref s.heap.objs.size ∧ s₁ = { s with heap := s.heap.push (nuS w) }) ⟨rfl, rfl⟩) fun r s₁ hr => ?_
  cases r with
  | error e => exact hr
  | ok fl =>
    cases fl with
    | next => exact hr.elim
    | brk => exact hr.elim
    | cont => exact hr.elim
    | ret obj =>
      obtain ⟨rfl, rfl⟩ := hr
      have hS : (s.heap.push (nuS w)).get? s.heap.objs.size = some (nuS w) := Heap.get?_push_size _ rfl
      have hT : Shared.TypeIs { s with heap := s.heap.push (nuS w) } (.ref s.heap.objs.size) "set" := ⟨_, hS, rfl⟩
      have k6 := F.called_set.init.lookup
      have k7 := F.called_set.init.bind (.ref s.heap.objs.size)
      repeat (any_goals (first | assumption | wp_step))
      refine codeAny_mono (codeAny_call_builtin (R := wants (InitS w s ns) E) F.called_set.init.plain F.entry_set_init (check_set_init_1 hT ?_)) fun r₂ s₂ hr₂ => ?_
      · obtain ⟨⟨ocls, odict, odata, oslots⟩, hol, hcl, nl, hdl⟩ := hl
        simp only at hcl hdl
        subst hcl
        subst hdl
        have hol' : (s.heap.push (nuS w)).get? l = some { cls := .type "list", dict := odict, data := .seq items nl, slots := oslots } := Heap.get?_push_of_some _ hol
        have k8 := F.sub_list_set
        have k9 := F.sub_list_frozenset
        have hne : (Value.type "list" == Value.type "dict") = false := by decide
        have hl1 : (s.heap.push (nuS w)).IsList l items := ⟨_, hol', rfl, nl, rfl⟩
        have hz : (s.heap.push (nuS w)).objs.size = s.heap.objs.size + 1 := Heap.size_push ..
        have hlS : l < s.heap.objs.size := Heap.lt_size hol
        unfold Builtin.«set.__init__» noKeywords Builtin.Frozenset.updateFrom
        generalize hPI : pyIter = PI
        wp_walk
        subst hPI
        refine wpAny_pyIter_list hl1 (wpAny_bind (wpAny_runValue ?_))
        refine set_update_ints ((Walks.list (by simp [hh]) _ l (by show l ≠ (s.heap.push (nuS w)).objs.size; rw [hz]; exact Nat.ne_of_lt (Nat.lt_succ_of_lt hlS)) items).toS) s.heap.objs.size (by
          show s.heap.objs.size ∉ [(s.heap.push (nuS w)).objs.size, l]
          rw [hz]
          simp only [List.mem_cons, List.not_mem_nil, or_false, not_or]
          exact ⟨Nat.ne_of_lt (Nat.lt_succ_self _), Nat.ne_of_gt hlS⟩) ns hisz hb (fun i v hv => ?hval) (items.size - 0) 0 _ (by omega) (Nat.zero_le _) ⟨⟨_, Heap.get?_push_size _ rfl, rfl, rfl⟩, (hl1.push _)⟩ ⟨0, Nat.le_refl 0, setR_new_at (Heap.get?_push_of_some _ hS)⟩ ?hR
        case hval =>
          have hi : i < ns.length := by rw [← hisz]; exact (Array.getElem?_eq_some_iff.mp hv).1
          obtain ⟨t, e⟩ := PyProof.Rows.IntsAre.int_at hit i v (by rw [Array.getElem?_toList]; exact hv)
          refine ⟨ns[i], t, List.getElem?_eq_getElem hi, ?_⟩
          rw [e, List.getD_eq_getElem?_getD, List.getElem?_eq_getElem hi]
          rfl
        case hR =>
          intro s' c' hm hc' hS'
          obtain ⟨h', g2, d', tk', os'⟩ := s'
          obtain rfl : g2 = s.gens := hm.gens
          obtain rfl : d' = s.drawn := hm.drawn
          obtain rfl : os' = s.os := hm.os
          show wpAny _ _ _ _ _ _
          refine wpAny_pure ?_
          show wpAny _ _ (ret Value.none) _ _ _
          rw [hisz] at hc'
          refine wpAny_pure ⟨rfl, h', tk', c', rfl, hS', hc', fun b o e => ?_⟩
          have hb0 : b < s.heap.objs.size := Heap.lt_size e
          refine hm.heap b o ?_ (Heap.get?_push_of_some _ (Heap.get?_push_of_some _ e))
          show b ∉ [s.heap.objs.size, (s.heap.push (nuS w)).objs.size]
          rw [hz]
          simp only [List.mem_cons, List.not_mem_nil, or_false, not_or]
          exact ⟨Nat.ne_of_lt hb0, Nat.ne_of_lt (Nat.lt_succ_of_lt hb0)⟩
      · cases r₂ with
        | error e => exact hr₂
        | ok fl₂ =>
          cases fl₂ with
          | ret r =>
            obtain ⟨rfl, h', tk, c', rfl, hS', hc', hk'⟩ := hr₂
            repeat (any_goals (first | assumption | wp_step))
            exact h _ _ _ hS' hc' hk'
          | _ => exact hr₂.elim
end
/-- set(xs) of a list of ints -/
def rSetL (K : Frg) (w : World) : List V → Hp → VK → Prop := fun vs H Q => ∃ (a : Addr) (ns : List Int), vs = [.ref a] ∧ SqL K H a (ns.map V.int) ∧ ns.length ≤ 1000 ∧ ∀ p c, H p = none → c ≤ ns.length → Q (.ref p) (upd H p (SetO w p (fun j => decide (j ∈ ns)) c))
theorem cr_setL {X : Cx} (hc : X.calm = true) : CallR X (.type "set") (rSetL X.K X.w) := by
  intro pins s σ H vs us Q I r h
  obtain ⟨a, ns, rfl, hs, hz, q⟩ := h
  obtain ⟨its, rv, hl, _⟩ := I.list hs
  rw [Vals.ref1 r]
  refine set_of_list ns (I.ok.hd hc) hl.isList (by simpa using rv.ints) (by unfold scanBound; omega) fun h' tk c R hcn k => ?_
  exact ⟨.ref s.heap.objs.size, upd H s.heap.objs.size (SetO X.w s.heap.objs.size (fun j => decide (j ∈ ns)) c), I.laid (t' := tk) k (Nat.le_refl _) (setO_new R), rfl, q _ c (I.hok.fresh (Nat.le_refl _)) hcn⟩
/-- without what comes twice -/
def dedI : List Int → List Int
  | [] => []
  | n :: ns => if n ∈ ns then dedI ns else n :: dedI ns
theorem dedI_mem {k : Int} : ∀ {ns : List Int}, k ∈ dedI ns ↔ k ∈ ns
  | [] => Iff.rfl
  | n :: ns => by
    unfold dedI
    split
    · rename_i h
      rw [dedI_mem, List.mem_cons]
      exact ⟨.inr, fun z => z.elim (fun e => by rw [e]; exact h) id⟩
    · rw [List.mem_cons, List.mem_cons, dedI_mem]
theorem dedI_nd : ∀ ns : List Int, (dedI ns).Nodup
  | [] => List.nodup_nil
  | n :: ns => by
    unfold dedI
    split
    · exact dedI_nd ns
    · rename_i h
      exact List.nodup_cons.mpr ⟨fun z => h (dedI_mem.mp z), dedI_nd ns⟩
theorem srt_set {ns ms : List Int} (h1 : ms.Pairwise (· < ·)) (h2 : ∀ k : Int, k ∈ ms ↔ decide (k ∈ ns) = true) : ms = srtI (dedI ns) := by
  have nd : ms.Nodup := h1.imp fun {a b} h => Int.ne_of_lt h
  have p : ms.Perm (dedI ns) := (List.perm_ext_iff_of_nodup nd (dedI_nd ns)).mpr fun k => by rw [h2 k, dedI_mem]; exact decide_eq_true_iff
  exact srt_one (p.trans (srtI_perm _).symm) (h1.imp fun {a b} h => Int.le_of_lt h) (srtI_pw _)
def ssetG (ga : Ev → Rs D) (ρ : Ev) : Rs O := (ga ρ).bind fun d => match d with
  | .list xs => match intsD xs with
    | some ns => if ns.length < 64 then .ok (.l ((srtI (dedI ns)).map PyData.int)) else .bad
    | none => .bad
  | _ => .bad
section
variable {X : Cx} {W : WX} {e : Expr} {ga : Ev → Rs D} {fa : Ev → Rs (D × Ev)} {p p2 q pos : Pos}
theorem sset_V {F H : Hp} {v : V} {xs : List D} {ns : List Int} {Q : VK} (s : Same F H) (r : RD X.K F v (.list xs)) (e : intsD xs = some ns) (hl : ns.length < 64)
    (h : ∀ p F' H', Ext F H F' H' → H p = none → F' p = none → RO X.K F' H' p (.l ((srtI (dedI ns)).map PyData.int)) → Q (.ref p) H') :
    rSetL X.K X.w [v] H fun w H1 => rSortedSet X.w [w] H1 Q := by
  cases intsD_some e
  obtain ⟨a, ys, rfl, t, z, q⟩ := r.invL
  cases RDs.of_ints q
  refine ⟨a, ns, rfl, .inl (rd_mono s t), by omega, fun b c hb hc => ⟨b, _, c, rfl, upd_same, by omega, fun ms p hp hm hl hn => ?_⟩⟩
  have em := srt_set hp hm
  subst em
  have x1 : Ext F H F (upd H b (SetO X.w b (fun j => decide (j ∈ ns)) c)) := Ext.newO s hb
  have hnp : H p = none := L2.Same.free x1.hh hn
  refine newO x1.fh (by rw [List.length_map, hl, sizeLine_eq]; omega) (RDs.ints _) (fun p F' H' y n1 n2 r => h p F' H' (x1.trans y) (L2.Same.free x1.hh n1) n2 r) p hn
theorem po_sset (hc : X.calm = true) (hm : X.mg "sorted" = none) (hm2 : X.mg "set" = none) (ha : PU X W e ga) (hg : Gl X "sorted" := by rfl) (hg2 : Gl X "set" := by rfl)
    (n1 : starEach [e] X.env = (false, eval e X.env) :: starEach [] X.env := by rfl) (n2 : starEach [.Call (.Name "set" p2) [e] [] q] X.env = (false, eval (.Call (.Name "set" p2) [e] [] q) X.env) :: starEach [] X.env := by rfl) :
    PO X W (.Call (.Name "sorted" p) [.Call (.Name "set" p2) [e] [] q] [] pos) (ssetG ga) :=
  pe_imp (pe_callB (cr_sortedSet hc) hg hm PyProof.Rows.boot_sorted (pa_cons (pe_callTy (cr_setL hc) hg2 hm2 PyProof.Rows.boot_set (pa_cons ha pa_nil n1) (he := n1)) pa_nil n2) (he := n2)) fun σ H Q ⟨Z, F, ρ, S, u⟩ => ⟨Z, F, ρ, S, by
    unfold ssetG at u
    cases e1 : ga ρ with
    | ok d =>
      rw [e1, Rs.bind_ok] at u
      intro v F1 H1 x1 r1
      split at u
      · rename_i xs
        split at u
        · rename_i ns e2
          split at u
          · rename_i hl
            exact sset_V x1.fh r1 e2 hl fun p F' H' y n1 n2 r => u _ F' H' (x1.trans y) ⟨p, rfl, L2.Same.free x1.hh n1, n2, r⟩
          · exact u.elim
        · exact u.elim
      · exact u.elim
    | xc n as => rw [e1] at u; exact u
    | bad => rw [e1] at u; exact u⟩
def ssetM (fa : Ev → Rs (D × Ev)) (ρ : Ev) : Rs (O × Ev) := mbind (fa ρ) fun d ρ1 => match ssetG (fun _ => .ok d) ρ1 with
  | .ok o => .ok (o, ρ1)
  | _ => .bad
theorem mo_sset (hc : X.calm = true) (hm : X.mg "sorted" = none) (hm2 : X.mg "set" = none) (ha : ME X e fa) (hg : Gl X "sorted" := by rfl) (hg2 : Gl X "set" := by rfl)
    (n1 : starEach [e] X.env = (false, eval e X.env) :: starEach [] X.env := by rfl) (n2 : starEach [.Call (.Name "set" p2) [e] [] q] X.env = (false, eval (.Call (.Name "set" p2) [e] [] q) X.env) :: starEach [] X.env := by rfl) :
    MO X (.Call (.Name "sorted" p) [.Call (.Name "set" p2) [e] [] q] [] pos) (ssetM fa) :=
  pe_imp (pe_callB (cr_sortedSet hc) hg hm PyProof.Rows.boot_sorted (pa_cons (pe_callTy (cr_setL hc) hg2 hm2 PyProof.Rows.boot_set (pa_cons ha pa_nil n1) (he := n1)) pa_nil n2) (he := n2)) fun σ H Q ⟨Z, F, ρ, S, u⟩ => ⟨Z, F, ρ, S, M.bind u fun d ρ1 v F1 H1 x1 S1 r1 u1 => by
    unfold ssetG at u1
    simp only [Rs.bind_ok] at u1
    split at u1
    · rename_i o e0
      split at e0
      · rename_i xs
        split at e0
        · rename_i ns e2
          split at e0
          · rename_i hl
            cases e0
            exact sset_V S1.sf r1 e2 hl fun p F' H' y n1 n2 r => u1 _ F' H' y.ff (S1.ext y) ⟨p, rfl, n2, L2.Same.free S1.sg n1, r, S1.apart n1⟩
          · cases e0
        · cases e0
      · cases e0
    · exact u1.elim⟩
end
end DL
/-! DLs: the law's end. -/
namespace DL
open PySem PySem.Spec PyProof.Rows L2

/-- the module has no list of its own -/
def noLo (o : Obj) : Bool := match o.data with
  | .seq _ _ => (match o.cls with
    | .type c => !(c == "list")
    | _ => true)
  | _ => true
def noL (K : Frg) : Bool := K.all fun p => noLo p.2
theorem lookup_in {β : Type} {a : Addr} {b : β} : ∀ {l : List (Addr × β)}, l.lookup a = some b → ∃ c, (c, b) ∈ l
  | [], h => by cases h
  | (c, d) :: l, h => by
    rw [List.lookup_cons] at h
    split at h
    · cases h
      exact ⟨c, List.mem_cons_self⟩
    · obtain ⟨e, he⟩ := lookup_in h
      exact ⟨e, List.mem_cons_of_mem _ he⟩
theorem noL_at {K : Frg} (h : noL K = true) {a : Addr} {vs : Array Value} (e : K.lookup a = some { cls := .type "list", data := .seq vs }) : False := by
  obtain ⟨c, hm⟩ := lookup_in e
  have := List.all_eq_true.mp h _ hm
  simp [noLo] at this
theorem call_G {P : Program} {w : World} {K : Frg} {mg mb : Str → Option Value} {k : Nat} {fa a : Addr} {fd : FuncData} {x : Str} {f : List D → Rs D} {s₁ : Shared} {vs : List Value} {ns : List Int}
    (KX : K.In s₁.heap) (hns : s₁.heap.Ns mainGlobals mg) (hb : s₁.heap.Ns builtinsNs mb) (hbb : ∀ x : Str, x ≠ "__name__" → mb x = bootBuiltins x) (hlim : s₁.heap.NoLimit) (hg : s₁.gens = #[])
    (ha : s₁.heap.get? a = some { cls := .type "list", data := .seq vs.toArray }) (hi : IntsAre vs ns) (hl : ns.length ≤ sizeLine) (hr : Room k callerA) (hno : noL K = true)
    (F : ∀ base : Heap, K.In base → base.Ns mainGlobals mg → FnG P w K mg base k fa fd [x] (spD K 1 f)) (hbind : ∀ (s : Shared) (u : Value), BindsTo s fd ⟨[u], []⟩ [(x, u)]) (hf : f [.list (ns.map PyData.int)] = .ok (.bool true)) :
    codeAny (model P w) callerA (.call (.ref fa) ⟨[.ref a], []⟩) (fun r s' => r = .ok (.ret (.bool true)) ∧ OldK s₁.heap s'.heap ∧ s'.os = s₁.os ∧ AllBare s'.gens) s₁ := by
  have rv := vals_ints hi
  have hk : K.lookup a = none := by
    cases hk : K.lookup a with
    | none => rfl
    | some o =>
      have e := KX a o hk
      rw [ha] at e
      cases e
      exact (noL_at hno hk).elim
  let ob : Obj := { cls := .type "list", data := .seq vs.toArray }
  let H : Hp := fun b => if b = a then some (.frz ob (.lst (ns.map V.int))) else none
  have Ha : H a = some (.frz ob (.lst (ns.map V.int))) := if_pos rfl
  have Hne : ∀ {b}, b ≠ a → H b = none := fun h => if_neg h
  have Hof : ∀ {b u}, H b = some u → b = a ∧ u = .frz ob (.lst (ns.map V.int)) := fun {b u} e => by
    by_cases h : b = a
    · subst h
      rw [Ha] at e
      cases e
      exact ⟨rfl, rfl⟩
    · rw [Hne h] at e
      cases e
  have hz : (ns.map V.int).length ≤ sizeLine := by rw [List.length_map]; exact hl
  have hok : HOk P w H s₁.heap := fun b u e => by
    obtain ⟨rfl, rfl⟩ := Hof e
    exact ⟨ha, hz, vs, _, rv, ha⟩
  have toB : ∀ {b : Addr} {o : Obj}, s₁.heap.get? b = some o → b ≠ a → (hidT s₁.heap H).get? b = some o := fun e n => hidT_get e (Hne n)
  have noA : ∀ {b : Addr} {o : Obj} {es : Array DictEntry} {ep : Nat}, s₁.heap.get? b = some o → o.data = .dict es ep → b ≠ a := fun {b o es ep} e d z => by
    subst z
    rw [ha] at e
    cases e
    cases (show Data.seq vs.toArray _ = Data.dict es ep from d)
  have nsK : ∀ {b : Addr} {m : Str → Option Value}, s₁.heap.Ns b m → (hidT s₁.heap H).Ns b m := fun {b m} ⟨o, es, ep, e, d, r⟩ => ⟨o, es, ep, toB e (noA e d), d, r⟩
  have hKb : K.In (hidT s₁.heap H) := fun b o e => toB (KX b o e) fun z => by
    subst z
    rw [hk] at e
    cases e
  obtain ⟨mc, l1, l2⟩ := hlim
  have e0 : Env0 P w K mg (hidT s₁.heap H) callerA [] s₁ H :=
    ⟨rfl, ⟨hKb, nsK hns, ⟨mb, nsK hb, hbb⟩, ⟨mc, nsK l1, l2⟩⟩, fun b o e => of_hidT e, Nat.le_of_eq (hidT_size _ _), trivial, fun b hb => absurd (show b ∈ ([] : List Addr) from hb) (by simp), hok, .of_eq hg⟩
  have hsp : spD K 1 f [.ref a] H (fun v _ => v = .bl true) E0 := by
    refine ⟨H, [.list (ns.map PyData.int)], rfl, Same.refl H, .cons (.lst (.inr ⟨ob, Ha⟩) hz (RDs.ints ns)) .nil, ?_⟩
    rw [hf]
    intro v F' H' _ r
    cases r
    rfl
  refine codeAny_mono ((F _ hKb (nsK hns)).go callerA [] s₁ H ⟨[.ref a], []⟩ [.ref a] [.ref a] _ _ rfl hr e0 (hbind s₁ (.ref a)) (.cons rfl .nil) hsp) fun r s' h => ?_
  cases r with
  | error e => exact False.elim h
  | ok fl =>
    cases fl with
    | next => exact False.elim h
    | brk => exact False.elim h
    | cont => exact False.elim h
    | ret u =>
      obtain ⟨v, H', os, bare, un, hok', r', rfl⟩ := h
      obtain rfl : u = Value.bool true := r'
      refine ⟨rfl, OldK.of_keep fun b o e => ?_, os, bare⟩
      by_cases hba : b = a
      · subst hba
        have z2 := un.frzs b ob _ Ha
        obtain ⟨e2, _⟩ := hok' b _ z2
        rw [ha] at e
        cases e
        exact e2
      · exact un.keep b o e (Hne hba) (by intro z; exact absurd (show b ∈ ([] : List Addr) from z) (by simp)) (by simp)
theorem walk_G {l : PySem.W.OpenLaw} {n k : Nat} {q : Program} {loose : List Str} {XP : (Str → Option Value) → Heap → Prop} {YP : World → Heap → Prop} {d : DefRec} {K : Params → Frg} {x : Str} {f : List D → Rs D}
    (hn : l.most = some n) (hn2 : n ≤ sizeLine) (hdf : d.params.defaults = []) (hr : Room k callerA) (hY : ∀ (w : World) (h : Heap), YP w h → (K w.params).In h) (hno : ∀ w : World, noL (K w.params) = true)
    (F : ∀ (w : World) (mg : Str → Option Value) (fa : Addr) (h : Heap), (K w.params).In h → h.Ns mainGlobals mg → mg d.name = some (.ref fa) →
      ∃ fd : FuncData, (∀ (s : Shared) (u : Value), BindsTo s fd ⟨[u], []⟩ [(x, u)]) ∧ ∀ base : Heap, (K w.params).In base → base.Ns mainGlobals mg → FnG l.prog w (K w.params) mg base k fa fd [x] (spD (K w.params) 1 f))
    (hf : ∀ ns : List Int, ns.length ≤ n → f [.list (ns.map PyData.int)] = .ok (.bool true)) :
    PySem.W.WalkO q loose XP YP l.row.toRowW d [] (fun f vs => PySem.call f vs) := by
  refine Att.attach_call hn hdf fun w s₀ s₁ mg mb fa o pm cd doc a vs ns G Y ho hd hcd hmg hobj hints hlen hg => ?_
  obtain ⟨fd, hb, hF⟩ := F w mg fa _ (hY w _ Y) G.T.g hmg
  exact call_G (hY w _ Y) G.T.g G.T.b G.T.builtins G.T.nolimit hg hobj hints (Nat.le_trans hlen hn2) hr (hno w) hF hb (hf ns hlen)
end DL
/-! DLt: what the generated texts lean on. -/
namespace DL
open PySem PySem.Spec PyProof.Rows L2

def DefAt (K : Frg) (mg : Str → Option Value) (x : Str) (st : Stmt) (dV : Value) : Prop := ∃ f fd, FunG K x st dV f fd ∧ mg x = some (.ref f) ∧ PySem.W.keepIn K (.ref f) = true
theorem rm0 {k : Nat} {A : Around} (h : Room k A) : A.units < cLine := by have := h.un; omega
theorem rm1 {k : Nat} {A : Around} (h : Room k A) : A.units + 1 < cLine := by have := h.un; omega
theorem rm64 {k : Nat} {A : Around} (h : Room k A) : A.units + 64 < cLine := by have := h.un; omega
theorem rm65 {k : Nat} {A : Around} (h : Room k A) : A.units + 65 < cLine := by have := h.un; omega
section
variable {K : Frg} {x : Str} {st : Stmt} {dV : Value} {f : Addr} {fd : FuncData} {ps : List Str}
theorem FunG.binds (F : FunG K x st .none f fd)
    (h : ∀ (kV doc pm : Value) (an : Option Addr) (cdv ct : Value) (us : List Value), us.length = ps.length → bindArgs (PySem.W.fnOf x x (defArgs st) (defBody st) (defScope st) .none kV doc pm an cdv ct) ⟨us, []⟩ = pure (ps.zip us)) : Binds K fd ps [] := by
  obtain ⟨oc, od, kV, doc, pm, an, cdv, ct, osl, rfl, lk, hcd⟩ := F.ex
  exact .all (h kV doc pm an cdv ct)
/-- with defaults its (all of them); those behind the first j fill up -/
theorem FunG.bindsD {T : Addr} {o : Obj} {its : List Value} {c : Nat} (F : FunG K x st (.ref T) f fd) (lT : K.lookup T = some o) (oT : o.data = .seq its.toArray c) (j n : Nat) (hn : n + (its.length - j) = ps.length)
    (h : ∀ (kV doc pm : Value) (an : Option Addr) (cdv ct : Value) (us : List Value), us.length = n →
      ∃ k, bindArgs (PySem.W.fnOf x x (defArgs st) (defBody st) (defScope st) (.ref T) kV doc pm an cdv ct) ⟨us, []⟩ = seqItems? (.ref T) >>= k ∧ k (some its.toArray) = pure (ps.zip (us ++ its.drop j))) : Binds K fd ps (its.drop j) := by
  obtain ⟨oc, od, kV, doc, pm, an, cdv, ct, osl, rfl, lk, hcd⟩ := F.ex
  intro s us X hlen
  have l2 : us.length = n := by
    rw [List.length_append, List.length_drop] at hlen
    omega
  obtain ⟨k, e1, e2⟩ := h kV doc pm an cdv ct us l2
  refine L2.BindsTo.of_looks fun M => ?_
  rw [e1]
  exact L2.looks_items X lT oT (.of_pure e2)
end
/-! ### list + list, a new own list -/
def catO (d e : D) : Option O := match d, e with
  | .list xs, .list ys => if xs.length + ys.length ≤ sizeLine then some (.l (xs ++ ys)) else none
  | _, _ => none
def opO (g : D → D → Option O) (ga gb : Ev → Rs D) (ρ : Ev) : Rs O := (ga ρ).bind fun d => (gb ρ).bind fun e => Rs.of (g d e)
section
variable {X : Cx} {W : WX} {a b : Expr} {ga gb : Ev → Rs D} {pos : Pos}
theorem po_cat (ha : PU X W a ga) (hb : PU X W b gb) : PO X W (.BinOp a .Add b pos) (opO catO ga gb) := pe_imp (pe_op o_add ha hb) fun σ H Q ⟨Z, F, ρ, S, u⟩ => ⟨Z, F, ρ, S, by
  unfold opO at u
  cases e1 : ga ρ with
  | xc n as => rw [e1] at u; exact u
  | bad => rw [e1] at u; exact u
  | ok d =>
    rw [e1, Rs.bind_ok] at u
    intro v F1 H1 x1 r1
    refine ⟨Z, F1, ρ, S.ext x1, ?_⟩
    cases e2 : gb ρ with
    | xc n as => rw [e2, Rs.bind_xc] at u; exact fun F2 H2 x2 => u F2 H2 (x1.trans x2)
    | bad => rw [e2] at u; exact u.elim
    | ok e =>
      rw [e2, Rs.bind_ok] at u
      intro w F2 H2 x2 r2
      have r1 : RD X.K F2 v d := RD.mono x2.ff r1
      cases e3 : catO d e with
      | none => rw [e3] at u; exact u.elim
      | some o =>
        rw [e3] at u
        unfold catO at e3
        split at e3
        · split at e3
          · rename_i hz
            cases e3
            obtain ⟨p1, xs1, rfl, t1, z1, q1⟩ := r1.invL
            obtain ⟨p2, xs2, rfl, t2, z2, q2⟩ := (show RD X.K F2 w _ from r2).invL
            have hz' : xs1.length + xs2.length ≤ sizeLine := by rw [q1.length, q2.length]; exact hz
            have x12 := x1.trans x2
            exact .inr (.inr (.inr ⟨p1, p2, xs1, xs2, rfl, rfl, rd_mono x2.fh t1, rd_mono x2.fh t2, hz', newO x2.fh (by rw [List.length_append]; exact hz') (q1.append q2) fun p F' H' y n1 n2 r => u _ F' H' (x12.trans y) ⟨p, rfl, L2.Same.free x12.hh n1, n2, r⟩⟩))
          · cases e3
        · cases e3⟩
end
end DL
/-! DLu: what the top has written. -/
namespace DL
open PySem PySem.Spec PyProof.Rows L2
section
variable {K : Frg} {h : Heap} {mg : Str → Option Value} {x : Str} {st : Stmt} {dV : Value} {f : Addr}
theorem defAt_mk {oc : Value} {od an : Option Addr} {sl : Array (Option Value)} {kV doc pm cd ct : Value} (X : K.In h) (G : h.Ns mainGlobals mg) (a : PySem.W.nsIn K mainGlobals x = some (some (.ref f)))
    (l : K.lookup f = some ⟨oc, od, .func (PySem.W.fnOf x x (defArgs st) (defBody st) (defScope st) dV kV doc pm an cd ct), sl⟩) (c : PySem.W.codeIn K cd x = true) (k : PySem.W.keepIn K (.ref f) = true) : DefAt K mg x st dV :=
  ⟨f, _, ⟨⟨oc, od, kV, doc, pm, an, cd, ct, sl, rfl, l, c⟩⟩, PySem.W.mg_of X G a, k⟩
theorem gI_mk {i : Int} {t : Tok} (X : K.In h) (G : h.Ns mainGlobals mg) (a : PySem.W.nsIn K mainGlobals x = some (some (.int i t))) : ∃ t, mg x = some (.int i t) := ⟨t, PySem.W.mg_of X G a⟩
theorem gS_mk {y : Str} {t : Tok} (X : K.In h) (G : h.Ns mainGlobals mg) (a : PySem.W.nsIn K mainGlobals x = some (some (.str y t))) : ∃ t, mg x = some (.str y t) := ⟨t, PySem.W.mg_of X G a⟩
theorem dflt_mk {T : Addr} {o : Obj} {c : Nat} {ds : Array Value} (h1 : DefAt K mg x st (.ref T)) (h2 : K.lookup T = some o) (h3 : o.data = .seq ds c) : ∃ T o c, DefAt K mg x st (.ref T) ∧ K.lookup T = some o ∧ o.data = .seq ds c := ⟨T, o, c, h1, h2, h3⟩
/-- the law's own def -/
theorem law_mk {P : Program} {w : World} {oc : Value} {od an : Option Addr} {sl : Array (Option Value)} {kV doc pm cd ct : Value} {fa : Addr} {y : Str} {k n : Nat} {N : List Str} {b : Ev → Out} (X : K.In h) (G : h.Ns mainGlobals mg) (hfa : mg x = some (.ref fa)) (S : FnScope N [y] (defScope st)) (hN : N.length = n)
    (hb : ∀ base : Heap, Body P w K mg base k N x st W0 b)
    (hbi : ∀ (s : Shared) (u : Value), BindsTo s (PySem.W.fnOf x x (defArgs st) (defBody st) (defScope st) .none kV doc pm an cd ct) ⟨[u], []⟩ [(y, u)])
    (a : PySem.W.nsIn K mainGlobals x = some (some (.ref f)))
    (l : K.lookup f = some ⟨oc, od, .func (PySem.W.fnOf x x (defArgs st) (defBody st) (defScope st) .none kV doc pm an cd ct), sl⟩) (c : PySem.W.codeIn K cd x = true) :
    ∃ fd : FuncData, (∀ (s : Shared) (u : Value), BindsTo s fd ⟨[u], []⟩ [(y, u)]) ∧ ∀ base : Heap, K.In base → base.Ns mainGlobals mg → FnG P w K mg base (k + 1) fa fd [y] (spD K 1 (fnD n b)) := by
  have e := hfa.symm.trans (PySem.W.mg_of X G a)
  cases e
  exact ⟨_, hbi, fun base _ _ => fn_D ⟨⟨oc, od, kV, doc, pm, an, cd, ct, sl, rfl, l, c⟩⟩ S (hb base) rfl hN⟩
end
end DL
/-! Ev1: evaluation of the pure functions. -/
namespace DL
open PySem PySem.Spec PyProof.Rows L2

@[simp] theorem lift_app {α : Type} (g : Ev → Rs α) (ρ : Ev) : lift g ρ = (g ρ).bind fun a => .ok (a, ρ) := rfl
@[simp] theorem ifS_app (gc : Ev → Rs Bool) (f g : Ev → Out) (ρ : Ev) : ifS gc f g ρ = outG gc (fun k ρ => if k = true then f ρ else g ρ) ρ := rfl
@[simp] theorem ifSM_app (gc : Ev → Rs (Bool × Ev)) (f g : Ev → Out) (ρ : Ev) : ifSM gc f g ρ = outM gc (fun k ρ => if k = true then f ρ else g ρ) ρ := rfl
@[simp] theorem startE_nil (n : Nat) : startE n [] = List.replicate n none := rfl
@[simp] theorem startE_cons (n : Nat) (d : D) (ds : List D) : startE (n + 1) (d :: ds) = some (.dat d) :: startE n ds := by
  unfold startE
  rw [List.map_cons, List.cons_append, List.length_cons, Nat.add_sub_add_right]
@[simp] theorem mbind_xc {α γ : Type} (n : Str) (as : List D) (k : γ → Ev → Rs (α × Ev)) : mbind (.xc n as : Rs (γ × Ev)) k = .xc n as := rfl
theorem compL_ok {body : D → Rs (Option D)} {h : D → Option D} : ∀ {xs : List D}, (∀ x ∈ xs, body x = .ok (h x)) → compL body xs = .ok (xs.filterMap h)
  | [], _ => rfl
  | x :: xs, e => by
    unfold compL
    rw [e x List.mem_cons_self, Rs.bind_ok, compL_ok fun y hy => e y (List.mem_cons_of_mem _ hy), Rs.bind_ok, List.filterMap_cons]
    cases h x <;> rfl
/-- a comprehension over encoded things -/
theorem compL_map {α : Type} {enc : α → D} {body : D → Rs (Option D)} {h : α → Option D} {xs : List α} (e : ∀ x ∈ xs, body (enc x) = .ok (h x)) : compL body (xs.map enc) = .ok (xs.filterMap h) := by
  induction xs with
  | nil => rfl
  | cons x xs ih =>
    rw [List.map_cons]
    unfold compL
    rw [e x List.mem_cons_self, Rs.bind_ok, ih fun y hy => e y (List.mem_cons_of_mem _ hy), Rs.bind_ok, List.filterMap_cons]
    cases h x <;> rfl
end DL
/-! Ev2: evaluation of single operations on encoded things. -/
namespace DL
open PySem PySem.Spec PyProof.Rows L2

/-! ### data that may be compared -/
theorem cl_int (i : Int) : (PyData.int i).canLay0 = true := by unfold PyData.canLay0; rfl
theorem dp_int (i : Int) : (PyData.int i).depth = 0 := by unfold PyData.depth; rfl
theorem clA_map {α : Type} {f : α → D} (h : ∀ a, (f a).canLay0 = true) : ∀ l : List α, PyData.canLayAll0 (l.map f) = true
  | [] => by unfold List.map PyData.canLayAll0; rfl
  | a :: l => by
    rw [List.map_cons]
    unfold PyData.canLayAll0
    rw [h a, clA_map h l]
    rfl
theorem dpA_map {α : Type} {f : α → D} {k : Nat} (h : ∀ a, (f a).depth ≤ k) : ∀ l : List α, PyData.depthAll (l.map f) ≤ k
  | [] => by unfold List.map PyData.depthAll; omega
  | a :: l => by
    rw [List.map_cons]
    unfold PyData.depthAll
    have := h a
    have := dpA_map h l
    omega
theorem cl_tup {xs : List D} : (PyData.tuple xs).canLay0 = PyData.canLayAll0 xs := by rw [PyData.canLay0]
theorem cl_lst {xs : List D} : (PyData.list xs).canLay0 = PyData.canLayAll0 xs := by rw [PyData.canLay0]
theorem dp_tup {xs : List D} : (PyData.tuple xs).depth = PyData.depthAll xs + 1 := by rw [PyData.depth]
theorem dp_lst {xs : List D} : (PyData.list xs).depth = PyData.depthAll xs + 1 := by rw [PyData.depth]
theorem cl_tupI (ns : List Int) : (tupI ns).canLay0 = true := by rw [cl_tup]; exact clA_map cl_int ns
theorem dp_tupI (ns : List Int) : (tupI ns).depth ≤ 1 := by
  rw [dp_tup]
  have := dpA_map (f := PyData.int) (k := 0) (fun i => by rw [dp_int]; omega) ns
  omega
theorem sh_of {d : D} {k : Nat} (h1 : d.canLay0 = true) (h2 : d.depth ≤ k) (hk : k ≤ 64) : SeqAt.shaped d = true := by
  unfold SeqAt.shaped
  rw [h1, decide_eq_true (Nat.le_trans h2 hk)]
  rfl
theorem sh_int (i : Int) : SeqAt.shaped (.int i) = true := sh_of (cl_int i) (Nat.le_of_eq (dp_int i)) (by decide)
theorem sh_tupI (ns : List Int) : SeqAt.shaped (tupI ns) = true := sh_of (cl_tupI ns) (dp_tupI ns) (by decide)
theorem eqv_int (a b : Int) : PyData.eqv (.int a) (.int b) = decide (a = b) := by
  unfold PyData.eqv
  by_cases h : a = b
  · rw [h]; simp
  · simp [h]
mutual
theorem eqv_self : ∀ d : D, d.canLay0 = true → PyData.eqv d d = true
  | .none, _ => by unfold PyData.eqv; rfl
  | .bool b, _ => by unfold PyData.eqv; simp
  | .int i, _ => by unfold PyData.eqv; simp
  | .str x, _ => by unfold PyData.eqv; simp
  | .list xs, h => by rw [PyData.eqv]; exact eqv_selfAll xs (by rw [cl_lst] at h; exact h)
  | .tuple xs, h => by rw [PyData.eqv]; exact eqv_selfAll xs (by rw [cl_tup] at h; exact h)
  | .dict _, h => by unfold PyData.canLay0 at h; cases h
theorem eqv_selfAll : ∀ ds : List D, PyData.canLayAll0 ds = true → PyData.eqvAll ds ds = true
  | [], _ => by unfold PyData.eqvAll; rfl
  | d :: ds, h => by
    unfold PyData.canLayAll0 at h
    rw [Bool.and_eq_true] at h
    unfold PyData.eqvAll
    rw [eqv_self d h.1, eqv_selfAll ds h.2]
    rfl
end
@[simp] theorem eqD_int (a b : Int) : eqD (.int a) (.int b) = some (.bool (decide (a = b))) := by
  unfold eqD
  rw [sh_int, sh_int, eqv_int]
  rfl
@[simp] theorem neD_int (a b : Int) : neD (.int a) (.int b) = some (.bool (!decide (a = b))) := by
  unfold neD
  rw [sh_int, sh_int, eqv_int]
  rfl
theorem any_int (c : Int) : ∀ ns : List Int, ((ns.map PyData.int).any fun z => PyData.eqv z (.int c)) = decide (c ∈ ns)
  | [] => rfl
  | n :: ns => by
    rw [List.map_cons, List.any_cons, any_int c ns, eqv_int]
    by_cases h : n = c
    · subst h; simp
    · simp [h, Ne.symm h]
@[simp] theorem inTD_int (c : Int) (ns : List Int) : inTD (.int c) (tupI ns) = some (.bool (decide (c ∈ ns))) := by
  show inD _ (PyData.tuple _) = _
  unfold inD
  simp only
  rw [sh_int, sh_tupI, any_int]
  rfl
@[simp] theorem ninTD_int (c : Int) (ns : List Int) : ninTD (.int c) (tupI ns) = some (.bool (!decide (c ∈ ns))) := by
  have h : inD (.int c) (tupI ns) = some (.bool (decide (c ∈ ns))) := inTD_int c ns
  show ninD _ _ = _
  unfold ninD
  rw [h]
  rfl
/-- in a list of ints -/
theorem inTD_list (c : Int) (ns : List Int) : inTD (.int c) (.list (ns.map PyData.int)) = some (.bool (decide (c ∈ ns))) := by
  show inD _ (PyData.list _) = _
  unfold inD
  simp only
  have h : SeqAt.shaped (.list (ns.map PyData.int)) = true := sh_of (k := 1) (by rw [cl_lst]; exact clA_map cl_int ns) (by rw [dp_lst]; have := dpA_map (f := PyData.int) (k := 0) (fun i => by rw [dp_int]; omega) ns; omega) (by decide)
  rw [sh_int, h, any_int]
  rfl
theorem eqv_nil : ∀ fs : List D, PyData.eqvAll fs [] = fs.isEmpty
  | [] => by unfold PyData.eqvAll; rfl
  | _ :: _ => by unfold PyData.eqvAll; rfl
theorem sh_nil : SeqAt.shaped (.list []) = true := sh_of (k := 1) (by rw [cl_lst]; unfold PyData.canLayAll0; rfl) (by rw [dp_lst]; unfold PyData.depthAll; omega) (by decide)
theorem eqD_nil {fs : List D} (h : SeqAt.shaped (.list fs) = true) : eqD (.list fs) (.list []) = some (.bool fs.isEmpty) := by
  unfold eqD
  rw [h, sh_nil, PyData.eqv, eqv_nil]
  rfl
theorem neD_nil {fs : List D} (h : SeqAt.shaped (.list fs) = true) : neD (.list fs) (.list []) = some (.bool (!fs.isEmpty)) := by
  unfold neD
  rw [h, sh_nil, PyData.eqv, eqv_nil]
  rfl
/-! ### subscripts, slices -/
@[simp] theorem atI_nn {α : Type} (xs : List α) (n : Nat) : atI xs (n : Int) = xs[n]? := by
  unfold atI ixN
  rw [if_pos (by omega)]
  by_cases h : n < xs.length
  · rw [if_pos (by omega)]
    simp
  · rw [if_neg (by omega), List.getElem?_eq_none (by omega)]
    rfl
@[simp] theorem ixD_tup (xs : List D) (n : Nat) : ixD (.tuple xs) (.int (n : Int)) = xs[n]? := atI_nn xs n
@[simp] theorem ixD_lst (xs : List D) (n : Nat) : ixD (.list xs) (.int (n : Int)) = xs[n]? := atI_nn xs n
@[simp] theorem ixD_tup0 (xs : List D) : ixD (.tuple xs) (.int 0) = xs[0]? := atI_nn xs 0
theorem ixD_last (xs : List D) : ixD (.tuple xs) (.int (-1)) = xs.getLast? := by
  show atI xs (-1) = _
  unfold atI ixN
  rw [if_neg (by omega), List.getLast?_eq_getElem?]
  by_cases h : xs = []
  · subst h
    rfl
  · have hl : 0 < xs.length := List.length_pos_iff.mpr h
    rw [if_pos (by omega)]
    show xs[((-1 : Int) + (xs.length : Int)).toNat]? = _
    congr 1
    omega
@[simp] theorem cutL_to {α : Type} (xs : List α) (n : Nat) : cutL xs none (some (n : Int)) = xs.take n := by
  unfold cutL
  rw [HT.sIx_none, HT.sIx_nat, List.drop_zero, Nat.sub_zero]
  by_cases h : n ≤ xs.length
  · rw [Nat.min_eq_left h]
  · rw [Nat.min_eq_right (by omega), List.take_of_length_le (Nat.le_refl _), List.take_of_length_le (by omega)]
@[simp] theorem cutL_from {α : Type} (xs : List α) (n : Nat) : cutL xs (some (n : Int)) none = xs.drop n := by
  unfold cutL
  rw [HT.sIx_none, HT.sIx_nat]
  by_cases h : n ≤ xs.length
  · rw [Nat.min_eq_left h, List.take_of_length_le (by rw [List.length_drop]; omega)]
  · rw [Nat.min_eq_right (by omega), Nat.sub_self, List.take_zero, List.drop_of_length_le (by omega)]
/-! ### all of one kind -/
theorem allM_enc {α : Type} {f : D → Option α} {g : α → D} (h : ∀ a, f (g a) = some a) : ∀ l : List α, allM f (l.map g) = some l
  | [] => rfl
  | a :: l => by
    rw [List.map_cons]
    unfold allM
    rw [h a, Option.bind_some, allM_enc h l]
    rfl
@[simp] theorem intsD_map (l : List Int) : intsD (l.map PyData.int) = some l := allM_enc (g := PyData.int) (fun _ => rfl) l
@[simp] theorem boolsD_map (l : List Bool) : boolsD (l.map PyData.bool) = some l := allM_enc (g := PyData.bool) (fun _ => rfl) l
@[simp] theorem allD_map (l : List Bool) : allD [.list (l.map PyData.bool)] = some (.bool (l.all id)) := by
  unfold allD
  simp only [boolsD_map, Option.map_some]
@[simp] theorem anyD_map (l : List Bool) : anyD [.list (l.map PyData.bool)] = some (.bool (l.any id)) := by
  unfold anyD
  simp only [boolsD_map, Option.map_some]
@[simp] theorem sumD_map (l : List Int) : sumD [.list (l.map PyData.int)] = some (.int l.sum) := by
  unfold sumD
  simp only [intsD_map, Option.map_some]
theorem tupD_ok {ds : List D} (h : ds.length ≤ sizeLine) : tupD ds = some (.tuple ds) := if_pos h
theorem lstO_ok {ds : List D} (h : ds.length ≤ sizeLine) : lstO ds = some (.l ds) := if_pos h
/-- a comprehension all of whose turns give something -/
theorem compL_all {α : Type} {enc : α → D} {body : D → Rs (Option D)} {h : α → D} {xs : List α} (e : ∀ x ∈ xs, body (enc x) = .ok (some (h x))) : compL body (xs.map enc) = .ok (xs.map h) := by
  rw [compL_map (h := fun x => some (h x)) e]
  congr 1
  induction xs with
  | nil => rfl
  | cons x xs ih => rw [List.filterMap_cons, ih fun y hy => e y (List.mem_cons_of_mem _ hy)]; rfl
theorem zipL_enc {α β : Type} (f : α → D) (g : β → D) (xs : List α) (ys : List β) : zipL (xs.map f) (ys.map g) = (xs.zip ys).map fun p => .tuple [f p.1, g p.2] := by
  unfold zipL
  rw [List.zip_map, List.map_map]
  rfl
theorem drop_enc {α β : Type} (f : α → β) (xs : List α) (n : Nat) : (xs.map f).drop n = (xs.drop n).map f := List.map_drop.symm
/-- the loop -/
theorem forS_nx {α : Type} {enc : α → D} {b : D → Ev → Option Ev} {body : Ev → Out} {vs : List Nat} {St : Type} {R : St → Ev → Prop} {step : St → α → St} : ∀ {xs : List α} {s : St} {ρ : Ev}, R s ρ →
    (∀ s ρ, ∀ x ∈ xs, R s ρ → ∃ ρ1 ρ2 ρ3, b (enc x) ρ = some ρ1 ∧ (body ρ1 = .nx ρ2 ∨ body ρ1 = .ct ρ2) ∧ wipeE vs ρ2 = some ρ3 ∧ R (step s x) ρ3) → ∃ ρ', forS b body vs (xs.map enc) ρ = .nx ρ' ∧ R (xs.foldl step s) ρ'
  | [], s, ρ, h, _ => ⟨ρ, rfl, h⟩
  | x :: xs, s, ρ, h, e => by
    obtain ⟨ρ1, ρ2, ρ3, h1, h2, h3, h4⟩ := e s ρ x List.mem_cons_self h
    obtain ⟨ρ', h5, h6⟩ := forS_nx (enc := enc) (b := b) (body := body) (vs := vs) (R := R) (step := step) (xs := xs) h4 fun s ρ y hy => e s ρ y (List.mem_cons_of_mem _ hy)
    refine ⟨ρ', ?_, h6⟩
    rw [List.map_cons]
    unfold forS
    rw [h1]
    show (match body ρ1 with | .nx ρ2 => optO (wipeE vs ρ2) (forS b body vs (xs.map enc)) | .ct ρ2 => optO (wipeE vs ρ2) (forS b body vs (xs.map enc)) | .bk ρ2 => .nx ρ2 | o => o) = _
    rcases h2 with h2 | h2 <;> rw [h2] <;> (show optO (wipeE vs ρ2) _ = _) <;> rw [h3] <;> exact h5
end DL
/-! M1: books, right plans, packings: plain Lean. -/
namespace BK

structure Bk where
  ls : List (List Int)
  cl : List (Nat × Nat × List Int)
  su : List (Nat × Int × List Int)
/-- the channel of a station -/
def ch (p : List Int) (i : Nat) : Int := p.getD i (-1)
def lst (b : Bk) (s : Nat) : List Int := b.ls.getD s []
def absI (d : Int) : Int := if d < 0 then -d else d
/-- what the stations with the channel c bring -/
def load (gs p : List Int) (c : Int) : Int := ((gs.zip p).filterMap fun x => if x.2 = c then some x.1 else none).sum
def okL (b : Bk) (p : List Int) : Prop := ∀ i, i < p.length → ch p i ≠ -1 → ch p i ∈ lst b i
def okC (p : List Int) (c : Nat × Nat × List Int) : Prop := ch p c.1 ≠ -1 → ch p c.2.1 ≠ -1 → absI (ch p c.1 - ch p c.2.1) ∉ c.2.2
def okS (p : List Int) (s : Nat × Int × List Int) : Prop := ch p s.1 ≠ -1 → load s.2.2 p (ch p s.1) ≤ s.2.1
instance (p c) : Decidable (okC p c) := by unfold okC; infer_instance
instance (p c) : Decidable (okS p c) := by unfold okS; infer_instance
instance (b p) : Decidable (okL b p) := by unfold okL; infer_instance
def right (b : Bk) (p : List Int) : Prop := okL b p ∧ (∀ c ∈ b.cl, okC p c) ∧ ∀ s ∈ b.su, okS p s
instance (b p) : Decidable (right b p) := by unfold right; infer_instance
/-- q is p with some stations silent -/
def Sil (q p : List Int) : Prop := q.length = p.length ∧ ∀ i, i < p.length → ch q i = ch p i ∨ ch q i = -1
theorem ch_lt {p : List Int} {i : Nat} (h : i < p.length) : ch p i = p[i] := by
  unfold ch
  rw [List.getD_eq_getElem?_getD, List.getElem?_eq_getElem h]
  rfl
theorem ch_ge {p : List Int} {i : Nat} (h : p.length ≤ i) : ch p i = -1 := by
  unfold ch
  rw [List.getD_eq_getElem?_getD, List.getElem?_eq_none h]
  rfl
theorem Sil.at {q p : List Int} (h : Sil q p) (i : Nat) : ch q i = ch p i ∨ ch q i = -1 := by
  by_cases hi : i < p.length
  · exact h.2 i hi
  · exact .inr (ch_ge (by rw [h.1]; omega))
theorem Sil.refl (p : List Int) : Sil p p := ⟨rfl, fun i _ => .inl rfl⟩
theorem Sil.trans {a b c : List Int} (x : Sil a b) (y : Sil b c) : Sil a c := ⟨x.1.trans y.1, fun i hi => by
  rcases x.at i with h | h
  · rcases y.at i with g | g
    · exact .inl (h.trans g)
    · exact .inr (h.trans g)
  · exact .inr h⟩
theorem load_cons (g : Int) (gs : List Int) (x : Int) (p : List Int) (c : Int) : load (g :: gs) (x :: p) c = (if x = c then g else 0) + load gs p c := by
  unfold load
  rw [List.zip_cons_cons, List.filterMap_cons]
  by_cases h : x = c
  · simp [h]
  · simp [h]
theorem load_nn : ∀ {gs p : List Int} {c : Int}, (∀ g ∈ gs, 0 ≤ g) → 0 ≤ load gs p c
  | [], p, c, _ => by simp [load]
  | g :: gs, [], c, _ => by simp [load]
  | g :: gs, x :: p, c, h => by
    rw [load_cons]
    have h1 := h g List.mem_cons_self
    have h2 := load_nn (p := p) (c := c) fun y hy => h y (List.mem_cons_of_mem _ hy)
    split <;> omega
theorem load_mono : ∀ {gs q p : List Int} {c : Int}, (∀ g ∈ gs, 0 ≤ g) → c ≠ -1 → Sil q p → load gs q c ≤ load gs p c
  | [], q, p, c, _, _, _ => by simp [load]
  | g :: gs, [], [], c, _, _, _ => by simp [load]
  | g :: gs, [], _ :: _, c, _, _, s => by cases s.1
  | g :: gs, _ :: _, [], c, _, _, s => by cases s.1
  | g :: gs, y :: q, x :: p, c, h, hc, s => by
    rw [load_cons, load_cons]
    have h1 := h g List.mem_cons_self
    have s' : Sil q p := ⟨by simpa using s.1, fun i hi => by
      have := s.2 (i + 1) (by simpa using hi)
      simpa [ch] using this⟩
    have h2 := load_mono (c := c) (fun z hz => h z (List.mem_cons_of_mem _ hz)) hc s'
    have h3 : y = x ∨ y = -1 := by simpa [ch] using s.2 0 (by simp)
    rcases h3 with rfl | rfl
    · omega
    · rw [if_neg (Ne.symm hc)]
      split <;> omega
def posG (b : Bk) : Prop := ∀ s ∈ b.su, ∀ g ∈ s.2.2, 0 ≤ g
theorem right_mono {b : Bk} {q p : List Int} (hb : posG b) (s : Sil q p) (h : right b p) : right b q := by
  obtain ⟨h1, h2, h3⟩ := h
  have e : ∀ i, ch q i ≠ -1 → ch q i = ch p i := fun i hi => (s.at i).resolve_right hi
  refine ⟨fun i hi hn => ?_, fun c hc ha hb' => ?_, fun r hr ha => ?_⟩
  · have e1 := e i hn
    rw [e1]
    exact h1 i (by rw [← s.1]; exact hi) (by rw [← e1]; exact hn)
  · have e1 := e _ ha
    have e2 := e _ hb'
    rw [e1, e2]
    rw [e1] at ha
    rw [e2] at hb'
    exact h2 c hc ha hb'
  · have e1 := e _ ha
    have l := load_mono (hb r hr) ha s
    rw [e1] at l ha ⊢
    exact Int.le_trans l (h3 r hr ha)
theorem right_sil {b : Bk} {p : List Int} (hp : ∀ i, ch p i = -1) : right b p := ⟨fun i _ h => absurd (hp i) h, fun c _ h => absurd (hp _) h, fun s _ h => absurd (hp _) h⟩

/-! ### all ways to set stations -/
def E (L : Nat → List Int) : List Nat → List Int → List (List Int)
  | [], p => [p]
  | s :: ss, p => (L s).flatMap fun c => E L ss (p.set s c)
theorem ch_set {p : List Int} {s i : Nat} {c : Int} (h : s < p.length) : ch (p.set s c) i = if i = s then c else ch p i := by
  unfold ch
  rw [List.getD_eq_getElem?_getD, List.getD_eq_getElem?_getD, List.getElem?_set]
  by_cases e : s = i
  · subst e
    rw [if_pos rfl, if_pos h, if_pos rfl]
    rfl
  · rw [if_neg e, if_neg (Ne.symm e)]
/-- the stations are there, each once -/
def Stn (sts : List Nat) (m : Nat) : Prop := sts.Nodup ∧ ∀ s ∈ sts, s < m
theorem Stn.tail {s : Nat} {ss : List Nat} {m : Nat} (h : Stn (s :: ss) m) : Stn ss m := ⟨(List.nodup_cons.mp h.1).2, fun x hx => h.2 x (List.mem_cons_of_mem _ hx)⟩
theorem E_len {L : Nat → List Int} : ∀ {sts : List Nat} {p q : List Int}, q ∈ E L sts p → q.length = p.length
  | [], p, q, h => by
    rw [List.mem_singleton.mp h]
  | s :: ss, p, q, h => by
    obtain ⟨c, _, h⟩ := List.mem_flatMap.mp h
    rw [E_len h, List.length_set]
theorem E_mem {L : Nat → List Int} : ∀ {sts : List Nat} {p q : List Int}, Stn sts p.length → (q ∈ E L sts p ↔ q.length = p.length ∧ (∀ i, i ∉ sts → ch q i = ch p i) ∧ ∀ s ∈ sts, ch q s ∈ L s)
  | [], p, q, _ => by
    constructor
    · intro h
      rw [List.mem_singleton.mp h]
      exact ⟨rfl, fun _ _ => rfl, fun s hs => by cases hs⟩
    · rintro ⟨h1, h2, _⟩
      refine List.mem_singleton.mpr (List.ext_getElem h1 fun i h3 h4 => ?_)
      have := h2 i (by simp)
      rwa [ch_lt h3, ch_lt h4] at this
  | s :: ss, p, q, st => by
    have hs : s < p.length := st.2 s List.mem_cons_self
    have hn : s ∉ ss := (List.nodup_cons.mp st.1).1
    constructor
    · intro h
      obtain ⟨c, hc, h⟩ := List.mem_flatMap.mp h
      obtain ⟨h1, h2, h3⟩ := (E_mem (by rw [List.length_set]; exact st.tail)).mp h
      rw [List.length_set] at h1
      refine ⟨h1, fun i hi => ?_, fun x hx => ?_⟩
      · simp only [List.mem_cons, not_or] at hi
        rw [h2 i hi.2, ch_set hs, if_neg hi.1]
      · rcases List.mem_cons.mp hx with rfl | hx
        · rw [h2 x hn, ch_set hs, if_pos rfl]
          exact hc
        · exact h3 x hx
    · rintro ⟨h1, h2, h3⟩
      refine List.mem_flatMap.mpr ⟨ch q s, h3 s List.mem_cons_self, (E_mem (by rw [List.length_set]; exact st.tail)).mpr ⟨by rw [List.length_set]; exact h1, fun i hi => ?_, fun x hx => h3 x (List.mem_cons_of_mem _ hx)⟩⟩
      rw [ch_set hs]
      split
      · rename_i e
        rw [e]
      · rename_i e
        exact h2 i (by simp only [List.mem_cons, not_or]; exact ⟨e, hi⟩)
/-- the stations are not yet set -/
def Uns (sts : List Nat) (p : List Int) : Prop := ∀ s ∈ sts, ch p s = -1
theorem Uns.set {s : Nat} {ss : List Nat} {p : List Int} {c : Int} (st : Stn (s :: ss) p.length) (u : Uns (s :: ss) p) : Uns ss (p.set s c) := fun x hx => by
  rw [ch_set (st.2 s List.mem_cons_self), if_neg]
  · exact u x (List.mem_cons_of_mem _ hx)
  · intro e
    subst e
    exact (List.nodup_cons.mp st.1).1 hx
theorem E_sil {L : Nat → List Int} {sts : List Nat} {p q : List Int} (st : Stn sts p.length) (u : Uns sts p) (h : q ∈ E L sts p) : Sil p q := by
  obtain ⟨h1, h2, h3⟩ := (E_mem st).mp h
  refine ⟨h1.symm, fun i _ => ?_⟩
  by_cases hi : i ∈ sts
  · exact .inr (u i hi)
  · exact .inl (h2 i hi).symm

/-! ### the search -/
def fp (b : Bk) (A : List Int) : List Nat → List Int → Option (List Int)
  | [], p => some p
  | s :: ss, p => (lst b s).findSome? fun c => if c ∈ A ∧ right b (p.set s c) then fp b A ss (p.set s c) else none
theorem fp_some {b : Bk} {A : List Int} (hb : posG b) : ∀ {sts : List Nat} {p : List Int}, Stn sts p.length → Uns sts p → right b p → ((fp b A sts p).isSome ↔ ∃ q ∈ E (fun s => (lst b s).filter (· ∈ A)) sts p, right b q)
  | [], p, _, _, h => ⟨fun _ => ⟨p, List.mem_singleton.mpr rfl, h⟩, fun _ => rfl⟩
  | s :: ss, p, st, u, h => by
    unfold fp
    rw [List.isSome_findSome?]
    rw [List.any_eq_true]
    constructor
    · rintro ⟨c, hc, h1⟩
      split at h1
      · rename_i h2
        obtain ⟨q, h3, h4⟩ := (fp_some hb (by rw [List.length_set]; exact st.tail) (u.set st) h2.2).mp h1
        exact ⟨q, List.mem_flatMap.mpr ⟨c, List.mem_filter.mpr ⟨hc, by simpa using h2.1⟩, h3⟩, h4⟩
      · cases h1
    · rintro ⟨q, hq, h4⟩
      obtain ⟨c, hc, h3⟩ := List.mem_flatMap.mp hq
      obtain ⟨hc1, hc2⟩ := List.mem_filter.mp hc
      have st' : Stn ss (p.set s c).length := by rw [List.length_set]; exact st.tail
      have r : right b (p.set s c) := right_mono hb (E_sil st' (u.set st) h3) h4
      refine ⟨c, hc1, ?_⟩
      rw [if_pos ⟨by simpa using hc2, r⟩]
      exact (fp_some hb st' (u.set st) r).mpr ⟨q, h3, h4⟩

/-! ### the packings, as the program and as the law find them -/
def kids (b : Bk) (s : Nat) (rows : List (List Int)) : List (List Int) := rows.flatMap fun p => (lst b s).filterMap fun c => if right b (p.set s c) then some (p.set s c) else none
def PR (b : Bk) (A : List Int) : List Nat → List (List Int) → List (List Int)
  | [], rows => rows
  | s :: ss, rows => PR b A ss ((kids b s rows).filter fun o => (fp b A ss o).isSome)
def LR (b : Bk) : List Nat → List (List Int) → List (List Int)
  | [], rows => rows
  | s :: ss, rows => LR b ss (kids b s rows)
def R (b : Bk) (sts : List Nat) (p : List Int) : List (List Int) := (E (lst b) sts p).filter (right b ·)
theorem flatMap_cg {α β : Type} {f g : α → List β} : ∀ {l : List α}, (∀ a ∈ l, f a = g a) → l.flatMap f = l.flatMap g
  | [], _ => rfl
  | a :: l, h => by
    rw [List.flatMap_cons, List.flatMap_cons, h a List.mem_cons_self, flatMap_cg fun x hx => h x (List.mem_cons_of_mem _ hx)]
theorem flatMap_drop {α β : Type} (f : α → List β) (p : α → Bool) : ∀ {l : List α}, (∀ a ∈ l, p a = false → f a = []) → (l.filter p).flatMap f = l.flatMap f
  | [], _ => rfl
  | a :: l, h => by
    have ih := flatMap_drop f p fun x hx => h x (List.mem_cons_of_mem _ hx)
    cases e : p a with
    | true => rw [List.filter_cons_of_pos e, List.flatMap_cons, List.flatMap_cons, ih]
    | false => rw [List.filter_cons_of_neg (by rw [e]; simp), List.flatMap_cons, ih, h a List.mem_cons_self e]; rfl
theorem kids_flat {b : Bk} {s : Nat} {rows : List (List Int)} {f : List Int → List (List Int)} (h : ∀ p ∈ rows, ∀ c ∈ lst b s, ¬ right b (p.set s c) → f (p.set s c) = []) : (kids b s rows).flatMap f = rows.flatMap fun p => (lst b s).flatMap fun c => f (p.set s c) := by
  unfold kids
  rw [List.flatMap_assoc]
  refine flatMap_cg fun p hp => ?_
  have g := h p hp
  generalize lst b s = l at g ⊢
  induction l with
  | nil => rfl
  | cons c l ih =>
    have ih := ih fun x hx => g x (List.mem_cons_of_mem _ hx)
    rw [List.filterMap_cons, List.flatMap_cons]
    by_cases hr : right b (p.set s c)
    · rw [if_pos hr, List.flatMap_cons, ih]
    · rw [if_neg hr, ih, g c List.mem_cons_self hr]
      rfl
theorem kids_mem {b : Bk} {s : Nat} {rows : List (List Int)} {o : List Int} (h : o ∈ kids b s rows) : right b o ∧ ∃ p ∈ rows, ∃ c ∈ lst b s, o = p.set s c := by
  obtain ⟨p, hp, h⟩ := List.mem_flatMap.mp h
  obtain ⟨c, hc, h⟩ := List.mem_filterMap.mp h
  split at h
  · rename_i hr
    cases h
    exact ⟨hr, p, hp, c, hc, rfl⟩
  · cases h
/-- what holds of the rows -/
def Rows (b : Bk) (sts : List Nat) (m : Nat) (rows : List (List Int)) : Prop := ∀ p ∈ rows, p.length = m ∧ Uns sts p ∧ right b p
theorem Rows.kids {b : Bk} {s : Nat} {ss : List Nat} {m : Nat} {rows : List (List Int)} (st : Stn (s :: ss) m) (h : Rows b (s :: ss) m rows) : Rows b ss m (kids b s rows) := fun o ho => by
  obtain ⟨hr, p, hp, c, hc, rfl⟩ := kids_mem ho
  obtain ⟨h1, h2, h3⟩ := h p hp
  exact ⟨by rw [List.length_set]; exact h1, h2.set (by rw [h1]; exact st), hr⟩
theorem R_cons (b : Bk) (s : Nat) (ss : List Nat) (p : List Int) : R b (s :: ss) p = (lst b s).flatMap fun c => R b ss (p.set s c) := by
  unfold R
  show ((lst b s).flatMap fun c => E (lst b) ss (p.set s c)).filter _ = _
  rw [List.filter_flatMap]
theorem R_no {b : Bk} (hb : posG b) {s : Nat} {ss : List Nat} {p : List Int} {c : Int} (st : Stn (s :: ss) p.length) (u : Uns (s :: ss) p) (h : ¬ right b (p.set s c)) : R b ss (p.set s c) = [] := by
  refine List.filter_eq_nil_iff.mpr fun q hq => ?_
  simp only [decide_eq_true_eq]
  exact fun r => h (right_mono hb (E_sil (by rw [List.length_set]; exact st.tail) (u.set st) hq) r)
theorem LR_eq {b : Bk} (hb : posG b) {m : Nat} : ∀ {sts : List Nat} {rows : List (List Int)}, Stn sts m → Rows b sts m rows → LR b sts rows = rows.flatMap fun p => R b sts p
  | [], rows, _, h => by
    show rows = _
    have : (rows.flatMap fun p => R b [] p) = rows.flatMap fun p => [p] := flatMap_cg fun p hp => by
      show (List.filter _ [p]) = [p]
      rw [List.filter_cons_of_pos (by simpa using (h p hp).2.2)]
      rfl
    rw [this, List.flatMap_singleton']
  | s :: ss, rows, st, h => by
    show LR b ss (kids b s rows) = _
    rw [LR_eq hb st.tail (h.kids st), kids_flat fun p hp c _ hr => R_no hb (by rw [(h p hp).1]; exact st) (h p hp).2.1 hr]
    exact flatMap_cg fun p _ => (R_cons b s ss p).symm
theorem PR_eq {b : Bk} (hb : posG b) {A : List Int} (hA : ∀ s, ∀ c ∈ lst b s, c ∈ A) {m : Nat} : ∀ {sts : List Nat} {rows : List (List Int)}, Stn sts m → Rows b sts m rows → PR b A sts rows = rows.flatMap fun p => R b sts p
  | [], rows, st, h => LR_eq hb (sts := []) st h
  | s :: ss, rows, st, h => by
    show PR b A ss _ = _
    have hk := h.kids st
    rw [PR_eq hb hA st.tail fun p hp => hk p (List.mem_filter.mp hp).1, flatMap_drop, kids_flat fun p hp c _ hr => R_no hb (by rw [(h p hp).1]; exact st) (h p hp).2.1 hr]
    · exact flatMap_cg fun p _ => (R_cons b s ss p).symm
    · intro o ho hn
      obtain ⟨h1, h2, h3⟩ := hk o ho
      refine List.filter_eq_nil_iff.mpr fun q hq => ?_
      simp only [decide_eq_true_eq]
      intro hr
      have e : (fun s => (lst b s).filter (· ∈ A)) = lst b := funext fun s => List.filter_eq_self.mpr fun c hc => by simpa using hA s c hc
      have := (fp_some (A := A) hb (by rw [h1]; exact st.tail) h2 h3).mpr ⟨q, by rw [e]; exact hq, hr⟩
      rw [hn] at this
      cases this
end BK
/-! M2: parts of books, order, looser books, least bands. -/
namespace BK
open DL

/-! ### the order of plans with the same stations -/
theorem asc_pos {s : Nat} {ss : List Nat} (h : (s :: ss).Pairwise (· < ·)) : ∀ x ∈ ss, s < x := (List.pairwise_cons.mp h).1
theorem shift_map {x : Int} {a : List Int} {sts : List Nat} (h : ∀ s ∈ sts, 0 < s) : sts.map (ch (x :: a)) = (sts.map Nat.pred).map (ch a) := by
  rw [List.map_map]
  refine List.map_congr_left fun s hs => ?_
  obtain ⟨n, rfl⟩ : ∃ n, s = n + 1 := ⟨s - 1, by have := h s hs; omega⟩
  simp [ch]
theorem shift_asc : ∀ {sts : List Nat}, (∀ s ∈ sts, 0 < s) → sts.Pairwise (· < ·) → (sts.map Nat.pred).Pairwise (· < ·) := fun {sts} h p => by
  refine List.pairwise_map.mpr (p.imp_of_mem fun {a b} ha hb hab => ?_)
  have := h a ha
  have := h b hb
  show a - 1 < b - 1
  omega
theorem lex_proj : ∀ {a b : List Int} {sts : List Nat}, a.length = b.length → sts.Pairwise (· < ·) → (∀ s ∈ sts, s < a.length) → (∀ i, i ∉ sts → ch a i = ch b i) → lexI (sts.map (ch a)) (sts.map (ch b)) = lexI a b
  | [], [], sts, _, _, h, _ => by
    cases sts with
    | nil => rfl
    | cons s ss => exact absurd (h s List.mem_cons_self) (by simp)
  | [], _ :: _, _, h, _, _, _ => by cases h
  | _ :: _, [], _, h, _, _, _ => by cases h
  | x :: a, y :: b, sts, hl, hp, hs, he => by
    have hl' : a.length = b.length := by simpa using hl
    by_cases h0 : 0 ∈ sts
    · obtain ⟨ss, rfl⟩ : ∃ ss, sts = 0 :: ss := by
        cases sts with
        | nil => cases h0
        | cons s ss =>
          rcases List.mem_cons.mp h0 with e | e
          · exact ⟨ss, by rw [← e]⟩
          · exact absurd (asc_pos hp 0 e) (by omega)
      have hpos : ∀ s ∈ ss, 0 < s := asc_pos hp
      have ih := lex_proj (a := a) (b := b) (sts := ss.map Nat.pred) hl' (shift_asc hpos (List.pairwise_cons.mp hp).2) (fun s hs' => by
        obtain ⟨t, ht, rfl⟩ := List.mem_map.mp hs'
        have h1 := hpos t ht
        have h2 := hs t (List.mem_cons_of_mem _ ht)
        simp only [List.length_cons] at h2
        show t - 1 < _
        omega) (fun i hi => by
        have h1 := he (i + 1) (by
          simp only [List.mem_cons, not_or]
          exact ⟨by omega, fun z => hi (List.mem_map.mpr ⟨i + 1, z, rfl⟩)⟩)
        simpa [ch] using h1)
      rw [List.map_cons, List.map_cons, shift_map hpos, shift_map hpos]
      show lexI (x :: _) (y :: _) = _
      unfold lexI
      rw [ih]
    · have hpos : ∀ s ∈ sts, 0 < s := fun s hs' => Nat.pos_of_ne_zero fun z => h0 (by rw [← z]; exact hs')
      have exy : x = y := by simpa [ch] using he 0 h0
      subst exy
      have ih := lex_proj (a := a) (b := b) (sts := sts.map Nat.pred) hl' (shift_asc hpos hp) (fun s hs' => by
        obtain ⟨t, ht, rfl⟩ := List.mem_map.mp hs'
        have h1 := hpos t ht
        have h2 := hs t ht
        simp only [List.length_cons] at h2
        show t - 1 < _
        omega) (fun i hi => by
        have h1 := he (i + 1) fun z => hi (List.mem_map.mpr ⟨i + 1, z, rfl⟩)
        simpa [ch] using h1)
      rw [shift_map hpos, shift_map hpos, ih]
      conv => rhs; unfold lexI
      rw [if_pos rfl]
theorem insT_map {f : List Int → List Int} {n : List Int} : ∀ {l : List (List Int)}, (∀ m ∈ l, lexI (f m) (f n) = lexI m n) → insT (f n) (l.map f) = (insT n l).map f
  | [], _ => rfl
  | m :: l, h => by
    rw [List.map_cons]
    unfold insT
    rw [h m List.mem_cons_self]
    split
    · rw [List.map_cons, insT_map fun x hx => h x (List.mem_cons_of_mem _ hx)]
    · rfl
theorem srtT_map {f : List Int → List Int} : ∀ {l : List (List Int)}, (∀ m ∈ l, ∀ n ∈ l, lexI (f m) (f n) = lexI m n) → srtT (l.map f) = (srtT l).map f
  | [], _ => rfl
  | n :: l, h => by
    rw [List.map_cons]
    show insT (f n) (srtT (l.map f)) = (insT n (srtT l)).map f
    rw [srtT_map fun a ha b hb => h a (List.mem_cons_of_mem _ ha) b (List.mem_cons_of_mem _ hb)]
    exact insT_map fun m hm => h m (List.mem_cons_of_mem _ ((srtT_perm l).mem_iff.mp hm)) n List.mem_cons_self

/-! ### the book of some stations alone -/
def proj (sts : List Nat) (p : List Int) : List Int := sts.map (ch p)
def part (b : Bk) (sts : List Nat) : Bk := ⟨sts.map (lst b), b.cl.filterMap fun c => if c.1 ∈ sts ∧ c.2.1 ∈ sts then some (sts.idxOf c.1, sts.idxOf c.2.1, c.2.2) else none,
  b.su.filterMap fun s => if s.1 ∈ sts then some (sts.idxOf s.1, s.2.1, sts.map (s.2.2.getD · 0)) else none⟩
theorem ch_proj {sts : List Nat} {p : List Int} {i : Nat} (h : i < sts.length) : ch (proj sts p) i = ch p sts[i] := by
  unfold ch proj
  rw [List.getD_eq_getElem?_getD, List.getElem?_map, List.getElem?_eq_getElem h]
  rfl
theorem ch_idx {sts : List Nat} {p : List Int} {s : Nat} (h : s ∈ sts) : ch (proj sts p) (sts.idxOf s) = ch p s := by
  rw [ch_proj (List.idxOf_lt_length_iff.mpr h), List.getElem_idxOf]
theorem lst_part {b : Bk} {sts : List Nat} {i : Nat} (h : i < sts.length) : lst (part b sts) i = lst b sts[i] := by
  unfold lst part
  rw [List.getD_eq_getElem?_getD, List.getElem?_map, List.getElem?_eq_getElem h]
  rfl
/-- the load, station by station -/
theorem load_range : ∀ {gs p : List Int} {c : Int}, gs.length = p.length → load gs p c = ((List.range p.length).map fun k => if ch p k = c then gs.getD k 0 else 0).sum
  | [], [], c, _ => by simp [load]
  | [], _ :: _, _, h => by cases h
  | _ :: _, [], _, h => by cases h
  | g :: gs, x :: p, c, h => by
    rw [load_cons, load_range (by simpa using h), List.length_cons, List.range_succ_eq_map, List.map_cons, List.sum_cons, List.map_map]
    congr 1
theorem sum_zero {f : Nat → Int} (P : Nat → Bool) : ∀ {l : List Nat}, (∀ k ∈ l, P k = false → f k = 0) → (l.map f).sum = ((l.filter P).map f).sum
  | [], _ => rfl
  | k :: l, h => by
    have ih := sum_zero P fun x hx => h x (List.mem_cons_of_mem _ hx)
    rw [List.map_cons, List.sum_cons, ih]
    cases e : P k with
    | true => rw [List.filter_cons_of_pos e, List.map_cons, List.sum_cons]
    | false => rw [List.filter_cons_of_neg (by rw [e]; simp), h k List.mem_cons_self e, Int.zero_add]
theorem asc_filter {m : Nat} {sts : List Nat} (h : sts.Pairwise (· < ·)) (hm : ∀ s ∈ sts, s < m) : (List.range m).filter (fun k => decide (k ∈ sts)) = sts := by
  refine List.Perm.eq_of_pairwise (le := (· < ·)) (fun a b _ _ h1 h2 => absurd h1 (by omega)) (List.Pairwise.filter _ List.pairwise_lt_range) h ?_
  refine (List.perm_ext_iff_of_nodup ((List.nodup_range).filter _) (h.imp fun {a b} x => Nat.ne_of_lt x)).mpr fun k => ?_
  simp only [List.mem_filter, List.mem_range, decide_eq_true_eq]
  exact ⟨fun z => z.2, fun z => ⟨hm k z, z⟩⟩
theorem load_part {gs p : List Int} {c : Int} {sts : List Nat} (hc : c ≠ -1) (hl : gs.length = p.length) (ha : sts.Pairwise (· < ·)) (hm : ∀ s ∈ sts, s < p.length) (ho : ∀ i, i ∉ sts → ch p i = -1) : load (sts.map (gs.getD · 0)) (proj sts p) c = load gs p c := by
  rw [load_range (by simp [proj]), load_range hl, sum_zero (fun k => decide (k ∈ sts)) (l := List.range p.length) fun k _ hk => ?_, asc_filter ha hm]
  · have e : (proj sts p).length = sts.length := by simp [proj]
    rw [e]
    congr 1
    refine List.ext_getElem (by simp) fun i h1 h2 => ?_
    have hi : i < sts.length := by simpa using h2
    rw [List.getElem_map, List.getElem_map, List.getElem_range, ch_proj hi]
    congr 1
    rw [List.getD_eq_getElem?_getD, List.getElem?_map, List.getElem?_eq_getElem hi]
    rfl
  · simp only [decide_eq_false_iff_not] at hk
    rw [if_neg]
    rw [ho k hk]
    exact Ne.symm hc
/-- the sums of a book have a gain for each station -/
def lenG (b : Bk) (m : Nat) : Prop := ∀ s ∈ b.su, s.2.2.length = m
theorem right_part {b : Bk} {sts : List Nat} {p : List Int} (hg : lenG b p.length) (ha : sts.Pairwise (· < ·)) (hm : ∀ s ∈ sts, s < p.length) (ho : ∀ i, i ∉ sts → ch p i = -1) : right (part b sts) (proj sts p) ↔ right b p := by
  have hin : ∀ i, ch p i ≠ -1 → i ∈ sts := fun i hi => Classical.byContradiction fun z => hi (ho i z)
  constructor
  · rintro ⟨h1, h2, h3⟩
    refine ⟨fun i hi hn => ?_, fun c hc a1 a2 => ?_, fun s hs a1 => ?_⟩
    · have hk := hin i hn
      have hlt := List.idxOf_lt_length_iff.mpr hk
      have := h1 (sts.idxOf i) (by simpa [proj] using hlt) (by rw [ch_idx hk]; exact hn)
      rw [ch_idx hk, lst_part hlt, List.getElem_idxOf] at this
      exact this
    · have k1 := hin _ a1
      have k2 := hin _ a2
      have := h2 (sts.idxOf c.1, sts.idxOf c.2.1, c.2.2) (List.mem_filterMap.mpr ⟨c, hc, by rw [if_pos ⟨k1, k2⟩]⟩) (by rw [ch_idx k1]; exact a1) (by rw [ch_idx k2]; exact a2)
      simp only [ch_idx k1, ch_idx k2] at this
      exact this
    · have k1 := hin _ a1
      have := h3 (sts.idxOf s.1, s.2.1, sts.map (s.2.2.getD · 0)) (List.mem_filterMap.mpr ⟨s, hs, by rw [if_pos k1]⟩) (by rw [ch_idx k1]; exact a1)
      simp only [ch_idx k1] at this
      rw [load_part a1 (hg s hs) ha hm ho] at this
      exact this
  · rintro ⟨h1, h2, h3⟩
    refine ⟨fun i hi hn => ?_, fun c hc a1 a2 => ?_, fun s hs a1 => ?_⟩
    · have hi' : i < sts.length := by simpa [proj] using hi
      rw [ch_proj hi'] at hn ⊢
      rw [lst_part hi']
      exact h1 _ (hm _ (List.getElem_mem hi')) hn
    · obtain ⟨d, hd, e⟩ := List.mem_filterMap.mp hc
      split at e
      · rename_i k
        cases e
        simp only [ch_idx k.1, ch_idx k.2] at a1 a2 ⊢
        exact h2 d hd a1 a2
      · cases e
    · obtain ⟨d, hd, e⟩ := List.mem_filterMap.mp hs
      split at e
      · rename_i k
        cases e
        simp only [ch_idx k] at a1 ⊢
        rw [load_part a1 (hg d hd) ha hm ho]
        exact h3 d hd a1
      · cases e
theorem proj_set {sts : List Nat} {p : List Int} {s i : Nat} {c : Int} (hn : sts.Nodup) (hs : s < p.length) (hi : sts[i]? = some s) : (proj sts p).set i c = proj sts (p.set s c) := by
  obtain ⟨hil, e⟩ := List.getElem?_eq_some_iff.mp hi
  refine List.ext_getElem (by simp [proj]) fun j h1 h2 => ?_
  have hj : j < sts.length := by simpa [proj] using h2
  have hj' : j < (proj sts p).length := by simpa [proj] using hj
  rw [List.getElem_set, ← ch_lt hj', ch_proj hj, ← ch_lt h2, ch_proj hj, ch_set hs]
  by_cases ej : i = j
  · subst ej
    rw [if_pos rfl, if_pos e]
  · rw [if_neg ej, if_neg]
    intro z
    exact ej ((List.getElem_inj hn).mp (e.trans z.symm))
theorem E_part {b : Bk} {sts : List Nat} (hn : sts.Nodup) {m : Nat} (hm : ∀ s ∈ sts, s < m) : ∀ {ss pre : List Nat} {p : List Int}, sts = pre ++ ss → p.length = m →
    E (lst (part b sts)) (List.range' pre.length ss.length) (proj sts p) = (E (lst b) ss p).map (proj sts)
  | [], pre, p, _, _ => rfl
  | s :: ss, pre, p, e, hp => by
    have hi : sts[pre.length]? = some s := by rw [e, List.getElem?_append_right (Nat.le_refl _)]; simp
    obtain ⟨hil, es⟩ := List.getElem?_eq_some_iff.mp hi
    show ((lst (part b sts) pre.length).flatMap fun c => E (lst (part b sts)) (List.range' (pre.length + 1) ss.length) ((proj sts p).set pre.length c)) = ((lst b s).flatMap fun c => E (lst b) ss (p.set s c)).map (proj sts)
    rw [lst_part hil, es, List.map_flatMap]
    refine flatMap_cg fun c _ => ?_
    have hs : s < p.length := by rw [hp, ← es]; exact hm _ (List.getElem_mem hil)
    rw [proj_set hn hs hi]
    have := E_part (b := b) hn hm (ss := ss) (pre := pre ++ [s]) (p := p.set s c) (by rw [e, List.append_assoc]; rfl) (by rw [List.length_set]; exact hp)
    rw [List.length_append, List.length_singleton] at this
    exact this
/-- all silent -/
def sil (m : Nat) : List Int := List.replicate m (-1)
theorem ch_sil {m i : Nat} : ch (sil m) i = -1 := by
  unfold ch sil
  rw [List.getD_eq_getElem?_getD, List.getElem?_replicate]
  split <;> rfl
theorem R_part {b : Bk} {sts : List Nat} {m : Nat} (hg : lenG b m) (ha : sts.Pairwise (· < ·)) (hm : ∀ s ∈ sts, s < m) : R (part b sts) (List.range sts.length) (sil sts.length) = (R b sts (sil m)).map (proj sts) := by
  have hn : sts.Nodup := ha.imp fun {a b} x => Nat.ne_of_lt x
  have e := E_part (b := b) hn hm (ss := sts) (pre := []) (p := sil m) rfl (by simp [sil])
  have ep : proj sts (sil m) = sil sts.length := by
    refine List.ext_getElem (by simp [proj, sil]) fun i h1 h2 => ?_
    rw [← ch_lt h1, ← ch_lt h2, ch_proj (by simpa [proj] using h1), ch_sil, ch_sil]
  rw [ep] at e
  unfold R
  rw [List.range_eq_range']
  have e : E (lst (part b sts)) (List.range' 0 sts.length) (sil sts.length) = (E (lst b) sts (sil m)).map (proj sts) := e
  rw [e, List.filter_map]
  congr 1
  refine List.filter_congr fun q hq => ?_
  have st : Stn sts (sil m).length := ⟨hn, by simpa [sil] using hm⟩
  obtain ⟨q1, q2, q3⟩ := (E_mem st).mp hq
  have q1' : q.length = m := by rw [q1]; simp [sil]
  show decide (right (part b sts) (proj sts q)) = decide (right b q)
  exact decide_eq_decide.mpr (right_part (by rw [q1']; exact hg) ha (by rw [q1']; exact hm) fun i hi => by rw [q2 i hi, ch_sil])
theorem R_lex {b : Bk} {sts : List Nat} {m : Nat} (ha : sts.Pairwise (· < ·)) (hm : ∀ s ∈ sts, s < m) : ∀ x ∈ R b sts (sil m), ∀ y ∈ R b sts (sil m), lexI (proj sts x) (proj sts y) = lexI x y := by
  intro x hx y hy
  have st : Stn sts (sil m).length := ⟨ha.imp fun {a b} x => Nat.ne_of_lt x, by simpa [sil] using hm⟩
  obtain ⟨x1, x2, _⟩ := (E_mem st).mp (List.mem_filter.mp hx).1
  obtain ⟨y1, y2, _⟩ := (E_mem st).mp (List.mem_filter.mp hy).1
  refine lex_proj (x1.trans y1.symm) ha (fun s hs => ?_) fun i hi => (x2 i hi).trans (y2 i hi).symm
  rw [x1]
  exact st.2 s hs

/-! ### the least band -/
def upto (m : Int) : List Int := (List.range (m + 1).toNat).map fun (k : Nat) => (k : Int)
theorem mem_upto {m c : Int} : c ∈ upto m ↔ 0 ≤ c ∧ c ≤ m := by
  unfold upto
  simp only [List.mem_map, List.mem_range]
  constructor
  · rintro ⟨k, h, rfl⟩
    omega
  · rintro ⟨h1, h2⟩
    exact ⟨c.toNat, by omega, by omega⟩
/-- the band of a book -/
def Band (b : Bk) (bd : List Int) : Prop := bd.Pairwise (· ≤ ·) ∧ ∀ c, c ∈ bd ↔ ∃ l ∈ b.ls, c ∈ l
def lb (b : Bk) (bd : List Int) (sts : List Nat) : Option Int := if sts = [] then some 0 else bd.findSome? fun m => if (fp b (upto m) sts (sil b.ls.length)).isSome then some (m + 1) else none
theorem lst_mem {b : Bk} {s : Nat} (h : s < b.ls.length) : lst b s ∈ b.ls := by
  unfold lst
  rw [List.getD_eq_getElem?_getD, List.getElem?_eq_getElem h]
  exact List.getElem_mem h
def nnL (b : Bk) : Prop := ∀ l ∈ b.ls, ∀ c ∈ l, 0 ≤ c
theorem fp_upto {b : Bk} {sts : List Nat} {m : Int} (hb : posG b) (hn : nnL b) (st : Stn sts b.ls.length) :
    (fp b (upto m) sts (sil b.ls.length)).isSome ↔ ∃ q ∈ R b sts (sil b.ls.length), ∀ s ∈ sts, ch q s ≤ m := by
  have st' : Stn sts (sil b.ls.length).length := by simpa [sil] using st
  rw [fp_some hb st' (fun s _ => ch_sil) (right_sil fun i => ch_sil)]
  constructor
  · rintro ⟨q, hq, hr⟩
    obtain ⟨h1, h2, h3⟩ := (E_mem st').mp hq
    refine ⟨q, List.mem_filter.mpr ⟨(E_mem st').mpr ⟨h1, h2, fun s hs => (List.mem_filter.mp (h3 s hs)).1⟩, by simpa using hr⟩, fun s hs => ?_⟩
    have := (List.mem_filter.mp (h3 s hs)).2
    exact (mem_upto.mp (by simpa using this)).2
  · rintro ⟨q, hq, hm⟩
    obtain ⟨h0, hr⟩ := List.mem_filter.mp hq
    obtain ⟨h1, h2, h3⟩ := (E_mem st').mp h0
    refine ⟨q, (E_mem st').mpr ⟨h1, h2, fun s hs => List.mem_filter.mpr ⟨h3 s hs, ?_⟩⟩, by simpa using hr⟩
    simpa using mem_upto.mpr ⟨hn _ (lst_mem (st.2 s hs)) _ (h3 s hs), hm s hs⟩
/-- the greatest channel in use -/
theorem top_of : ∀ {sts : List Nat} {q : List Int}, sts ≠ [] → ∃ s ∈ sts, ∀ t ∈ sts, ch q t ≤ ch q s
  | [], _, h => absurd rfl h
  | [s], q, _ => ⟨s, List.mem_cons_self, fun t ht => by rw [List.mem_singleton.mp ht]; exact Int.le_refl _⟩
  | s :: t :: ss, q, _ => by
    obtain ⟨u, hu, h⟩ := top_of (sts := t :: ss) (q := q) (by simp)
    by_cases e : ch q s ≤ ch q u
    · refine ⟨u, List.mem_cons_of_mem _ hu, fun x hx => ?_⟩
      rcases List.mem_cons.mp hx with rfl | hx
      · exact e
      · exact h x hx
    · refine ⟨s, List.mem_cons_self, fun x hx => ?_⟩
      rcases List.mem_cons.mp hx with rfl | hx
      · exact Int.le_refl _
      · have := h x hx
        omega
theorem find_le {f : Int → Bool} : ∀ {bd : List Int} {m : Int}, bd.Pairwise (· ≤ ·) → m ∈ bd → f m = true → ∃ k, bd.findSome? (fun m => if f m = true then some (m + 1) else none) = some (k + 1) ∧ k ≤ m
  | [], m, _, h, _ => by cases h
  | a :: bd, m, hp, hm, hf => by
    rw [List.findSome?_cons]
    by_cases ha : f a = true
    · rw [if_pos ha]
      refine ⟨a, rfl, ?_⟩
      rcases List.mem_cons.mp hm with rfl | hm
      · exact Int.le_refl _
      · exact (List.pairwise_cons.mp hp).1 m hm
    · rw [if_neg ha]
      rcases List.mem_cons.mp hm with rfl | hm
      · exact absurd hf ha
      · exact find_le (List.pairwise_cons.mp hp).2 hm hf
theorem lb_of {b : Bk} {bd : List Int} {sts : List Nat} {q : List Int} {m : Int} (hb : posG b) (hn : nnL b) (hd : Band b bd) (st : Stn sts b.ls.length) (hs : sts ≠ []) (hq : q ∈ R b sts (sil b.ls.length)) (hm : ∀ s ∈ sts, ch q s ≤ m) : ∃ k, lb b bd sts = some (k + 1) ∧ k ≤ m := by
  unfold lb
  rw [if_neg hs]
  obtain ⟨s, hs1, hs2⟩ := top_of (q := q) hs
  have st' : Stn sts (sil b.ls.length).length := by simpa [sil] using st
  have h3 := ((E_mem st').mp (List.mem_filter.mp hq).1).2.2 s hs1
  obtain ⟨k, h4, h5⟩ := find_le (f := fun m => (fp b (upto m) sts (sil b.ls.length)).isSome) hd.1 ((hd.2 (ch q s)).mpr ⟨_, lst_mem (st.2 s hs1), h3⟩) ((fp_upto hb hn st).mpr ⟨q, hq, hs2⟩)
  exact ⟨k, h4, Int.le_trans h5 (hm s hs1)⟩
theorem lb_inv {b : Bk} {bd : List Int} {sts : List Nat} {x : Int} (hb : posG b) (hn : nnL b) (st : Stn sts b.ls.length) (hs : sts ≠ []) (h : lb b bd sts = some x) : ∃ q ∈ R b sts (sil b.ls.length), ∀ s ∈ sts, ch q s ≤ x - 1 := by
  unfold lb at h
  rw [if_neg hs] at h
  obtain ⟨m, _, h1⟩ := List.exists_of_findSome?_eq_some h
  split at h1
  · rename_i hf
    cases h1
    obtain ⟨q, hq, hm⟩ := (fp_upto hb hn st).mp hf
    exact ⟨q, hq, fun s hs => by have := hm s hs; omega⟩
  · cases h1
theorem R_nil {b : Bk} {m : Nat} : R b [] (sil m) = [sil m] := by
  unfold R
  show List.filter _ [sil m] = _
  rw [List.filter_cons_of_pos (by simpa using right_sil fun i => ch_sil)]
  rfl
theorem lb_none {b : Bk} {bd : List Int} {sts : List Nat} (hb : posG b) (hn : nnL b) (hd : Band b bd) (st : Stn sts b.ls.length) : lb b bd sts = none ↔ R b sts (sil b.ls.length) = [] := by
  by_cases hs : sts = []
  · subst hs
    rw [R_nil]
    unfold lb
    simp
  · constructor
    · intro h
      cases e : R b sts (sil b.ls.length) with
      | nil => rfl
      | cons q l =>
        obtain ⟨s, hs1, hs2⟩ := top_of (q := q) hs
        obtain ⟨k, h1, _⟩ := lb_of hb hn hd st hs (by rw [e]; exact List.mem_cons_self) hs2
        rw [h] at h1
        cases h1
    · intro h
      cases e : lb b bd sts with
      | none => rfl
      | some x =>
        obtain ⟨q, hq, _⟩ := lb_inv hb hn st hs e
        rw [h] at hq
        cases hq
/-- a looser book -/
structure Loose (b b' : Bk) : Prop where
  len : b'.ls.length = b.ls.length
  sub : ∀ s, ∀ c ∈ lst b s, c ∈ lst b' s
  rt : ∀ p, right b p → right b' p
theorem lb_loose {b b' : Bk} {bd bd' : List Int} {sts : List Nat} {x : Int} (l : Loose b b') (hb : posG b) (hn : nnL b) (hb' : posG b') (hn' : nnL b') (hd' : Band b' bd') (st : Stn sts b.ls.length) (h : lb b bd sts = some x) : ∃ y, lb b' bd' sts = some y ∧ y ≤ x := by
  by_cases hs : sts = []
  · subst hs
    unfold lb at h ⊢
    rw [if_pos rfl] at h
    cases h
    exact ⟨0, if_pos rfl, Int.le_refl _⟩
  · obtain ⟨q, hq, hm⟩ := lb_inv hb hn st hs h
    have st0 : Stn sts (sil b.ls.length).length := by simpa [sil] using st
    obtain ⟨h0, hr⟩ := List.mem_filter.mp hq
    obtain ⟨h1, h2, h3⟩ := (E_mem st0).mp h0
    have st' : Stn sts b'.ls.length := by rw [l.len]; exact st
    have hq' : q ∈ R b' sts (sil b'.ls.length) := by
      rw [l.len]
      exact List.mem_filter.mpr ⟨(E_mem st0).mpr ⟨h1, h2, fun s hs => l.sub s _ (h3 s hs)⟩, by simpa using l.rt q (by simpa using hr)⟩
    obtain ⟨k, h4, h5⟩ := lb_of hb' hn' hd' st' hs hq' hm
    exact ⟨k + 1, h4, by omega⟩
/-- what is packable stays so with a station less -/
theorem R_less {b : Bk} {sts less : List Nat} (hb : posG b) (st : Stn sts b.ls.length) (hl : less.Sublist sts) (h : R b sts (sil b.ls.length) ≠ []) : R b less (sil b.ls.length) ≠ [] := by
  obtain ⟨q, hq⟩ := List.exists_mem_of_ne_nil _ h
  have st0 : Stn sts (sil b.ls.length).length := by simpa [sil] using st
  obtain ⟨h0, hr⟩ := List.mem_filter.mp hq
  obtain ⟨h1, h2, h3⟩ := (E_mem st0).mp h0
  have stl : Stn less (sil b.ls.length).length := ⟨hl.nodup st0.1, fun s hs => st0.2 s (hl.subset hs)⟩
  let q' : List Int := (List.range b.ls.length).map fun i => if i ∈ less then ch q i else -1
  have hq' : ∀ i, ch q' i = if i ∈ less then ch q i else -1 := fun i => by
    by_cases hi : i < b.ls.length
    · rw [ch_lt (by simpa [q'] using hi)]
      simp [q']
    · rw [ch_ge (by simpa [q'] using hi), if_neg fun z => hi (by simpa [sil] using stl.2 i z)]
  have len' : q'.length = b.ls.length := by simp [q']
  have s : Sil q' q := ⟨by rw [len', h1]; simp [sil], fun i _ => by
    rw [hq' i]
    split
    · exact .inl rfl
    · exact .inr rfl⟩
  refine List.ne_nil_of_mem (a := q') (List.mem_filter.mpr ⟨(E_mem stl).mpr ⟨by rw [len']; simp [sil], fun i hi => by rw [hq' i, if_neg hi, ch_sil], fun s hs => ?_⟩, by simpa using right_mono hb s (by simpa using hr)⟩)
  rw [hq' s, if_pos hs]
  exact h3 s (hl.subset hs)
end BK
namespace K01
open PySem PySem.Spec PyProof.Rows L2 DL
def topS (i : Nat) : Stmt := PySem.Challenge.pw_heardclear_k01_whole_silence_makes_no_fa.main.body.getD i (.Pass ⟨0, 0, 0, 0⟩)
structure Top (K : Frg) (mg : Str → Option Value) : Prop where
  z_abs : mg "abs" = none
  z_all : mg "all" = none
  z_enumerate : mg "enumerate" = none
  z_int : mg "int" = none
  z_len : mg "len" = none
  z_list : mg "list" = none
  z_range : mg "range" = none
  z_repr : mg "repr" = none
  z_set : mg "set" = none
  z_sorted : mg "sorted" = none
  z_sum : mg "sum" = none
  z_tuple : mg "tuple" = none
  z_zip : mg "zip" = none
  c_MOST_CHANNEL : ∃ t, mg "MOST_CHANNEL" = some (.int (7) t)
  c_MOST_GAIN : ∃ t, mg "MOST_GAIN" = some (.int (999) t)
  c_MOST_PACKINGS : ∃ t, mg "MOST_PACKINGS" = some (.int (2000) t)
  c_MOST_STATIONS : ∃ t, mg "MOST_STATIONS" = some (.int (8) t)
  c_OF_CLASH : ∃ t, mg "OF_CLASH" = some (.str "clash" t)
  c_OF_LIST : ∃ t, mg "OF_LIST" = some (.str "list" t)
  c_OF_SUM : ∃ t, mg "OF_SUM" = some (.str "sum" t)
  c_SILENT : ∃ t, mg "SILENT" = some (.int (-1) t)
  d__law_number : DefAt K mg "_law_number" (topS 46) .none
  d__law_draws : DefAt K mg "_law_draws" (topS 47) .none
  d__law_next : DefAt K mg "_law_next" (topS 48) .none
  d__law_more : DefAt K mg "_law_more" (topS 49) .none
  d__law_list : DefAt K mg "_law_list" (topS 51) .none
  d__law_distances : DefAt K mg "_law_distances" (topS 52) .none
  d__law_book : DefAt K mg "_law_book" (topS 53) .none
  d__law_some : DefAt K mg "_law_some" (topS 57) .none
  d_ascends : DefAt K mg "ascends" (topS 15) .none
  d_are_channels : DefAt K mg "are_channels" (topS 16) .none
  d_are_lists : DefAt K mg "are_lists" (topS 17) .none
  d_are_clashes : DefAt K mg "are_clashes" (topS 18) .none
  d_is_sum : DefAt K mg "is_sum" (topS 19) .none
  d_is_book : DefAt K mg "is_book" (topS 20) .none
  d_check_book : DefAt K mg "check_book" (topS 21) .none
  d_are_stations : DefAt K mg "are_stations" (topS 33) .none
  d_check_stations : DefAt K mg "check_stations" (topS 34) .none
  d_put : DefAt K mg "put" (topS 31) .none
  d_clash_stands : DefAt K mg "clash_stands" (topS 26) .none
  d_is_above : DefAt K mg "is_above" (topS 27) .none
  d_faults_of : DefAt K mg "faults_of" (topS 28) .none
  d_first_packing : ∃ Td o c, DefAt K mg "first_packing" (topS 38) (.ref Td) ∧ K.lookup Td = some o ∧ o.data = .seq #[.none] c
  d_band_of : DefAt K mg "band_of" (topS 22) .none
  d_packings_of : DefAt K mg "packings_of" (topS 42) .none
  d_packings : DefAt K mg "packings" (topS 43) .none
  d__law_looser : DefAt K mg "_law_looser" (topS 59) .none
  d_packing_of : DefAt K mg "packing_of" (topS 39) .none
  d_packing : DefAt K mg "packing" (topS 40) .none
  d_is_packable : DefAt K mg "is_packable" (topS 41) .none
  d_with_stations : DefAt K mg "with_stations" (topS 35) .none
  d_least_band : DefAt K mg "least_band" (topS 44) .none
  d__law_faults : DefAt K mg "_law_faults" (topS 54) .none
  d__law_packings : DefAt K mg "_law_packings" (topS 55) .none
  d_fits_book : DefAt K mg "fits_book" (topS 23) .none
  d_is_plan : DefAt K mg "is_plan" (topS 24) .none
  d_check_plan : DefAt K mg "check_plan" (topS 25) .none
  d_faults : DefAt K mg "faults" (topS 29) .none
  d_is_right : DefAt K mg "is_right" (topS 30) .none
  d_silenced : DefAt K mg "silenced" (topS 32) .none
theorem Top.of {K : Frg} {h : Heap} {mg : Str → Option Value} (_ : K.In h) (T : Top K mg) : Top K mg := T
/-! ### _law_number -/
abbrev st__law_number : Stmt := topS 46
theorem sc__law_number : FnScope ["cell"] ["cell"] (defScope st__law_number) := ⟨rfl, rfl, rfl, by decide +kernel, rfl, by decide +kernel, by decide +kernel⟩
def b__law_number : Ev → Out :=
  (seqS (ifS (boolT (opG ltTD (varG 0) (cG (.int 0)))) (outG (opG subD (cG (.int 0)) (varG 0)) fun d ρ => .rt d ρ) (fun ρ => .nx ρ))
  (outG (varG 0) fun d ρ => .rt d ρ))
def f__law_number : List D → Rs D := fnD 1 b__law_number
theorem bd__law_number {P : Program} {w : World} {K : Frg} {mg : Str → Option Value} {base : Heap} (T : Top K mg) : Body P w K mg base 0 ["cell"] "_law_number" st__law_number W0 b__law_number := fun f cdv A outer s H E hg hr =>
  (ss_cons (s_if (put_cmp (o_ltT (rm0 hr)) d_ltT (nomark _) (pu_var 0) pu_int) (ss_one (s_ret (pu_op op_sub d_sub pu_int (pu_var 0)))) ss_nil)
  (ss_one (s_ret (pu_var 0))))
theorem cal__law_number {P : Program} {w : World} {K : Frg} {mg : Str → Option Value} {base : Heap} (T : Top K mg) : CalG P w K mg base 1 "_law_number" (spD K 1 f__law_number) [] := by
  obtain ⟨f, fd, F, hm, hk⟩ := T.d__law_number
  exact ⟨f, fd, ["cell"], [], fn_D F sc__law_number (bd__law_number T) rfl rfl, hm, hk, F.binds (fun _ _ _ _ _ _ us hl => match us, hl with | [_], _ => rfl), .nil⟩
/-! ### _law_draws -/
abbrev st__law_draws : Stmt := topS 47
theorem sc__law_draws : FnScope ["script", "draws", "cell", "rest", "k", "once", "twice"] ["script"] (defScope st__law_draws) := ⟨rfl, rfl, rfl, by decide +kernel, rfl, by decide +kernel, by decide +kernel⟩
def b__law_draws : Ev → Out :=
  (seqS (outM (lift (appG lstO nilG)) (setOS 1))
  (seqS (outG (appG walkD (varG 0)) (forS (nmB 2) (seqS (outG (callG 1 f__law_number [] (consG (varG 2) nilG)) (setS 3))
  (ifS (boolT (opG geD (varG 3) (cG (.int 1000000000000000000)))) (outG (appG range1D (consG (cG (.int 60)) nilG)) (forS (nmB 4) (seqS (ifS (boolT (opG eqD (varG 3) (cG (.int 0)))) (fun ρ => .bk ρ) (fun ρ => .nx ρ))
  (seqS (outM (mthM "list" 1 appendO (consM (lift (opG modD (appG intD (consG (varG 3) nilG)) (cG (.int 1000)))) nilM)) fun _ ρ => .nx ρ)
  (outG (opG divD (varG 3) (cG (.int 1000))) (setS 3)))) [])) (seqS (outG (opG modD (appG intD (consG (opG addD (opG mulTD (varG 3) (cG (.int 48271))) (cG (.int 11))) nilG)) (cG (.int 2147483647))) (setS 5))
  (seqS (outG (opG modD (appG intD (consG (opG addD (opG mulTD (varG 5) (cG (.int 69621))) (varG 3)) nilG)) (cG (.int 2147483629))) (setS 6))
  (outM (mthM "list" 1 extendO (consM (lift (frzG (appG lstO (consG (opG modD (appG intD (consG (varG 3) nilG)) (cG (.int 1000))) (consG (opG modD (appG intD (consG (varG 5) nilG)) (cG (.int 1000))) (consG (opG modD (appG intD (consG (varG 6) nilG)) (cG (.int 1000))) nilG)))))) nilM)) fun _ ρ => .nx ρ))))) []))
  (seqS (outM (mthM "list" 1 reverseO fun ρ => .ok ([], ρ)) fun _ ρ => .nx ρ)
  (outM (giveV 1) fun d ρ => .ro d ρ))))
def f__law_draws : List D → Rs O := fnO 7 b__law_draws
theorem bd__law_draws {P : Program} {w : World} {K : Frg} {mg : Str → Option Value} {base : Heap} (T : Top K mg) : Body P w K mg base 1 ["script", "draws", "cell", "rest", "k", "once", "twice"] "_law_draws" st__law_draws W0 b__law_draws := fun f cdv A outer s H E hg hr =>
  (ss_cons (s_setO sc__law_draws.nd (mo_of (W := W0) (po_lst pua_nil)))
  (ss_cons (s_for [] PassesOwn.never rfl (iu_seq (pu_var 0)) (tu_name 2 sc__law_draws.nd) (ss_cons (s_set sc__law_draws.nd (pu_cg (cal__law_number T) hr hg (fun _ => .nil) (pua_cons (pu_var 2) pua_nil)))
  (ss_one (s_if (put_cmp op_ge d_ge (nomark _) (pu_var 3) pu_int) (ss_one (s_for [] PassesOwn.never rfl (iu_range1 T.z_range (pua_cons pu_int pua_nil)) (tu_name 4 sc__law_draws.nd) (ss_cons (s_if (put_cmp (op_eqD (rm64 hr)) d_eq (nomark _) (pu_var 3) pu_int) (ss_one s_break) ss_nil)
  (ss_cons (s_exprM (me_append 1 (ma_cons (me_of (W := W0) (pu_op op_mod d_mod (pu_callT call_int1 b_int T.z_int PyProof.Rows.boot_int (pua_cons (pu_var 3) pua_nil)) pu_int)) ma_nil)))
  (ss_one (s_set sc__law_draws.nd (pu_op op_fdiv d_div (pu_var 3) pu_int))))))) (ss_cons (s_set sc__law_draws.nd (pu_op op_mod d_mod (pu_callT call_int1 b_int T.z_int PyProof.Rows.boot_int (pua_cons (pu_op o_add d_add (pu_op o_mulT d_mulT (pu_var 3) pu_int) pu_int) pua_nil)) pu_int))
  (ss_cons (s_set sc__law_draws.nd (pu_op op_mod d_mod (pu_callT call_int1 b_int T.z_int PyProof.Rows.boot_int (pua_cons (pu_op o_add d_add (pu_op o_mulT d_mulT (pu_var 5) pu_int) (pu_var 3)) pua_nil)) pu_int))
  (ss_one (s_exprM (me_extend 1 (ma_cons (me_of (W := W0) (pu_po (po_lst (pua_cons (pu_op op_mod d_mod (pu_callT call_int1 b_int T.z_int PyProof.Rows.boot_int (pua_cons (pu_var 3) pua_nil)) pu_int) (pua_cons (pu_op op_mod d_mod (pu_callT call_int1 b_int T.z_int PyProof.Rows.boot_int (pua_cons (pu_var 5) pua_nil)) pu_int) (pua_cons (pu_op op_mod d_mod (pu_callT call_int1 b_int T.z_int PyProof.Rows.boot_int (pua_cons (pu_var 6) pua_nil)) pu_int) pua_nil)))))) ma_nil))))))))))
  (ss_cons (s_exprM (me_reverse 1))
  (ss_one (s_retO (mo_give 1))))))
theorem cal__law_draws {P : Program} {w : World} {K : Frg} {mg : Str → Option Value} {base : Heap} (T : Top K mg) : CalG P w K mg base 2 "_law_draws" (spO K 1 f__law_draws) [] := by
  obtain ⟨f, fd, F, hm, hk⟩ := T.d__law_draws
  exact ⟨f, fd, ["script"], [], fn_O F sc__law_draws (bd__law_draws T) rfl rfl, hm, hk, F.binds (fun _ _ _ _ _ _ us hl => match us, hl with | [_], _ => rfl), .nil⟩
/-! ### _law_next -/
abbrev st__law_next : Stmt := topS 48
theorem sc__law_next : FnScope ["draws"] ["draws"] (defScope st__law_next) := ⟨rfl, rfl, rfl, by decide +kernel, rfl, by decide +kernel, by decide +kernel⟩
def b__law_next : Ev → Out :=
  (seqS (ifS (brwG 0 (fun _ => true) (truT (varG 0))) (outM (mthM "list" 0 popO fun ρ => .ok ([], ρ)) fun d ρ => .rt d ρ) (fun ρ => .nx ρ))
  (outG (cG (.int 0)) fun d ρ => .rt d ρ))
def f__law_next : O → List D → Rs (D × O) := fnMD 1 b__law_next
theorem bd__law_next {P : Program} {w : World} {K : Frg} {mg : Str → Option Value} {base : Heap} (T : Top K mg) : Body P w K mg base 0 ["draws"] "_law_next" st__law_next W0 b__law_next := fun f cdv A outer s H E hg hr =>
  (ss_cons (s_if (put_brw 0 (put_tru (pu_var 0))) (ss_one (s_retM (me_pop 0))) ss_nil)
  (ss_one (s_ret pu_int)))
theorem cal__law_next {P : Program} {w : World} {K : Frg} {mg : Str → Option Value} {base : Heap} (T : Top K mg) : CalG P w K mg base 1 "_law_next" (spMD K 1 f__law_next) [] := by
  obtain ⟨f, fd, F, hm, hk⟩ := T.d__law_next
  exact ⟨f, fd, ["draws"], [], fn_MD F sc__law_next (bd__law_next T) rfl rfl, hm, hk, F.binds (fun _ _ _ _ _ _ us hl => match us, hl with | [_], _ => rfl), .nil⟩
/-! ### _law_more -/
abbrev st__law_more : Stmt := topS 49
theorem sc__law_more : FnScope ["draws", "many", "seed", "more", "k"] ["draws", "many"] (defScope st__law_more) := ⟨rfl, rfl, rfl, by decide +kernel, rfl, by decide +kernel, by decide +kernel⟩
def b__law_more : Ev → Out :=
  (seqS (outM (opM addD (opM addD (opM mulTD (lift (cG (.int 1000))) (callI 1 0 f__law_next [] nilM)) (callI 1 0 f__law_next [] nilM)) (lift (cG (.int 1)))) (setS 2))
  (seqS (outM (lift (appG lstO nilG)) (setOS 3))
  (seqS (outG (appG range1D (consG (varG 1) nilG)) (forS (nmB 4) (seqS (outG (opG modD (appG intD (consG (opG addD (opG mulTD (varG 2) (cG (.int 48271))) (cG (.int 12345))) nilG)) (cG (.int 2147483647))) (setS 2))
  (outM (mthM "list" 3 appendO (consM (lift (opG modD (appG intD (consG (opG divD (varG 2) (cG (.int 7))) nilG)) (cG (.int 1000)))) nilM)) fun _ ρ => .nx ρ)) []))
  (outM (lift (brwG 3 immO (brwG 0 immO (opO catO (varG 3) (varG 0))))) fun d ρ => .ro d ρ))))
def f__law_more : O → List D → Rs (O × O) := fnMO 5 b__law_more
theorem bd__law_more {P : Program} {w : World} {K : Frg} {mg : Str → Option Value} {base : Heap} (T : Top K mg) : Body P w K mg base 1 ["draws", "many", "seed", "more", "k"] "_law_more" st__law_more W0 b__law_more := fun f cdv A outer s H E hg hr =>
  (ss_cons (s_setM sc__law_more.nd (me_op o_add d_add (me_op o_add d_add (me_op o_mulT d_mulT (me_of (W := W0) pu_int) (me_ci 0 (cal__law_next T) hr hg (fun _ => .nil) ma_nil)) (me_ci 0 (cal__law_next T) hr hg (fun _ => .nil) ma_nil)) (me_of (W := W0) pu_int)))
  (ss_cons (s_setO sc__law_more.nd (mo_of (W := W0) (po_lst pua_nil)))
  (ss_cons (s_for [] PassesOwn.never rfl (iu_range1 T.z_range (pua_cons (pu_var 1) pua_nil)) (tu_name 4 sc__law_more.nd) (ss_cons (s_set sc__law_more.nd (pu_op op_mod d_mod (pu_callT call_int1 b_int T.z_int PyProof.Rows.boot_int (pua_cons (pu_op o_add d_add (pu_op o_mulT d_mulT (pu_var 2) pu_int) pu_int) pua_nil)) pu_int))
  (ss_one (s_exprM (me_append 3 (ma_cons (me_of (W := W0) (pu_op op_mod d_mod (pu_callT call_int1 b_int T.z_int PyProof.Rows.boot_int (pua_cons (pu_op op_fdiv d_div (pu_var 2) pu_int) pua_nil)) pu_int)) ma_nil))))))
  (ss_one (s_retO (mo_of (W := W0) (po_brw 3 (po_brw 0 (po_cat (pu_var 3) (pu_var 0))))))))))
theorem cal__law_more {P : Program} {w : World} {K : Frg} {mg : Str → Option Value} {base : Heap} (T : Top K mg) : CalG P w K mg base 2 "_law_more" (spMO K 2 f__law_more) [] := by
  obtain ⟨f, fd, F, hm, hk⟩ := T.d__law_more
  exact ⟨f, fd, ["draws", "many"], [], fn_MO F sc__law_more (bd__law_more T) rfl rfl, hm, hk, F.binds (fun _ _ _ _ _ _ us hl => match us, hl with | [_, _], _ => rfl), .nil⟩
/-! ### _law_list -/
abbrev st__law_list : Stmt := topS 51
theorem sc__law_list : FnScope ["draws", "top", "found", "channel"] ["draws", "top"] (defScope st__law_list) := ⟨rfl, rfl, rfl, by decide +kernel, rfl, by decide +kernel, by decide +kernel⟩
def b__law_list : Ev → Out :=
  (seqS (outM (appM tupleD (consM (frzM (lcM (lift (appG range1D (consG (opG addD (varG 1) (cG (.int 1))) nilG))) (nmB 3) (boolTM (opM gtD (opM modD (appM intD (consM (callI 1 0 f__law_next [] nilM) nilM)) (lift (cG (.int 3)))) (lift (cG (.int 0))))) (lift (varG 3)) [3])) nilM)) (setS 2))
  (outM (ifM (lift (truT (varG 2))) (lift (varG 2)) (appM tupD (consM (opM modD (appM intD (consM (callI 1 0 f__law_next [] nilM) nilM)) (lift (opG addD (varG 1) (cG (.int 1))))) nilM))) fun d ρ => .rt d ρ))
def f__law_list : O → List D → Rs (D × O) := fnMD 4 b__law_list
theorem bd__law_list {P : Program} {w : World} {K : Frg} {mg : Str → Option Value} {base : Heap} (T : Top K mg) : Body P w K mg base 1 ["draws", "top", "found", "channel"] "_law_list" st__law_list W0 b__law_list := fun f cdv A outer s H E hg hr =>
  (ss_cons (s_setM sc__law_list.nd (me_callT call_tuple_of b_tuple T.z_tuple PyProof.Rows.boot_tuple (ma_cons (me_mo (mo_lc rfl sc__law_list.nd (im_of (W := W0) (iu_range1 T.z_range (pua_cons (pu_op o_add d_add (pu_var 1) pu_int) pua_nil))) (blkOk_by (own := [("channel", 3)]) (by kernel_rfl)) (fun _ _ _ _ _ => (tu_name 3 sc__law_list.nd)) (fun _ _ _ _ _ => (mts_one (mt_cmp op_gt d_gt (nomark _) (me_op op_mod d_mod (me_callT call_int1 b_int T.z_int PyProof.Rows.boot_int (ma_cons (me_ci 0 (cal__law_next T) hr hg (fun _ => .nil) ma_nil) ma_nil)) (me_of (W := W0) pu_int)) (me_of (W := W0) pu_int)))) (fun _ _ _ _ _ => (me_of (W := W0) (pu_var 3))))) ma_nil)))
  (ss_one (s_retM (me_if (mt_of (W := W0) (put_tru (pu_var 2))) (me_of (W := W0) (pu_var 2)) (me_tup (ma_cons (me_op op_mod d_mod (me_callT call_int1 b_int T.z_int PyProof.Rows.boot_int (ma_cons (me_ci 0 (cal__law_next T) hr hg (fun _ => .nil) ma_nil) ma_nil)) (me_of (W := W0) (pu_op o_add d_add (pu_var 1) pu_int))) ma_nil))))))
theorem cal__law_list {P : Program} {w : World} {K : Frg} {mg : Str → Option Value} {base : Heap} (T : Top K mg) : CalG P w K mg base 2 "_law_list" (spMD K 2 f__law_list) [] := by
  obtain ⟨f, fd, F, hm, hk⟩ := T.d__law_list
  exact ⟨f, fd, ["draws", "top"], [], fn_MD F sc__law_list (bd__law_list T) rfl rfl, hm, hk, F.binds (fun _ _ _ _ _ _ us hl => match us, hl with | [_, _], _ => rfl), .nil⟩
/-! ### _law_distances -/
abbrev st__law_distances : Stmt := topS 52
theorem sc__law_distances : FnScope ["draws", "top", "kind"] ["draws", "top"] (defScope st__law_distances) := ⟨rfl, rfl, rfl, by decide +kernel, rfl, by decide +kernel, by decide +kernel⟩
def b__law_distances : Ev → Out :=
  (seqS (outM (opM modD (appM intD (consM (callI 1 0 f__law_next [] nilM) nilM)) (lift (cG (.int 3)))) (setS 2))
  (seqS (ifS (boolT (opG eqD (varG 2) (cG (.int 0)))) (outG (appG tupD (consG (cG (.int 0)) nilG)) fun d ρ => .rt d ρ) (fun ρ => .nx ρ))
  (outM (ifM (lift (boolT (opG eqD (varG 2) (cG (.int 1))))) (lift (appG tupD (consG (cG (.int 0)) (consG (cG (.int 1)) nilG)))) (callI 2 0 f__law_list [] (consM (lift (varG 1)) nilM))) fun d ρ => .rt d ρ)))
def f__law_distances : O → List D → Rs (D × O) := fnMD 3 b__law_distances
theorem bd__law_distances {P : Program} {w : World} {K : Frg} {mg : Str → Option Value} {base : Heap} (T : Top K mg) : Body P w K mg base 2 ["draws", "top", "kind"] "_law_distances" st__law_distances W0 b__law_distances := fun f cdv A outer s H E hg hr =>
  (ss_cons (s_setM sc__law_distances.nd (me_op op_mod d_mod (me_callT call_int1 b_int T.z_int PyProof.Rows.boot_int (ma_cons (me_ci 0 (cal__law_next T) hr hg (fun _ => .nil) ma_nil) ma_nil)) (me_of (W := W0) pu_int)))
  (ss_cons (s_if (put_cmp (op_eqD (rm64 hr)) d_eq (nomark _) (pu_var 2) pu_int) (ss_one (s_ret (pu_tup (pua_cons pu_int pua_nil)))) ss_nil)
  (ss_one (s_retM (me_if (mt_of (W := W0) (put_cmp (op_eqD (rm64 hr)) d_eq (nomark _) (pu_var 2) pu_int)) (me_of (W := W0) (pu_tup (pua_cons pu_int (pua_cons pu_int pua_nil)))) (me_ci 0 (cal__law_list T) hr hg (fun _ => .nil) (ma_cons (me_of (W := W0) (pu_var 1)) ma_nil)))))))
theorem cal__law_distances {P : Program} {w : World} {K : Frg} {mg : Str → Option Value} {base : Heap} (T : Top K mg) : CalG P w K mg base 3 "_law_distances" (spMD K 2 f__law_distances) [] := by
  obtain ⟨f, fd, F, hm, hk⟩ := T.d__law_distances
  exact ⟨f, fd, ["draws", "top"], [], fn_MD F sc__law_distances (bd__law_distances T) rfl rfl, hm, hk, F.binds (fun _ _ _ _ _ _ us hl => match us, hl with | [_, _], _ => rfl), .nil⟩
/-! ### _law_book -/
abbrev st__law_book : Stmt := topS 53
theorem sc__law_book : FnScope ["draws", "most", "many", "top", "same", "lists", "clashes", "i", "sums", "j", "k", "gains"] ["draws", "most"] (defScope st__law_book) := ⟨rfl, rfl, rfl, by decide +kernel, rfl, by decide +kernel, by decide +kernel⟩
def b__law_book : Ev → Out :=
  (seqS (outM (opM addD (lift (cG (.int 1))) (opM modD (appM intD (consM (callI 1 0 f__law_next [] nilM) nilM)) (lift (varG 1)))) (setS 2))
  (seqS (outM (opM addD (lift (cG (.int 1))) (opM modD (appM intD (consM (callI 1 0 f__law_next [] nilM) nilM)) (lift (cG (.int 3))))) (setS 3))
  (seqS (outM (opM eqD (opM modD (appM intD (consM (callI 1 0 f__law_next [] nilM) nilM)) (lift (cG (.int 4)))) (lift (cG (.int 0)))) (setS 4))
  (seqS (outM (lcM (lift (appG range1D (consG (varG 2) nilG))) (nmB 10) (lift (cG true)) (ifM (lift (truT (varG 4))) (lift (rgD .tuple (opG addD (varG 3) (cG (.int 1))))) (callI 2 0 f__law_list [] (consM (lift (varG 3)) nilM))) [10]) fun o => setS 5 o.dat)
  (seqS (outM (lift (appG lstO nilG)) (setOS 6))
  (seqS (outG (appG range1D (consG (varG 2) nilG)) (forS (nmB 7) (outG (appG range2D (consG (opG addD (varG 7) (cG (.int 1))) (consG (varG 2) nilG))) (forS (nmB 9) (ifSM (boolTM (opM eqD (opM modD (appM intD (consM (callI 1 0 f__law_next [] nilM) nilM)) (lift (cG (.int 2)))) (lift (cG (.int 0))))) (outM (mthM "list" 6 appendO (consM (appM tupD (consM (lift (varG 7)) (consM (lift (varG 9)) (consM (ifM (lift (truT (varG 4))) (lift (appG tupD (consG (cG (.int 0)) nilG))) (callI 2 0 f__law_distances [] (consM (lift (varG 3)) nilM))) nilM)))) nilM)) fun _ ρ => .nx ρ) (fun ρ => .nx ρ)) [])) []))
  (seqS (outM (lift (appG lstO nilG)) (setOS 8))
  (seqS (outG (appG range1D (consG (varG 2) nilG)) (forS (nmB 9) (ifSM (andTM (lift (notT (truT (varG 4)))) (boolTM (opM eqD (opM modD (appM intD (consM (callI 1 0 f__law_next [] nilM) nilM)) (lift (cG (.int 3)))) (lift (cG (.int 0)))))) (seqS (outM (appM tupleD (consM (frzM (lcM (lift (appG range1D (consG (varG 2) nilG))) (nmB 7) (lift (cG true)) (ifM (lift (boolT (opG eqD (varG 7) (varG 9)))) (lift (cG (.int 0))) (opM modD (appM intD (consM (callI 1 0 f__law_next [] nilM) nilM)) (lift (cG (.int 5))))) [7])) nilM)) (setS 11))
  (outM (mthM "list" 8 appendO (consM (appM tupD (consM (lift (varG 9)) (consM (opM modD (appM intD (consM (callI 1 0 f__law_next [] nilM) nilM)) (lift (cG (.int 6)))) (consM (lift (varG 11)) nilM)))) nilM)) fun _ ρ => .nx ρ)) (fun ρ => .nx ρ)) []))
  (outM (appM tupD (consM (lift (appG tupleD (consG (varG 5) nilG))) (consM (appM tupleD (consM (frzV 6) nilM)) (consM (appM tupleD (consM (frzV 8) nilM)) nilM)))) fun d ρ => .rt d ρ)))))))))
def f__law_book : O → List D → Rs (D × O) := fnMD 12 b__law_book
theorem bd__law_book {P : Program} {w : World} {K : Frg} {mg : Str → Option Value} {base : Heap} (T : Top K mg) : Body P w K mg base 3 ["draws", "most", "many", "top", "same", "lists", "clashes", "i", "sums", "j", "k", "gains"] "_law_book" st__law_book W0 b__law_book := fun f cdv A outer s H E hg hr =>
  (ss_cons (s_setM sc__law_book.nd (me_op o_add d_add (me_of (W := W0) pu_int) (me_op op_mod d_mod (me_callT call_int1 b_int T.z_int PyProof.Rows.boot_int (ma_cons (me_ci 0 (cal__law_next T) hr hg (fun _ => .nil) ma_nil) ma_nil)) (me_of (W := W0) (pu_var 1)))))
  (ss_cons (s_setM sc__law_book.nd (me_op o_add d_add (me_of (W := W0) pu_int) (me_op op_mod d_mod (me_callT call_int1 b_int T.z_int PyProof.Rows.boot_int (ma_cons (me_ci 0 (cal__law_next T) hr hg (fun _ => .nil) ma_nil) ma_nil)) (me_of (W := W0) pu_int))))
  (ss_cons (s_setM sc__law_book.nd (me_cmp (op_eqD (rm64 hr)) d_eq (nomark _) (me_op op_mod d_mod (me_callT call_int1 b_int T.z_int PyProof.Rows.boot_int (ma_cons (me_ci 0 (cal__law_next T) hr hg (fun _ => .nil) ma_nil) ma_nil)) (me_of (W := W0) pu_int)) (me_of (W := W0) pu_int)))
  (ss_cons (s_setLcF rfl sc__law_book.nd (im_of (W := W0) (iu_range1 T.z_range (pua_cons (pu_var 2) pua_nil))) (blkOk_by (own := [("k", 10)]) (by kernel_rfl)) (fun _ _ _ _ _ => (tu_name 10 sc__law_book.nd)) (fun _ _ _ _ _ => mts_nil) (fun _ _ _ _ _ => (me_if (mt_of (W := W0) (put_tru (pu_var 4))) (me_of (W := W0) (pu_tupRg rfl T.z_tuple T.z_range (pu_op o_add d_add (pu_var 3) pu_int))) (me_ci 0 (cal__law_list T) hr hg (fun _ => .nil) (ma_cons (me_of (W := W0) (pu_var 3)) ma_nil)))))
  (ss_cons (s_setO sc__law_book.nd (mo_of (W := W0) (po_lst pua_nil)))
  (ss_cons (s_for [] PassesOwn.never rfl (iu_range1 T.z_range (pua_cons (pu_var 2) pua_nil)) (tu_name 7 sc__law_book.nd) (ss_one (s_for [] PassesOwn.never rfl (iu_range2 T.z_range (pua_cons (pu_op o_add d_add (pu_var 7) pu_int) (pua_cons (pu_var 2) pua_nil))) (tu_name 9 sc__law_book.nd) (ss_one (s_ifM (mt_cmp (op_eqD (rm64 hr)) d_eq (nomark _) (me_op op_mod d_mod (me_callT call_int1 b_int T.z_int PyProof.Rows.boot_int (ma_cons (me_ci 0 (cal__law_next T) hr hg (fun _ => .nil) ma_nil) ma_nil)) (me_of (W := W0) pu_int)) (me_of (W := W0) pu_int)) (ss_one (s_exprM (me_append 6 (ma_cons (me_tup (ma_cons (me_of (W := W0) (pu_var 7)) (ma_cons (me_of (W := W0) (pu_var 9)) (ma_cons (me_if (mt_of (W := W0) (put_tru (pu_var 4))) (me_of (W := W0) (pu_tup (pua_cons pu_int pua_nil))) (me_ci 0 (cal__law_distances T) hr hg (fun _ => .nil) (ma_cons (me_of (W := W0) (pu_var 3)) ma_nil))) ma_nil)))) ma_nil)))) ss_nil)))))
  (ss_cons (s_setO sc__law_book.nd (mo_of (W := W0) (po_lst pua_nil)))
  (ss_cons (s_for [] PassesOwn.never rfl (iu_range1 T.z_range (pua_cons (pu_var 2) pua_nil)) (tu_name 9 sc__law_book.nd) (ss_one (s_ifM (mt_w (mw_and (mt_of (W := W0) (put_not (put_tru (pu_var 4)))) (mw_and1 (mt_cmp (op_eqD (rm64 hr)) d_eq (nomark _) (me_op op_mod d_mod (me_callT call_int1 b_int T.z_int PyProof.Rows.boot_int (ma_cons (me_ci 0 (cal__law_next T) hr hg (fun _ => .nil) ma_nil) ma_nil)) (me_of (W := W0) pu_int)) (me_of (W := W0) pu_int))))) (ss_cons (s_setM sc__law_book.nd (me_callT call_tuple_of b_tuple T.z_tuple PyProof.Rows.boot_tuple (ma_cons (me_mo (mo_lc rfl sc__law_book.nd (im_of (W := W0) (iu_range1 T.z_range (pua_cons (pu_var 2) pua_nil))) (blkOk_by (own := [("i", 7)]) (by kernel_rfl)) (fun _ _ _ _ _ => (tu_name 7 sc__law_book.nd)) (fun _ _ _ _ _ => mts_nil) (fun _ _ _ _ _ => (me_if (mt_of (W := W0) (put_cmp (op_eqD (rm64 hr)) d_eq (nomark _) (pu_var 7) (pu_var 9))) (me_of (W := W0) pu_int) (me_op op_mod d_mod (me_callT call_int1 b_int T.z_int PyProof.Rows.boot_int (ma_cons (me_ci 0 (cal__law_next T) hr hg (fun _ => .nil) ma_nil) ma_nil)) (me_of (W := W0) pu_int)))))) ma_nil)))
  (ss_one (s_exprM (me_append 8 (ma_cons (me_tup (ma_cons (me_of (W := W0) (pu_var 9)) (ma_cons (me_op op_mod d_mod (me_callT call_int1 b_int T.z_int PyProof.Rows.boot_int (ma_cons (me_ci 0 (cal__law_next T) hr hg (fun _ => .nil) ma_nil) ma_nil)) (me_of (W := W0) pu_int)) (ma_cons (me_of (W := W0) (pu_var 11)) ma_nil)))) ma_nil))))) ss_nil)))
  (ss_one (s_retM (me_tup (ma_cons (me_of (W := W0) (pu_callT call_tuple_of b_tuple T.z_tuple PyProof.Rows.boot_tuple (pua_cons (pu_var 5) pua_nil))) (ma_cons (me_callT call_tuple_of b_tuple T.z_tuple PyProof.Rows.boot_tuple (ma_cons (me_frz 6) ma_nil)) (ma_cons (me_callT call_tuple_of b_tuple T.z_tuple PyProof.Rows.boot_tuple (ma_cons (me_frz 8) ma_nil)) ma_nil))))))))))))))
theorem cal__law_book {P : Program} {w : World} {K : Frg} {mg : Str → Option Value} {base : Heap} (T : Top K mg) : CalG P w K mg base 4 "_law_book" (spMD K 2 f__law_book) [] := by
  obtain ⟨f, fd, F, hm, hk⟩ := T.d__law_book
  exact ⟨f, fd, ["draws", "most"], [], fn_MD F sc__law_book (bd__law_book T) rfl rfl, hm, hk, F.binds (fun _ _ _ _ _ _ us hl => match us, hl with | [_, _], _ => rfl), .nil⟩
/-! ### _law_some -/
abbrev st__law_some : Stmt := topS 57
theorem sc__law_some : FnScope ["draws", "many", "k"] ["draws", "many"] (defScope st__law_some) := ⟨rfl, rfl, rfl, by decide +kernel, rfl, by decide +kernel, by decide +kernel⟩
def b__law_some : Ev → Out :=
  (outM (appM tupleD (consM (frzM (lcM (lift (appG range1D (consG (varG 1) nilG))) (nmB 2) (boolTM (opM gtD (opM modD (appM intD (consM (callI 1 0 f__law_next [] nilM) nilM)) (lift (cG (.int 4)))) (lift (cG (.int 0))))) (lift (varG 2)) [2])) nilM)) fun d ρ => .rt d ρ)
def f__law_some : O → List D → Rs (D × O) := fnMD 3 b__law_some
theorem bd__law_some {P : Program} {w : World} {K : Frg} {mg : Str → Option Value} {base : Heap} (T : Top K mg) : Body P w K mg base 1 ["draws", "many", "k"] "_law_some" st__law_some W0 b__law_some := fun f cdv A outer s H E hg hr =>
  (ss_one (s_retM (me_callT call_tuple_of b_tuple T.z_tuple PyProof.Rows.boot_tuple (ma_cons (me_mo (mo_lc rfl sc__law_some.nd (im_of (W := W0) (iu_range1 T.z_range (pua_cons (pu_var 1) pua_nil))) (blkOk_by (own := [("k", 2)]) (by kernel_rfl)) (fun _ _ _ _ _ => (tu_name 2 sc__law_some.nd)) (fun _ _ _ _ _ => (mts_one (mt_cmp op_gt d_gt (nomark _) (me_op op_mod d_mod (me_callT call_int1 b_int T.z_int PyProof.Rows.boot_int (ma_cons (me_ci 0 (cal__law_next T) hr hg (fun _ => .nil) ma_nil) ma_nil)) (me_of (W := W0) pu_int)) (me_of (W := W0) pu_int)))) (fun _ _ _ _ _ => (me_of (W := W0) (pu_var 2))))) ma_nil))))
theorem cal__law_some {P : Program} {w : World} {K : Frg} {mg : Str → Option Value} {base : Heap} (T : Top K mg) : CalG P w K mg base 2 "_law_some" (spMD K 2 f__law_some) [] := by
  obtain ⟨f, fd, F, hm, hk⟩ := T.d__law_some
  exact ⟨f, fd, ["draws", "many"], [], fn_MD F sc__law_some (bd__law_some T) rfl rfl, hm, hk, F.binds (fun _ _ _ _ _ _ us hl => match us, hl with | [_, _], _ => rfl), .nil⟩
/-! ### ascends -/
abbrev st_ascends : Stmt := topS 15
theorem sc_ascends : FnScope ["numbers", "one", "other"] ["numbers"] (defScope st_ascends) := ⟨rfl, rfl, rfl, by decide +kernel, rfl, by decide +kernel, by decide +kernel⟩
def b_ascends : Ev → Out :=
  (outG (appG allD (consG (frzG (lcG (appG zipD (consG (varG 0) (consG (sliceG (varG 0) (partG (cG (.int 1))) (cG none)) nilG))) (tupB 2 (consB (nmB 1) (consB (nmB 2) nilB))) (cG true) (opG ltTD (varG 1) (varG 2)) [1, 2])) nilG)) fun d ρ => .rt d ρ)
def f_ascends : List D → Rs D := fnD 3 b_ascends
theorem bd_ascends {P : Program} {w : World} {K : Frg} {mg : Str → Option Value} {base : Heap} (T : Top K mg) : Body P w K mg base 0 ["numbers", "one", "other"] "ascends" st_ascends W0 b_ascends := fun f cdv A outer s H E hg hr =>
  (ss_one (s_ret (pu_callB (cr_all rfl) b_all T.z_all PyProof.Rows.boot_all (pua_cons (pu_po (po_lc rfl sc_ascends.nd (iu_zip T.z_zip (pua_cons (pu_var 0) (pua_cons (pu_slice (pu_var 0) (puo_some pu_int) puo_none) pua_nil))) (blkOk_by (own := [("one", 1), ("other", 2)]) (by kernel_rfl)) (fun _ _ _ _ _ => (tu_tup rfl (tus_cons (tu_name 1 sc_ascends.nd) (tus_cons (tu_name 2 sc_ascends.nd) tus_nil)))) (fun _ _ _ _ _ => puts_nil) (fun _ _ _ _ _ => (pu_cmp (o_ltT (rm0 hr)) d_ltT (nomark _) (pu_var 1) (pu_var 2))))) pua_nil))))
theorem cal_ascends {P : Program} {w : World} {K : Frg} {mg : Str → Option Value} {base : Heap} (T : Top K mg) : CalG P w K mg base 1 "ascends" (spD K 1 f_ascends) [] := by
  obtain ⟨f, fd, F, hm, hk⟩ := T.d_ascends
  exact ⟨f, fd, ["numbers"], [], fn_D F sc_ascends (bd_ascends T) rfl rfl, hm, hk, F.binds (fun _ _ _ _ _ _ us hl => match us, hl with | [_], _ => rfl), .nil⟩
/-! ### are_channels -/
abbrev st_are_channels : Stmt := topS 16
theorem sc_are_channels : FnScope ["numbers"] ["numbers"] (defScope st_are_channels) := ⟨rfl, rfl, rfl, by decide +kernel, rfl, by decide +kernel, by decide +kernel⟩
def b_are_channels : Ev → Out :=
  (outG (andG (opG gtD (appG lenD (consG (varG 0) nilG)) (cG (.int 0))) (andG (callG 1 f_ascends [] (consG (varG 0) nilG)) (andG (opG geD (opG ixD (varG 0) (cG (.int 0))) (cG (.int 0))) (opG leD (opG ixD (varG 0) (unG negD (cG (.int 1)))) (cG (.int (7))))))) fun d ρ => .rt d ρ)
def f_are_channels : List D → Rs D := fnD 1 b_are_channels
theorem bd_are_channels {P : Program} {w : World} {K : Frg} {mg : Str → Option Value} {base : Heap} (T : Top K mg) : Body P w K mg base 1 ["numbers"] "are_channels" st_are_channels W0 b_are_channels := fun f cdv A outer s H E hg hr =>
  (ss_one (s_ret (pu_and (pu_cmp op_gt d_gt (nomark _) (pu_callB (call_len_seq.or call_len_str) b_len T.z_len PySem.boot_len (pua_cons (pu_var 0) pua_nil)) pu_int) (pu_and (pu_cg (cal_ascends T) hr hg (fun _ => .nil) (pua_cons (pu_var 0) pua_nil)) (pu_and (pu_cmp op_ge d_ge (nomark _) (pu_ix (pu_var 0) pu_int) pu_int) (pu_one (pu_cmp op_le d_le (nomark _) (pu_ix (pu_var 0) (pu_un un_neg d_neg pu_int)) (pu_gI (T.c_MOST_CHANNEL.choose_spec)))))))))
theorem cal_are_channels {P : Program} {w : World} {K : Frg} {mg : Str → Option Value} {base : Heap} (T : Top K mg) : CalG P w K mg base 2 "are_channels" (spD K 1 f_are_channels) [] := by
  obtain ⟨f, fd, F, hm, hk⟩ := T.d_are_channels
  exact ⟨f, fd, ["numbers"], [], fn_D F sc_are_channels (bd_are_channels T) rfl rfl, hm, hk, F.binds (fun _ _ _ _ _ _ us hl => match us, hl with | [_], _ => rfl), .nil⟩
/-! ### are_lists -/
abbrev st_are_lists : Stmt := topS 17
theorem sc_are_lists : FnScope ["lists", "numbers"] ["lists"] (defScope st_are_lists) := ⟨rfl, rfl, rfl, by decide +kernel, rfl, by decide +kernel, by decide +kernel⟩
def b_are_lists : Ev → Out :=
  (outG (andG (chG (cG (.int 1)) (linkG leD (appG lenD (consG (varG 0) nilG)) (lastG leD (cG (.int (8)))))) (appG allD (consG (frzG (lcG (appG walkD (varG 0)) (nmB 1) (cG true) (callG 1 f_are_channels [] (consG (varG 1) nilG)) [1])) nilG))) fun d ρ => .rt d ρ)
def f_are_lists : List D → Rs D := fnD 2 b_are_lists
theorem bd_are_lists {P : Program} {w : World} {K : Frg} {mg : Str → Option Value} {base : Heap} (T : Top K mg) : Body P w K mg base 2 ["lists", "numbers"] "are_lists" st_are_lists W0 b_are_lists := fun f cdv A outer s H E hg hr =>
  (ss_one (s_ret (pu_and (pu_chain pu_int (ch_link op_le d_le (pu_callB (call_len_seq.or call_len_str) b_len T.z_len PySem.boot_len (pua_cons (pu_var 0) pua_nil)) (ch_last op_le d_le (pu_gI (T.c_MOST_STATIONS.choose_spec))))) (pu_one (pu_callB (cr_all rfl) b_all T.z_all PyProof.Rows.boot_all (pua_cons (pu_po (po_lc rfl sc_are_lists.nd (iu_seq (pu_var 0)) (blkOk_by (own := [("numbers", 1)]) (by kernel_rfl)) (fun _ _ _ _ _ => (tu_name 1 sc_are_lists.nd)) (fun _ _ _ _ _ => puts_nil) (fun _ _ _ _ _ => (pu_cg (cal_are_channels T) hr hg (fun _ => .nil) (pua_cons (pu_var 1) pua_nil))))) pua_nil))))))
theorem cal_are_lists {P : Program} {w : World} {K : Frg} {mg : Str → Option Value} {base : Heap} (T : Top K mg) : CalG P w K mg base 3 "are_lists" (spD K 1 f_are_lists) [] := by
  obtain ⟨f, fd, F, hm, hk⟩ := T.d_are_lists
  exact ⟨f, fd, ["lists"], [], fn_D F sc_are_lists (bd_are_lists T) rfl rfl, hm, hk, F.binds (fun _ _ _ _ _ _ us hl => match us, hl with | [_], _ => rfl), .nil⟩
/-! ### are_clashes -/
abbrev st_are_clashes : Stmt := topS 18
theorem sc_are_clashes : FnScope ["many", "clashes", "i", "j", "distances", "_"] ["many", "clashes"] (defScope st_are_clashes) := ⟨rfl, rfl, rfl, by decide +kernel, rfl, by decide +kernel, by decide +kernel⟩
def b_are_clashes : Ev → Out :=
  (seqS (ifS (notT (truT (callG 1 f_ascends [] (consG (frzG (lcG (appG walkD (varG 1)) (tupB 3 (consB (nmB 2) (consB (nmB 3) (consB (nmB 5) nilB)))) (cG true) (appG tupD (consG (varG 2) (consG (varG 3) nilG))) [2, 3, 5])) nilG)))) (outG (cG (.bool false)) fun d ρ => .rt d ρ) (fun ρ => .nx ρ))
  (outG (appG allD (consG (frzG (lcG (appG walkD (varG 1)) (tupB 3 (consB (nmB 2) (consB (nmB 3) (consB (nmB 4) nilB)))) (cG true) (andG (chG (cG (.int 0)) (linkG leD (varG 2) (linkG ltTD (varG 3) (lastG ltTD (varG 0))))) (callG 1 f_are_channels [] (consG (varG 4) nilG))) [2, 3, 4])) nilG)) fun d ρ => .rt d ρ))
def f_are_clashes : List D → Rs D := fnD 6 b_are_clashes
theorem bd_are_clashes {P : Program} {w : World} {K : Frg} {mg : Str → Option Value} {base : Heap} (T : Top K mg) : Body P w K mg base 2 ["many", "clashes", "i", "j", "distances", "_"] "are_clashes" st_are_clashes W0 b_are_clashes := fun f cdv A outer s H E hg hr =>
  (ss_cons (s_if (put_not (put_tru (pu_cg (cal_ascends T) hr hg (fun _ => .nil) (pua_cons (pu_po (po_lc rfl sc_are_clashes.nd (iu_seq (pu_var 1)) (blkOk_by (own := [("i", 2), ("j", 3), ("_", 5)]) (by kernel_rfl)) (fun _ _ _ _ _ => (tu_tup rfl (tus_cons (tu_name 2 sc_are_clashes.nd) (tus_cons (tu_name 3 sc_are_clashes.nd) (tus_cons (tu_name 5 sc_are_clashes.nd) tus_nil))))) (fun _ _ _ _ _ => puts_nil) (fun _ _ _ _ _ => (pu_tup (pua_cons (pu_var 2) (pua_cons (pu_var 3) pua_nil)))))) pua_nil)))) (ss_one (s_ret pu_bl)) ss_nil)
  (ss_one (s_ret (pu_callB (cr_all rfl) b_all T.z_all PyProof.Rows.boot_all (pua_cons (pu_po (po_lc rfl sc_are_clashes.nd (iu_seq (pu_var 1)) (blkOk_by (own := [("i", 2), ("j", 3), ("distances", 4)]) (by kernel_rfl)) (fun _ _ _ _ _ => (tu_tup rfl (tus_cons (tu_name 2 sc_are_clashes.nd) (tus_cons (tu_name 3 sc_are_clashes.nd) (tus_cons (tu_name 4 sc_are_clashes.nd) tus_nil))))) (fun _ _ _ _ _ => puts_nil) (fun _ _ _ _ _ => (pu_and (pu_chain pu_int (ch_link op_le d_le (pu_var 2) (ch_link (o_ltT (rm0 hr)) d_ltT (pu_var 3) (ch_last (o_ltT (rm0 hr)) d_ltT (pu_var 0))))) (pu_one (pu_cg (cal_are_channels T) hr hg (fun _ => .nil) (pua_cons (pu_var 4) pua_nil))))))) pua_nil)))))
theorem cal_are_clashes {P : Program} {w : World} {K : Frg} {mg : Str → Option Value} {base : Heap} (T : Top K mg) : CalG P w K mg base 3 "are_clashes" (spD K 2 f_are_clashes) [] := by
  obtain ⟨f, fd, F, hm, hk⟩ := T.d_are_clashes
  exact ⟨f, fd, ["many", "clashes"], [], fn_D F sc_are_clashes (bd_are_clashes T) rfl rfl, hm, hk, F.binds (fun _ _ _ _ _ _ us hl => match us, hl with | [_, _], _ => rfl), .nil⟩
/-! ### is_sum -/
abbrev st_is_sum : Stmt := topS 19
theorem sc_is_sum : FnScope ["many", "rule", "j", "limit", "gains", "gain"] ["many", "rule"] (defScope st_is_sum) := ⟨rfl, rfl, rfl, by decide +kernel, rfl, by decide +kernel, by decide +kernel⟩
def b_is_sum : Ev → Out :=
  (seqS (outG (varG 1) fun d ρ => optO ((tupB 3 (consB (nmB 2) (consB (nmB 3) (consB (nmB 4) nilB)))) d ρ) .nx)
  (seqS (ifS (orT (notT (chG (cG (.int 0)) (linkT leD (varG 2) (lastT ltTD (varG 0))))) (orT (notT (chG (cG (.int 0)) (linkT leD (varG 3) (lastT leD (cG (.int (999))))))) (boolT (opG neD (appG lenD (consG (varG 4) nilG)) (varG 0))))) (outG (cG (.bool false)) fun d ρ => .rt d ρ) (fun ρ => .nx ρ))
  (outG (andG (opG eqD (opG ixD (varG 4) (varG 2)) (cG (.int 0))) (appG allD (consG (frzG (lcG (appG walkD (varG 4)) (nmB 5) (cG true) (chG (cG (.int 0)) (linkG leD (varG 5) (lastG leD (cG (.int (999)))))) [5])) nilG))) fun d ρ => .rt d ρ)))
def f_is_sum : List D → Rs D := fnD 6 b_is_sum
theorem bd_is_sum {P : Program} {w : World} {K : Frg} {mg : Str → Option Value} {base : Heap} (T : Top K mg) : Body P w K mg base 0 ["many", "rule", "j", "limit", "gains", "gain"] "is_sum" st_is_sum W0 b_is_sum := fun f cdv A outer s H E hg hr =>
  (ss_cons (s_asg (pu_var 1) (tu_tup rfl (tus_cons (tu_name 2 sc_is_sum.nd) (tus_cons (tu_name 3 sc_is_sum.nd) (tus_cons (tu_name 4 sc_is_sum.nd) tus_nil)))))
  (ss_cons (s_if (put_w (puw_or (put_not (put_chain pu_int (ct_link op_le d_le (pu_var 2) (ct_last (o_ltT (rm0 hr)) d_ltT (pu_var 0))))) (puw_or (put_not (put_chain pu_int (ct_link op_le d_le (pu_var 3) (ct_last op_le d_le (pu_gI (T.c_MOST_GAIN.choose_spec)))))) (puw_or1 (put_cmp (op_neD (rm64 hr)) d_ne (nomark _) (pu_callB (call_len_seq.or call_len_str) b_len T.z_len PySem.boot_len (pua_cons (pu_var 4) pua_nil)) (pu_var 0)))))) (ss_one (s_ret pu_bl)) ss_nil)
  (ss_one (s_ret (pu_and (pu_cmp (op_eqD (rm64 hr)) d_eq (nomark _) (pu_ix (pu_var 4) (pu_var 2)) pu_int) (pu_one (pu_callB (cr_all rfl) b_all T.z_all PyProof.Rows.boot_all (pua_cons (pu_po (po_lc rfl sc_is_sum.nd (iu_seq (pu_var 4)) (blkOk_by (own := [("gain", 5)]) (by kernel_rfl)) (fun _ _ _ _ _ => (tu_name 5 sc_is_sum.nd)) (fun _ _ _ _ _ => puts_nil) (fun _ _ _ _ _ => (pu_chain pu_int (ch_link op_le d_le (pu_var 5) (ch_last op_le d_le (pu_gI (T.c_MOST_GAIN.choose_spec)))))))) pua_nil))))))))
theorem cal_is_sum {P : Program} {w : World} {K : Frg} {mg : Str → Option Value} {base : Heap} (T : Top K mg) : CalG P w K mg base 1 "is_sum" (spD K 2 f_is_sum) [] := by
  obtain ⟨f, fd, F, hm, hk⟩ := T.d_is_sum
  exact ⟨f, fd, ["many", "rule"], [], fn_D F sc_is_sum (bd_is_sum T) rfl rfl, hm, hk, F.binds (fun _ _ _ _ _ _ us hl => match us, hl with | [_, _], _ => rfl), .nil⟩
/-! ### is_book -/
abbrev st_is_book : Stmt := topS 20
theorem sc_is_book : FnScope ["book", "lists", "clashes", "sums", "rule", "j", "_"] ["book"] (defScope st_is_book) := ⟨rfl, rfl, rfl, by decide +kernel, rfl, by decide +kernel, by decide +kernel⟩
def b_is_book : Ev → Out :=
  (seqS (outG (varG 0) fun d ρ => optO ((tupB 3 (consB (nmB 1) (consB (nmB 2) (consB (nmB 3) nilB)))) d ρ) .nx)
  (seqS (ifS (orT (notT (truT (callG 1 f_are_lists [] (consG (varG 1) nilG)))) (notT (truT (callG 2 f_are_clashes [] (consG (appG lenD (consG (varG 1) nilG)) (consG (varG 2) nilG)))))) (outG (cG (.bool false)) fun d ρ => .rt d ρ) (fun ρ => .nx ρ))
  (outG (andG (callG 1 f_ascends [] (consG (frzG (lcG (appG walkD (varG 3)) (tupB 3 (consB (nmB 5) (consB (nmB 6) (consB (nmB 6) nilB)))) (cG true) (varG 5) [5, 6])) nilG)) (appG allD (consG (frzG (lcG (appG walkD (varG 3)) (nmB 4) (cG true) (callG 2 f_is_sum [] (consG (appG lenD (consG (varG 1) nilG)) (consG (varG 4) nilG))) [4])) nilG))) fun d ρ => .rt d ρ)))
def f_is_book : List D → Rs D := fnD 7 b_is_book
theorem bd_is_book {P : Program} {w : World} {K : Frg} {mg : Str → Option Value} {base : Heap} (T : Top K mg) : Body P w K mg base 3 ["book", "lists", "clashes", "sums", "rule", "j", "_"] "is_book" st_is_book W0 b_is_book := fun f cdv A outer s H E hg hr =>
  (ss_cons (s_asg (pu_var 0) (tu_tup rfl (tus_cons (tu_name 1 sc_is_book.nd) (tus_cons (tu_name 2 sc_is_book.nd) (tus_cons (tu_name 3 sc_is_book.nd) tus_nil)))))
  (ss_cons (s_if (put_w (puw_or (put_not (put_tru (pu_cg (cal_are_lists T) hr hg (fun _ => .nil) (pua_cons (pu_var 1) pua_nil)))) (puw_or1 (put_not (put_tru (pu_cg (cal_are_clashes T) hr hg (fun _ => .nil) (pua_cons (pu_callB (call_len_seq.or call_len_str) b_len T.z_len PySem.boot_len (pua_cons (pu_var 1) pua_nil)) (pua_cons (pu_var 2) pua_nil)))))))) (ss_one (s_ret pu_bl)) ss_nil)
  (ss_one (s_ret (pu_and (pu_cg (cal_ascends T) hr hg (fun _ => .nil) (pua_cons (pu_po (po_lc rfl sc_is_book.nd (iu_seq (pu_var 3)) (blkOk_by (own := [("j", 5), ("_", 6)]) (by kernel_rfl)) (fun _ _ _ _ _ => (tu_tup rfl (tus_cons (tu_name 5 sc_is_book.nd) (tus_cons (tu_name 6 sc_is_book.nd) (tus_cons (tu_name 6 sc_is_book.nd) tus_nil))))) (fun _ _ _ _ _ => puts_nil) (fun _ _ _ _ _ => (pu_var 5)))) pua_nil)) (pu_one (pu_callB (cr_all rfl) b_all T.z_all PyProof.Rows.boot_all (pua_cons (pu_po (po_lc rfl sc_is_book.nd (iu_seq (pu_var 3)) (blkOk_by (own := [("rule", 4)]) (by kernel_rfl)) (fun _ _ _ _ _ => (tu_name 4 sc_is_book.nd)) (fun _ _ _ _ _ => puts_nil) (fun _ _ _ _ _ => (pu_cg (cal_is_sum T) hr hg (fun _ => .nil) (pua_cons (pu_callB (call_len_seq.or call_len_str) b_len T.z_len PySem.boot_len (pua_cons (pu_var 1) pua_nil)) (pua_cons (pu_var 4) pua_nil)))))) pua_nil))))))))
theorem cal_is_book {P : Program} {w : World} {K : Frg} {mg : Str → Option Value} {base : Heap} (T : Top K mg) : CalG P w K mg base 4 "is_book" (spD K 1 f_is_book) [] := by
  obtain ⟨f, fd, F, hm, hk⟩ := T.d_is_book
  exact ⟨f, fd, ["book"], [], fn_D F sc_is_book (bd_is_book T) rfl rfl, hm, hk, F.binds (fun _ _ _ _ _ _ us hl => match us, hl with | [_], _ => rfl), .nil⟩
/-! ### check_book -/
abbrev st_check_book : Stmt := topS 21
theorem sc_check_book : FnScope ["book"] ["book"] (defScope st_check_book) := ⟨rfl, rfl, rfl, by decide +kernel, rfl, by decide +kernel, by decide +kernel⟩
def b_check_book : Ev → Out :=
  (ifS (notT (truT (callG 1 f_is_book [] (consG (varG 0) nilG)))) (fun _ => .bad) (fun ρ => .nx ρ))
def f_check_book : List D → Rs D := fnD 1 b_check_book
theorem bd_check_book {P : Program} {w : World} {K : Frg} {mg : Str → Option Value} {base : Heap} (T : Top K mg) : Body P w K mg base 4 ["book"] "check_book" st_check_book W0 b_check_book := fun f cdv A outer s H E hg hr =>
  (ss_one (s_if (put_not (put_tru (pu_cg (cal_is_book T) hr hg (fun _ => .nil) (pua_cons (pu_var 0) pua_nil)))) (ss_one s_never) ss_nil))
theorem cal_check_book {P : Program} {w : World} {K : Frg} {mg : Str → Option Value} {base : Heap} (T : Top K mg) : CalG P w K mg base 5 "check_book" (spD K 1 f_check_book) [] := by
  obtain ⟨f, fd, F, hm, hk⟩ := T.d_check_book
  exact ⟨f, fd, ["book"], [], fn_D F sc_check_book (bd_check_book T) rfl rfl, hm, hk, F.binds (fun _ _ _ _ _ _ us hl => match us, hl with | [_], _ => rfl), .nil⟩
/-! ### are_stations -/
abbrev st_are_stations : Stmt := topS 33
theorem sc_are_stations : FnScope ["book", "stations", "station"] ["book", "stations"] (defScope st_are_stations) := ⟨rfl, rfl, rfl, by decide +kernel, rfl, by decide +kernel, by decide +kernel⟩
def b_are_stations : Ev → Out :=
  (outG (andG (callG 1 f_ascends [] (consG (varG 1) nilG)) (appG allD (consG (frzG (lcG (appG walkD (varG 1)) (nmB 2) (cG true) (chG (cG (.int 0)) (linkG leD (varG 2) (lastG ltTD (appG lenD (consG (opG ixD (varG 0) (cG (.int 0))) nilG))))) [2])) nilG))) fun d ρ => .rt d ρ)
def f_are_stations : List D → Rs D := fnD 3 b_are_stations
theorem bd_are_stations {P : Program} {w : World} {K : Frg} {mg : Str → Option Value} {base : Heap} (T : Top K mg) : Body P w K mg base 1 ["book", "stations", "station"] "are_stations" st_are_stations W0 b_are_stations := fun f cdv A outer s H E hg hr =>
  (ss_one (s_ret (pu_and (pu_cg (cal_ascends T) hr hg (fun _ => .nil) (pua_cons (pu_var 1) pua_nil)) (pu_one (pu_callB (cr_all rfl) b_all T.z_all PyProof.Rows.boot_all (pua_cons (pu_po (po_lc rfl sc_are_stations.nd (iu_seq (pu_var 1)) (blkOk_by (own := [("station", 2)]) (by kernel_rfl)) (fun _ _ _ _ _ => (tu_name 2 sc_are_stations.nd)) (fun _ _ _ _ _ => puts_nil) (fun _ _ _ _ _ => (pu_chain pu_int (ch_link op_le d_le (pu_var 2) (ch_last (o_ltT (rm0 hr)) d_ltT (pu_callB (call_len_seq.or call_len_str) b_len T.z_len PySem.boot_len (pua_cons (pu_ix (pu_var 0) pu_int) pua_nil)))))))) pua_nil))))))
theorem cal_are_stations {P : Program} {w : World} {K : Frg} {mg : Str → Option Value} {base : Heap} (T : Top K mg) : CalG P w K mg base 2 "are_stations" (spD K 2 f_are_stations) [] := by
  obtain ⟨f, fd, F, hm, hk⟩ := T.d_are_stations
  exact ⟨f, fd, ["book", "stations"], [], fn_D F sc_are_stations (bd_are_stations T) rfl rfl, hm, hk, F.binds (fun _ _ _ _ _ _ us hl => match us, hl with | [_, _], _ => rfl), .nil⟩
/-! ### check_stations -/
abbrev st_check_stations : Stmt := topS 34
theorem sc_check_stations : FnScope ["book", "stations"] ["book", "stations"] (defScope st_check_stations) := ⟨rfl, rfl, rfl, by decide +kernel, rfl, by decide +kernel, by decide +kernel⟩
def b_check_stations : Ev → Out :=
  (seqS (outG (callG 1 f_check_book [] (consG (varG 0) nilG)) fun _ ρ => .nx ρ)
  (ifS (notT (truT (callG 2 f_are_stations [] (consG (varG 0) (consG (varG 1) nilG))))) (fun _ => .bad) (fun ρ => .nx ρ)))
def f_check_stations : List D → Rs D := fnD 2 b_check_stations
theorem bd_check_stations {P : Program} {w : World} {K : Frg} {mg : Str → Option Value} {base : Heap} (T : Top K mg) : Body P w K mg base 5 ["book", "stations"] "check_stations" st_check_stations W0 b_check_stations := fun f cdv A outer s H E hg hr =>
  (ss_cons (s_expr (pu_cg (cal_check_book T) hr hg (fun _ => .nil) (pua_cons (pu_var 0) pua_nil)))
  (ss_one (s_if (put_not (put_tru (pu_cg (cal_are_stations T) hr hg (fun _ => .nil) (pua_cons (pu_var 0) (pua_cons (pu_var 1) pua_nil))))) (ss_one s_never) ss_nil)))
theorem cal_check_stations {P : Program} {w : World} {K : Frg} {mg : Str → Option Value} {base : Heap} (T : Top K mg) : CalG P w K mg base 6 "check_stations" (spD K 2 f_check_stations) [] := by
  obtain ⟨f, fd, F, hm, hk⟩ := T.d_check_stations
  exact ⟨f, fd, ["book", "stations"], [], fn_D F sc_check_stations (bd_check_stations T) rfl rfl, hm, hk, F.binds (fun _ _ _ _ _ _ us hl => match us, hl with | [_, _], _ => rfl), .nil⟩
/-! ### put -/
abbrev st_put : Stmt := topS 31
theorem sc_put : FnScope ["plan", "station", "channel"] ["plan", "station", "channel"] (defScope st_put) := ⟨rfl, rfl, rfl, by decide +kernel, rfl, by decide +kernel, by decide +kernel⟩
def b_put : Ev → Out :=
  (outG (appG tupD (starG (sliceG (varG 0) (cG none) (partG (varG 1))) (consG (varG 2) (starG (sliceG (varG 0) (partG (opG addD (varG 1) (cG (.int 1)))) (cG none)) nilG)))) fun d ρ => .rt d ρ)
def f_put : List D → Rs D := fnD 3 b_put
theorem bd_put {P : Program} {w : World} {K : Frg} {mg : Str → Option Value} {base : Heap} (T : Top K mg) : Body P w K mg base 0 ["plan", "station", "channel"] "put" st_put W0 b_put := fun f cdv A outer s H E hg hr =>
  (ss_one (s_ret (pu_tup (pua_star (pu_slice (pu_var 0) puo_none (puo_some (pu_var 1))) (pua_cons (pu_var 2) (pua_star (pu_slice (pu_var 0) (puo_some (pu_op o_add d_add (pu_var 1) pu_int)) puo_none) pua_nil))))))
theorem cal_put {P : Program} {w : World} {K : Frg} {mg : Str → Option Value} {base : Heap} (T : Top K mg) : CalG P w K mg base 1 "put" (spD K 3 f_put) [] := by
  obtain ⟨f, fd, F, hm, hk⟩ := T.d_put
  exact ⟨f, fd, ["plan", "station", "channel"], [], fn_D F sc_put (bd_put T) rfl rfl, hm, hk, F.binds (fun _ _ _ _ _ _ us hl => match us, hl with | [_, _, _], _ => rfl), .nil⟩
/-! ### clash_stands -/
abbrev st_clash_stands : Stmt := topS 26
theorem sc_clash_stands : FnScope ["plan", "clash", "i", "j", "distances"] ["plan", "clash"] (defScope st_clash_stands) := ⟨rfl, rfl, rfl, by decide +kernel, rfl, by decide +kernel, by decide +kernel⟩
def b_clash_stands : Ev → Out :=
  (seqS (outG (varG 1) fun d ρ => optO ((tupB 3 (consB (nmB 2) (consB (nmB 3) (consB (nmB 4) nilB)))) d ρ) .nx)
  (outG (andG (opG neD (opG ixD (varG 0) (varG 2)) (cG (.int (-1)))) (andG (opG neD (opG ixD (varG 0) (varG 3)) (cG (.int (-1)))) (opG inTD (appG absD (consG (opG subD (opG ixD (varG 0) (varG 2)) (opG ixD (varG 0) (varG 3))) nilG)) (varG 4)))) fun d ρ => .rt d ρ))
def f_clash_stands : List D → Rs D := fnD 5 b_clash_stands
theorem bd_clash_stands {P : Program} {w : World} {K : Frg} {mg : Str → Option Value} {base : Heap} (T : Top K mg) : Body P w K mg base 0 ["plan", "clash", "i", "j", "distances"] "clash_stands" st_clash_stands W0 b_clash_stands := fun f cdv A outer s H E hg hr =>
  (ss_cons (s_asg (pu_var 1) (tu_tup rfl (tus_cons (tu_name 2 sc_clash_stands.nd) (tus_cons (tu_name 3 sc_clash_stands.nd) (tus_cons (tu_name 4 sc_clash_stands.nd) tus_nil)))))
  (ss_one (s_ret (pu_and (pu_cmp (op_neD (rm64 hr)) d_ne (nomark _) (pu_ix (pu_var 0) (pu_var 2)) (pu_gI (T.c_SILENT.choose_spec))) (pu_and (pu_cmp (op_neD (rm64 hr)) d_ne (nomark _) (pu_ix (pu_var 0) (pu_var 3)) (pu_gI (T.c_SILENT.choose_spec))) (pu_one (pu_cmp (o_inT (rm65 hr)) d_inT (by rfl) (pu_callB call_abs b_abs T.z_abs PyProof.Rows.boot_abs (pua_cons (pu_op op_sub d_sub (pu_ix (pu_var 0) (pu_var 2)) (pu_ix (pu_var 0) (pu_var 3))) pua_nil)) (pu_var 4))))))))
theorem cal_clash_stands {P : Program} {w : World} {K : Frg} {mg : Str → Option Value} {base : Heap} (T : Top K mg) : CalG P w K mg base 1 "clash_stands" (spD K 2 f_clash_stands) [] := by
  obtain ⟨f, fd, F, hm, hk⟩ := T.d_clash_stands
  exact ⟨f, fd, ["plan", "clash"], [], fn_D F sc_clash_stands (bd_clash_stands T) rfl rfl, hm, hk, F.binds (fun _ _ _ _ _ _ us hl => match us, hl with | [_, _], _ => rfl), .nil⟩
/-! ### is_above -/
abbrev st_is_above : Stmt := topS 27
theorem sc_is_above : FnScope ["plan", "rule", "j", "limit", "gains", "gain", "channel"] ["plan", "rule"] (defScope st_is_above) := ⟨rfl, rfl, rfl, by decide +kernel, rfl, by decide +kernel, by decide +kernel⟩
def b_is_above : Ev → Out :=
  (seqS (outG (varG 1) fun d ρ => optO ((tupB 3 (consB (nmB 2) (consB (nmB 3) (consB (nmB 4) nilB)))) d ρ) .nx)
  (outG (andG (opG neD (opG ixD (varG 0) (varG 2)) (cG (.int (-1)))) (opG gtD (appG sumD (consG (frzG (lcG (appG zipD (consG (varG 4) (consG (varG 0) nilG))) (tupB 2 (consB (nmB 5) (consB (nmB 6) nilB))) (boolT (opG eqD (varG 6) (opG ixD (varG 0) (varG 2)))) (varG 5) [5, 6])) nilG)) (varG 3))) fun d ρ => .rt d ρ))
def f_is_above : List D → Rs D := fnD 7 b_is_above
theorem bd_is_above {P : Program} {w : World} {K : Frg} {mg : Str → Option Value} {base : Heap} (T : Top K mg) : Body P w K mg base 0 ["plan", "rule", "j", "limit", "gains", "gain", "channel"] "is_above" st_is_above W0 b_is_above := fun f cdv A outer s H E hg hr =>
  (ss_cons (s_asg (pu_var 1) (tu_tup rfl (tus_cons (tu_name 2 sc_is_above.nd) (tus_cons (tu_name 3 sc_is_above.nd) (tus_cons (tu_name 4 sc_is_above.nd) tus_nil)))))
  (ss_one (s_ret (pu_and (pu_cmp (op_neD (rm64 hr)) d_ne (nomark _) (pu_ix (pu_var 0) (pu_var 2)) (pu_gI (T.c_SILENT.choose_spec))) (pu_one (pu_cmp op_gt d_gt (nomark _) (pu_callB (cr_sum rfl) b_sum T.z_sum PyProof.Rows.boot_sum (pua_cons (pu_po (po_lc rfl sc_is_above.nd (iu_zip T.z_zip (pua_cons (pu_var 4) (pua_cons (pu_var 0) pua_nil))) (blkOk_by (own := [("gain", 5), ("channel", 6)]) (by kernel_rfl)) (fun _ _ _ _ _ => (tu_tup rfl (tus_cons (tu_name 5 sc_is_above.nd) (tus_cons (tu_name 6 sc_is_above.nd) tus_nil)))) (fun _ _ _ _ _ => (puts_one (put_cmp (op_eqD (rm64 hr)) d_eq (nomark _) (pu_var 6) (pu_ix (pu_var 0) (pu_var 2))))) (fun _ _ _ _ _ => (pu_var 5)))) pua_nil)) (pu_var 3)))))))
theorem cal_is_above {P : Program} {w : World} {K : Frg} {mg : Str → Option Value} {base : Heap} (T : Top K mg) : CalG P w K mg base 1 "is_above" (spD K 2 f_is_above) [] := by
  obtain ⟨f, fd, F, hm, hk⟩ := T.d_is_above
  exact ⟨f, fd, ["plan", "rule"], [], fn_D F sc_is_above (bd_is_above T) rfl rfl, hm, hk, F.binds (fun _ _ _ _ _ _ us hl => match us, hl with | [_, _], _ => rfl), .nil⟩
/-! ### faults_of -/
abbrev st_faults_of : Stmt := topS 28
theorem sc_faults_of : FnScope ["book", "plan", "found", "lists", "clashes", "sums", "station", "channel", "clash", "rule"] ["book", "plan"] (defScope st_faults_of) := ⟨rfl, rfl, rfl, by decide +kernel, rfl, by decide +kernel, by decide +kernel⟩
def b_faults_of : Ev → Out :=
  (seqS (outG (varG 0) fun d ρ => optO ((tupB 3 (consB (nmB 3) (consB (nmB 4) (consB (nmB 5) nilB)))) d ρ) .nx)
  (seqS (outM (lift (appG lstO nilG)) (setOS 2))
  (seqS (outG (appG enumD (consG (varG 1) nilG)) (forS (tupB 2 (consB (nmB 6) (consB (nmB 7) nilB))) (ifS (andT (boolT (opG neD (varG 7) (cG (.int (-1))))) (boolT (opG ninTD (varG 7) (opG ixD (varG 3) (varG 6))))) (outM (mthM "list" 2 appendO (consM (lift (appG tupD (consG (cG (.str "list")) (consG (varG 6) nilG)))) nilM)) fun _ ρ => .nx ρ) (fun ρ => .nx ρ)) []))
  (seqS (outM (mthM "list" 2 extendO (consM (lift (frzG (lcG (appG walkD (varG 4)) (nmB 8) (truT (callG 2 f_clash_stands [] (consG (varG 1) (consG (varG 8) nilG)))) (appG tupD (consG (cG (.str "clash")) (consG (opG ixD (varG 8) (cG (.int 0))) (consG (opG ixD (varG 8) (cG (.int 1))) nilG)))) [8]))) nilM)) fun _ ρ => .nx ρ)
  (seqS (outM (mthM "list" 2 extendO (consM (lift (frzG (lcG (appG walkD (varG 5)) (nmB 9) (truT (callG 2 f_is_above [] (consG (varG 1) (consG (varG 9) nilG)))) (appG tupD (consG (cG (.str "sum")) (consG (opG ixD (varG 9) (cG (.int 0))) nilG))) [9]))) nilM)) fun _ ρ => .nx ρ)
  (outM (frzV 2) fun d ρ => .rt d ρ))))))
def f_faults_of : List D → Rs D := fnD 10 b_faults_of
theorem bd_faults_of {P : Program} {w : World} {K : Frg} {mg : Str → Option Value} {base : Heap} (T : Top K mg) : Body P w K mg base 1 ["book", "plan", "found", "lists", "clashes", "sums", "station", "channel", "clash", "rule"] "faults_of" st_faults_of W0 b_faults_of := fun f cdv A outer s H E hg hr =>
  (ss_cons (s_asg (pu_var 0) (tu_tup rfl (tus_cons (tu_name 3 sc_faults_of.nd) (tus_cons (tu_name 4 sc_faults_of.nd) (tus_cons (tu_name 5 sc_faults_of.nd) tus_nil)))))
  (ss_cons (s_setO sc_faults_of.nd (mo_of (W := W0) (po_lst pua_nil)))
  (ss_cons (s_for [] PassesOwn.never rfl (iu_enum T.z_enumerate (pua_cons (pu_var 1) pua_nil)) (tu_tup rfl (tus_cons (tu_name 6 sc_faults_of.nd) (tus_cons (tu_name 7 sc_faults_of.nd) tus_nil))) (ss_one (s_if (put_w (puw_and (put_cmp (op_neD (rm64 hr)) d_ne (nomark _) (pu_var 7) (pu_gI (T.c_SILENT.choose_spec))) (puw_and1 (put_cmp (o_ninT (rm65 hr)) d_ninT (by rfl) (pu_var 7) (pu_ix (pu_var 3) (pu_var 6)))))) (ss_one (s_exprM (me_append 2 (ma_cons (me_of (W := W0) (pu_tup (pua_cons (pu_gS (T.c_OF_LIST.choose_spec)) (pua_cons (pu_var 6) pua_nil)))) ma_nil)))) ss_nil)))
  (ss_cons (s_exprM (me_extend 2 (ma_cons (me_of (W := W0) (pu_po (po_lc rfl sc_faults_of.nd (iu_seq (pu_var 4)) (blkOk_by (own := [("clash", 8)]) (by kernel_rfl)) (fun _ _ _ _ _ => (tu_name 8 sc_faults_of.nd)) (fun _ _ _ _ _ => (puts_one (put_tru (pu_cg (cal_clash_stands T) hr hg (fun _ => .nil) (pua_cons (pu_var 1) (pua_cons (pu_var 8) pua_nil)))))) (fun _ _ _ _ _ => (pu_tup (pua_cons (pu_gS (T.c_OF_CLASH.choose_spec)) (pua_cons (pu_ix (pu_var 8) pu_int) (pua_cons (pu_ix (pu_var 8) pu_int) pua_nil)))))))) ma_nil)))
  (ss_cons (s_exprM (me_extend 2 (ma_cons (me_of (W := W0) (pu_po (po_lc rfl sc_faults_of.nd (iu_seq (pu_var 5)) (blkOk_by (own := [("rule", 9)]) (by kernel_rfl)) (fun _ _ _ _ _ => (tu_name 9 sc_faults_of.nd)) (fun _ _ _ _ _ => (puts_one (put_tru (pu_cg (cal_is_above T) hr hg (fun _ => .nil) (pua_cons (pu_var 1) (pua_cons (pu_var 9) pua_nil)))))) (fun _ _ _ _ _ => (pu_tup (pua_cons (pu_gS (T.c_OF_SUM.choose_spec)) (pua_cons (pu_ix (pu_var 9) pu_int) pua_nil))))))) ma_nil)))
  (ss_one (s_retM (me_frz 2))))))))
theorem cal_faults_of {P : Program} {w : World} {K : Frg} {mg : Str → Option Value} {base : Heap} (T : Top K mg) : CalG P w K mg base 2 "faults_of" (spD K 2 f_faults_of) [] := by
  obtain ⟨f, fd, F, hm, hk⟩ := T.d_faults_of
  exact ⟨f, fd, ["book", "plan"], [], fn_D F sc_faults_of (bd_faults_of T) rfl rfl, hm, hk, F.binds (fun _ _ _ _ _ _ us hl => match us, hl with | [_, _], _ => rfl), .nil⟩
/-! ### first_packing -/
abbrev st_first_packing : Stmt := topS 38
theorem sc_first_packing : FnScope ["book", "stations", "allowed", "plan", "channel", "other", "found"] ["book", "stations", "allowed", "plan"] (defScope st_first_packing) := ⟨rfl, rfl, rfl, by decide +kernel, rfl, by decide +kernel, by decide +kernel⟩
def b_first_packing (self : List D → Rs D) : Ev → Out :=
  (seqS (ifS (boolT (opG isD (varG 3) (cG .none))) (outG (opG mulTD (appG tupD (consG (cG (.int (-1))) nilG)) (appG lenD (consG (opG ixD (varG 0) (cG (.int 0))) nilG))) (setS 3)) (fun ρ => .nx ρ))
  (seqS (ifS (notT (truT (varG 1))) (outG (varG 3) fun d ρ => .rt d ρ) (fun ρ => .nx ρ))
  (seqS (outG (appG walkD (opG ixD (opG ixD (varG 0) (cG (.int 0))) (opG ixD (varG 1) (cG (.int 0))))) (forS (nmB 4) (seqS (outG (callG 3 f_put [] (consG (varG 3) (consG (opG ixD (varG 1) (cG (.int 0))) (consG (varG 4) nilG)))) (setS 5))
  (ifS (andT (boolT (opG inTD (varG 4) (varG 2))) (notT (truT (callG 2 f_faults_of [] (consG (varG 0) (consG (varG 5) nilG)))))) (seqS (outG (callG 4 self [] (consG (varG 0) (consG (sliceG (varG 1) (partG (cG (.int 1))) (cG none)) (consG (varG 2) (consG (varG 5) nilG))))) (setS 6))
  (ifS (boolT (opG isntD (varG 6) (cG .none))) (outG (varG 6) fun d ρ => .rt d ρ) (fun ρ => .nx ρ))) (fun ρ => .nx ρ))) []))
  (outG (cG .none) fun d ρ => .rt d ρ))))
def f_first_packing : Nat → List D → Rs D
  | 0 => fun _ => .bad
  | n + 1 => fnD 7 (b_first_packing (f_first_packing n))
theorem bd_first_packing {P : Program} {w : World} {K : Frg} {mg : Str → Option Value} {base : Heap} (T : Top K mg) (k : Nat) (hk : 3 ≤ k + 1) (self : List D → Rs D) (cs : CalG P w K mg base k "first_packing" (spD K 4 self) []) : Body P w K mg base k ["book", "stations", "allowed", "plan", "channel", "other", "found"] "first_packing" st_first_packing W0 (b_first_packing self) := fun f cdv A outer s H E hg hr =>
  (ss_cons (s_if (put_cmp o_is d_is (nomark _) (pu_var 3) pu_non) (ss_one (s_set sc_first_packing.nd (pu_op o_mulT d_mulT (pu_tup (pua_cons (pu_gI (T.c_SILENT.choose_spec)) pua_nil)) (pu_callB (call_len_seq.or call_len_str) b_len T.z_len PySem.boot_len (pua_cons (pu_ix (pu_var 0) pu_int) pua_nil))))) ss_nil)
  (ss_cons (s_if (put_not (put_tru (pu_var 1))) (ss_one (s_ret (pu_var 3))) ss_nil)
  (ss_cons (s_for [] PassesOwn.never rfl (iu_seq (pu_ix (pu_ix (pu_var 0) pu_int) (pu_ix (pu_var 1) pu_int))) (tu_name 4 sc_first_packing.nd) (ss_cons (s_set sc_first_packing.nd (pu_cg (cal_put T) hr hg (fun _ => .nil) (pua_cons (pu_var 3) (pua_cons (pu_ix (pu_var 1) pu_int) (pua_cons (pu_var 4) pua_nil))) (hk := by omega)))
  (ss_one (s_if (put_w (puw_and (put_cmp (o_inT (rm65 hr)) d_inT (by rfl) (pu_var 4) (pu_var 2)) (puw_and1 (put_not (put_tru (pu_cg (cal_faults_of T) hr hg (fun _ => .nil) (pua_cons (pu_var 0) (pua_cons (pu_var 5) pua_nil)) (hk := by omega))))))) (ss_cons (s_set sc_first_packing.nd (pu_cg cs hr hg (fun _ => .nil) (pua_cons (pu_var 0) (pua_cons (pu_slice (pu_var 1) (puo_some pu_int) puo_none) (pua_cons (pu_var 2) (pua_cons (pu_var 5) pua_nil)))) (hk := Nat.le_refl _)))
  (ss_one (s_if (put_cmp o_isnt d_isnt (nomark _) (pu_var 6) pu_non) (ss_one (s_ret (pu_var 6))) ss_nil))) ss_nil))))
  (ss_one (s_ret pu_non)))))
theorem cal_first_packing {P : Program} {w : World} {K : Frg} {mg : Str → Option Value} {base : Heap} (T : Top K mg) : ∀ n, CalG P w K mg base (2 + n) "first_packing" (spD K 4 (f_first_packing n)) []
  | 0 => by
    obtain ⟨Td, o, c, ⟨f, fd, F, hm, hkp⟩, lT, oT⟩ := T.d_first_packing
    exact ⟨f, fd, ["book", "stations", "allowed", "plan"], [], ⟨fun vs H Q E h => by obtain ⟨_, _, h, _⟩ := h; exact h, fun A outer s H args us vs Q E _ _ _ _ _ h => by obtain ⟨_, _, _, _, _, h⟩ := h; exact h.elim⟩, hm, hkp, F.bindsD lT oT 1 4 rfl (fun _ _ _ _ _ _ us hl => match us, hl with | [_, _, _, _], _ => ⟨_, rfl, rfl⟩), .nil⟩
  | n + 1 => by
    obtain ⟨Td, o, c, ⟨f, fd, F, hm, hkp⟩, lT, oT⟩ := T.d_first_packing
    exact ⟨f, fd, ["book", "stations", "allowed", "plan"], [], fn_D F sc_first_packing (bd_first_packing T (2 + n) (by omega) (f_first_packing n) (cal_first_packing T n)) rfl rfl, hm, hkp, F.bindsD lT oT 1 4 rfl (fun _ _ _ _ _ _ us hl => match us, hl with | [_, _, _, _], _ => ⟨_, rfl, rfl⟩), .nil⟩
theorem cal_first_packing_1 {P : Program} {w : World} {K : Frg} {mg : Str → Option Value} {base : Heap} (T : Top K mg) : ∀ n, CalG P w K mg base (2 + n) "first_packing" (spD K 4 (f_first_packing n)) [.non]
  | 0 => by
    obtain ⟨Td, o, c, ⟨f, fd, F, hm, hkp⟩, lT, oT⟩ := T.d_first_packing
    exact ⟨f, fd, ["book", "stations", "allowed", "plan"], _, ⟨fun vs H Q E h => by obtain ⟨_, _, h, _⟩ := h; exact h, fun A outer s H args us vs Q E _ _ _ _ _ h => by obtain ⟨_, _, _, _, _, h⟩ := h; exact h.elim⟩, hm, hkp, F.bindsD lT oT 0 3 rfl (fun _ _ _ _ _ _ us hl => match us, hl with | [_, _, _], _ => ⟨_, rfl, rfl⟩), .cons rfl .nil⟩
  | n + 1 => by
    obtain ⟨Td, o, c, ⟨f, fd, F, hm, hkp⟩, lT, oT⟩ := T.d_first_packing
    exact ⟨f, fd, ["book", "stations", "allowed", "plan"], _, fn_D F sc_first_packing (bd_first_packing T (2 + n) (by omega) (f_first_packing n) (cal_first_packing T n)) rfl rfl, hm, hkp, F.bindsD lT oT 0 3 rfl (fun _ _ _ _ _ _ us hl => match us, hl with | [_, _, _], _ => ⟨_, rfl, rfl⟩), .cons rfl .nil⟩
/-! ### band_of -/
abbrev st_band_of : Stmt := topS 22
theorem sc_band_of : FnScope ["book", "numbers", "channel"] ["book"] (defScope st_band_of) := ⟨rfl, rfl, rfl, by decide +kernel, rfl, by decide +kernel, by decide +kernel⟩
def b_band_of : Ev → Out :=
  (outG (frzG (appG sortAO (consG (frzG (dcG2 (appG walkD (opG ixD (varG 0) (cG (.int 0)))) (nmB 1) (appG walkD (varG 1)) (nmB 2) (varG 2) (cG (.bool true)) [1, 2] [2])) nilG))) fun d ρ => .rt d ρ)
def f_band_of : List D → Rs D := fnD 3 b_band_of
theorem bd_band_of {P : Program} {w : World} {K : Frg} {mg : Str → Option Value} {base : Heap} (T : Top K mg) : Body P w K mg base 0 ["book", "numbers", "channel"] "band_of" st_band_of W0 b_band_of := fun f cdv A outer s H E hg hr =>
  (ss_one (s_ret (pu_po (po_callB (cr_sortA rfl) b_sortA T.z_sorted PyProof.Rows.boot_sorted (pua_cons (pu_po (po_dc2 rfl sc_band_of.nd (iu_seq (pu_ix (pu_var 0) pu_int)) (blkOk_by (own := [("numbers", 1), ("channel", 2)]) (by kernel_rfl)) (fun _ _ _ _ _ => (tu_name 1 sc_band_of.nd)) (fun _ _ _ _ _ => (iu_seq (pu_var 1))) (fun _ _ _ _ _ => (tu_name 2 sc_band_of.nd)) (fun _ _ _ _ _ => (pu_var 2)) (fun _ _ _ _ _ => pu_bl) (datB_nm 1))) pua_nil)))))
theorem cal_band_of {P : Program} {w : World} {K : Frg} {mg : Str → Option Value} {base : Heap} (T : Top K mg) : CalG P w K mg base 1 "band_of" (spD K 1 f_band_of) [] := by
  obtain ⟨f, fd, F, hm, hk⟩ := T.d_band_of
  exact ⟨f, fd, ["book"], [], fn_D F sc_band_of (bd_band_of T) rfl rfl, hm, hk, F.binds (fun _ _ _ _ _ _ us hl => match us, hl with | [_], _ => rfl), .nil⟩
/-! ### packings_of -/
abbrev st_packings_of : Stmt := topS 42
theorem sc_packings_of : FnScope ["book", "stations", "most", "rows", "place", "station", "longer", "plan", "channel", "other"] ["book", "stations", "most"] (defScope st_packings_of) := ⟨rfl, rfl, rfl, by decide +kernel, rfl, by decide +kernel, by decide +kernel⟩
def b_packings_of : Ev → Out :=
  (seqS (outG (frzG (appG lstO (consG (opG mulTD (appG tupD (consG (cG (.int (-1))) nilG)) (appG lenD (consG (opG ixD (varG 0) (cG (.int 0))) nilG))) nilG))) (setS 3))
  (seqS (outG (appG enumD (consG (varG 1) nilG)) (forS (tupB 2 (consB (nmB 4) (consB (nmB 5) nilB))) (seqS (outM (lift (appG lstO nilG)) (setOS 6))
  (seqS (outG (appG walkD (varG 3)) (forS (nmB 7) (outG (appG walkD (opG ixD (opG ixD (varG 0) (cG (.int 0))) (varG 5))) (forS (nmB 8) (seqS (outG (callG 3 f_put [] (consG (varG 7) (consG (varG 5) (consG (varG 8) nilG)))) (setS 9))
  (ifS (notT (truT (callG 2 f_faults_of [] (consG (varG 0) (consG (varG 9) nilG))))) (outM (mthM "list" 6 appendO (consM (lift (varG 9)) nilM)) fun _ ρ => .nx ρ) (fun ρ => .nx ρ))) [])) []))
  (seqS (outM (lcM (appM walkD (frzV 6)) (nmB 7) (lift (boolT (opG isntD (callG 4 (f_first_packing 6) [] (consG (varG 0) (consG (sliceG (varG 1) (partG (opG addD (varG 4) (cG (.int 1)))) (cG none)) (consG (callG 1 f_band_of [] (consG (varG 0) nilG)) (consG (varG 7) nilG))))) (cG .none)))) (lift (varG 7)) [7]) fun o => setS 3 o.dat)
  (ifS (boolT (opG gtD (appG lenD (consG (varG 3) nilG)) (varG 2))) (fun _ => .bad) (fun ρ => .nx ρ))))) []))
  (outG (frzG (appG sortAO (consG (varG 3) nilG))) fun d ρ => .rt d ρ)))
def f_packings_of : List D → Rs D := fnD 10 b_packings_of
theorem bd_packings_of {P : Program} {w : World} {K : Frg} {mg : Str → Option Value} {base : Heap} (T : Top K mg) : Body P w K mg base 8 ["book", "stations", "most", "rows", "place", "station", "longer", "plan", "channel", "other"] "packings_of" st_packings_of W0 b_packings_of := fun f cdv A outer s H E hg hr =>
  (ss_cons (s_set sc_packings_of.nd (pu_po (po_lst (pua_cons (pu_op o_mulT d_mulT (pu_tup (pua_cons (pu_gI (T.c_SILENT.choose_spec)) pua_nil)) (pu_callB (call_len_seq.or call_len_str) b_len T.z_len PySem.boot_len (pua_cons (pu_ix (pu_var 0) pu_int) pua_nil))) pua_nil))))
  (ss_cons (s_for [] PassesOwn.never rfl (iu_enum T.z_enumerate (pua_cons (pu_var 1) pua_nil)) (tu_tup rfl (tus_cons (tu_name 4 sc_packings_of.nd) (tus_cons (tu_name 5 sc_packings_of.nd) tus_nil))) (ss_cons (s_setO sc_packings_of.nd (mo_of (W := W0) (po_lst pua_nil)))
  (ss_cons (s_for [] PassesOwn.never rfl (iu_seq (pu_var 3)) (tu_name 7 sc_packings_of.nd) (ss_one (s_for [] PassesOwn.never rfl (iu_seq (pu_ix (pu_ix (pu_var 0) pu_int) (pu_var 5))) (tu_name 8 sc_packings_of.nd) (ss_cons (s_set sc_packings_of.nd (pu_cg (cal_put T) hr hg (fun _ => .nil) (pua_cons (pu_var 7) (pua_cons (pu_var 5) (pua_cons (pu_var 8) pua_nil)))))
  (ss_one (s_if (put_not (put_tru (pu_cg (cal_faults_of T) hr hg (fun _ => .nil) (pua_cons (pu_var 0) (pua_cons (pu_var 9) pua_nil))))) (ss_one (s_exprM (me_append 6 (ma_cons (me_of (W := W0) (pu_var 9)) ma_nil)))) ss_nil))))))
  (ss_cons (s_setLcF rfl sc_packings_of.nd (im_seq (me_frz 6)) (blkOk_by (own := [("plan", 7)]) (by kernel_rfl)) (fun _ _ _ _ _ => (tu_name 7 sc_packings_of.nd)) (fun _ _ _ _ _ => (mts_one (mt_of (W := W0) (put_cmp o_isnt d_isnt (nomark _) (pu_cg (cal_first_packing T 6) hr hg (fun _ => .nil) (pua_cons (pu_var 0) (pua_cons (pu_slice (pu_var 1) (puo_some (pu_op o_add d_add (pu_var 4) pu_int)) puo_none) (pua_cons (pu_cg (cal_band_of T) hr hg (fun _ => .nil) (pua_cons (pu_var 0) pua_nil)) (pua_cons (pu_var 7) pua_nil))))) pu_non)))) (fun _ _ _ _ _ => (me_of (W := W0) (pu_var 7))))
  (ss_one (s_if (put_cmp op_gt d_gt (nomark _) (pu_callB (call_len_seq.or call_len_str) b_len T.z_len PySem.boot_len (pua_cons (pu_var 3) pua_nil)) (pu_var 2)) (ss_one s_never) ss_nil))))))
  (ss_one (s_ret (pu_po (po_callB (cr_sortA rfl) b_sortA T.z_sorted PyProof.Rows.boot_sorted (pua_cons (pu_var 3) pua_nil)))))))
theorem cal_packings_of {P : Program} {w : World} {K : Frg} {mg : Str → Option Value} {base : Heap} (T : Top K mg) : CalG P w K mg base 9 "packings_of" (spD K 3 f_packings_of) [] := by
  obtain ⟨f, fd, F, hm, hk⟩ := T.d_packings_of
  exact ⟨f, fd, ["book", "stations", "most"], [], fn_D F sc_packings_of (bd_packings_of T) rfl rfl, hm, hk, F.binds (fun _ _ _ _ _ _ us hl => match us, hl with | [_, _, _], _ => rfl), .nil⟩
/-! ### packings -/
abbrev st_packings : Stmt := topS 43
theorem sc_packings : FnScope ["book", "stations"] ["book", "stations"] (defScope st_packings) := ⟨rfl, rfl, rfl, by decide +kernel, rfl, by decide +kernel, by decide +kernel⟩
def b_packings : Ev → Out :=
  (seqS (outG (callG 2 f_check_stations [] (consG (varG 0) (consG (varG 1) nilG))) fun _ ρ => .nx ρ)
  (outG (callG 3 f_packings_of [] (consG (varG 0) (consG (varG 1) (consG (cG (.int (2000))) nilG)))) fun d ρ => .rt d ρ))
def f_packings : List D → Rs D := fnD 2 b_packings
theorem bd_packings {P : Program} {w : World} {K : Frg} {mg : Str → Option Value} {base : Heap} (T : Top K mg) : Body P w K mg base 9 ["book", "stations"] "packings" st_packings W0 b_packings := fun f cdv A outer s H E hg hr =>
  (ss_cons (s_expr (pu_cg (cal_check_stations T) hr hg (fun _ => .nil) (pua_cons (pu_var 0) (pua_cons (pu_var 1) pua_nil))))
  (ss_one (s_ret (pu_cg (cal_packings_of T) hr hg (fun _ => .nil) (pua_cons (pu_var 0) (pua_cons (pu_var 1) (pua_cons (pu_gI (T.c_MOST_PACKINGS.choose_spec)) pua_nil)))))))
theorem cal_packings {P : Program} {w : World} {K : Frg} {mg : Str → Option Value} {base : Heap} (T : Top K mg) : CalG P w K mg base 10 "packings" (spD K 2 f_packings) [] := by
  obtain ⟨f, fd, F, hm, hk⟩ := T.d_packings
  exact ⟨f, fd, ["book", "stations"], [], fn_D F sc_packings (bd_packings T) rfl rfl, hm, hk, F.binds (fun _ _ _ _ _ _ us hl => match us, hl with | [_, _], _ => rfl), .nil⟩
/-! ### _law_looser -/
abbrev st__law_looser : Stmt := topS 59
theorem sc__law_looser : FnScope ["draws", "book", "kind", "at", "longer", "lists", "clashes", "sums", "j", "limit", "gains"] ["draws", "book"] (defScope st__law_looser) := ⟨rfl, rfl, rfl, by decide +kernel, rfl, by decide +kernel, by decide +kernel⟩
def b__law_looser : Ev → Out :=
  (seqS (outG (varG 1) fun d ρ => optO ((tupB 3 (consB (nmB 5) (consB (nmB 6) (consB (nmB 7) nilB)))) d ρ) .nx)
  (seqS (outM (opM modD (appM intD (consM (callI 1 0 f__law_next [] nilM) nilM)) (lift (cG (.int 4)))) (setS 2))
  (seqS (ifS (andT (boolT (opG eqD (varG 2) (cG (.int 0)))) (truT (varG 6))) (seqS (outM (opM modD (appM intD (consM (callI 1 0 f__law_next [] nilM) nilM)) (lift (appG lenD (consG (varG 6) nilG)))) (setS 3))
  (outG (appG tupD (consG (varG 5) (consG (opG addD (sliceG (varG 6) (cG none) (partG (varG 3))) (sliceG (varG 6) (partG (opG addD (varG 3) (cG (.int 1)))) (cG none))) (consG (varG 7) nilG)))) fun d ρ => .rt d ρ)) (fun ρ => .nx ρ))
  (seqS (ifS (andT (boolT (opG eqD (varG 2) (cG (.int 1)))) (truT (varG 7))) (seqS (outM (opM modD (appM intD (consM (callI 1 0 f__law_next [] nilM) nilM)) (lift (appG lenD (consG (varG 7) nilG)))) (setS 3))
  (outG (appG tupD (consG (varG 5) (consG (varG 6) (consG (opG addD (sliceG (varG 7) (cG none) (partG (varG 3))) (sliceG (varG 7) (partG (opG addD (varG 3) (cG (.int 1)))) (cG none))) nilG)))) fun d ρ => .rt d ρ)) (fun ρ => .nx ρ))
  (seqS (ifS (andT (boolT (opG eqD (varG 2) (cG (.int 2)))) (truT (varG 7))) (seqS (outM (opM modD (appM intD (consM (callI 1 0 f__law_next [] nilM) nilM)) (lift (appG lenD (consG (varG 7) nilG)))) (setS 3))
  (seqS (outG (opG ixD (varG 7) (varG 3)) fun d ρ => optO ((tupB 3 (consB (nmB 8) (consB (nmB 9) (consB (nmB 10) nilB)))) d ρ) .nx)
  (outM (appM tupD (consM (lift (varG 5)) (consM (lift (varG 6)) (consM (opM addD (opM addD (lift (sliceG (varG 7) (cG none) (partG (varG 3)))) (appM tupD (consM (appM tupD (consM (lift (varG 8)) (consM (opM addD (lift (opG addD (varG 9) (cG (.int 1)))) (opM modD (appM intD (consM (callI 1 0 f__law_next [] nilM) nilM)) (lift (cG (.int 3))))) (consM (lift (varG 10)) nilM)))) nilM))) (lift (sliceG (varG 7) (partG (opG addD (varG 3) (cG (.int 1)))) (cG none)))) nilM)))) fun d ρ => .rt d ρ))) (fun ρ => .nx ρ))
  (seqS (outM (opM modD (appM intD (consM (callI 1 0 f__law_next [] nilM) nilM)) (lift (appG lenD (consG (varG 5) nilG)))) (setS 3))
  (seqS (outM (appM tupleD (consM (frzM (ssetM (opM addD (lift (frzG (appG listO (consG (opG ixD (varG 5) (varG 3)) nilG)))) (frzM (appM lstO (consM (opM modD (appM intD (consM (callI 1 0 f__law_next [] nilM) nilM)) (lift (cG (.int 5)))) nilM)))))) nilM)) (setS 4))
  (outG (appG tupD (consG (opG addD (opG addD (sliceG (varG 5) (cG none) (partG (varG 3))) (appG tupD (consG (varG 4) nilG))) (sliceG (varG 5) (partG (opG addD (varG 3) (cG (.int 1)))) (cG none))) (consG (varG 6) (consG (varG 7) nilG)))) fun d ρ => .rt d ρ))))))))
def f__law_looser : O → List D → Rs (D × O) := fnMD 11 b__law_looser
theorem bd__law_looser {P : Program} {w : World} {K : Frg} {mg : Str → Option Value} {base : Heap} (T : Top K mg) : Body P w K mg base 1 ["draws", "book", "kind", "at", "longer", "lists", "clashes", "sums", "j", "limit", "gains"] "_law_looser" st__law_looser W0 b__law_looser := fun f cdv A outer s H E hg hr =>
  (ss_cons (s_asg (pu_var 1) (tu_tup rfl (tus_cons (tu_name 5 sc__law_looser.nd) (tus_cons (tu_name 6 sc__law_looser.nd) (tus_cons (tu_name 7 sc__law_looser.nd) tus_nil)))))
  (ss_cons (s_setM sc__law_looser.nd (me_op op_mod d_mod (me_callT call_int1 b_int T.z_int PyProof.Rows.boot_int (ma_cons (me_ci 0 (cal__law_next T) hr hg (fun _ => .nil) ma_nil) ma_nil)) (me_of (W := W0) pu_int)))
  (ss_cons (s_if (put_w (puw_and (put_cmp (op_eqD (rm64 hr)) d_eq (nomark _) (pu_var 2) pu_int) (puw_and1 (put_tru (pu_var 6))))) (ss_cons (s_setM sc__law_looser.nd (me_op op_mod d_mod (me_callT call_int1 b_int T.z_int PyProof.Rows.boot_int (ma_cons (me_ci 0 (cal__law_next T) hr hg (fun _ => .nil) ma_nil) ma_nil)) (me_of (W := W0) (pu_callB (call_len_seq.or call_len_str) b_len T.z_len PySem.boot_len (pua_cons (pu_var 6) pua_nil)))))
  (ss_one (s_ret (pu_tup (pua_cons (pu_var 5) (pua_cons (pu_op o_add d_add (pu_slice (pu_var 6) puo_none (puo_some (pu_var 3))) (pu_slice (pu_var 6) (puo_some (pu_op o_add d_add (pu_var 3) pu_int)) puo_none)) (pua_cons (pu_var 7) pua_nil))))))) ss_nil)
  (ss_cons (s_if (put_w (puw_and (put_cmp (op_eqD (rm64 hr)) d_eq (nomark _) (pu_var 2) pu_int) (puw_and1 (put_tru (pu_var 7))))) (ss_cons (s_setM sc__law_looser.nd (me_op op_mod d_mod (me_callT call_int1 b_int T.z_int PyProof.Rows.boot_int (ma_cons (me_ci 0 (cal__law_next T) hr hg (fun _ => .nil) ma_nil) ma_nil)) (me_of (W := W0) (pu_callB (call_len_seq.or call_len_str) b_len T.z_len PySem.boot_len (pua_cons (pu_var 7) pua_nil)))))
  (ss_one (s_ret (pu_tup (pua_cons (pu_var 5) (pua_cons (pu_var 6) (pua_cons (pu_op o_add d_add (pu_slice (pu_var 7) puo_none (puo_some (pu_var 3))) (pu_slice (pu_var 7) (puo_some (pu_op o_add d_add (pu_var 3) pu_int)) puo_none)) pua_nil))))))) ss_nil)
  (ss_cons (s_if (put_w (puw_and (put_cmp (op_eqD (rm64 hr)) d_eq (nomark _) (pu_var 2) pu_int) (puw_and1 (put_tru (pu_var 7))))) (ss_cons (s_setM sc__law_looser.nd (me_op op_mod d_mod (me_callT call_int1 b_int T.z_int PyProof.Rows.boot_int (ma_cons (me_ci 0 (cal__law_next T) hr hg (fun _ => .nil) ma_nil) ma_nil)) (me_of (W := W0) (pu_callB (call_len_seq.or call_len_str) b_len T.z_len PySem.boot_len (pua_cons (pu_var 7) pua_nil)))))
  (ss_cons (s_asg (pu_ix (pu_var 7) (pu_var 3)) (tu_tup rfl (tus_cons (tu_name 8 sc__law_looser.nd) (tus_cons (tu_name 9 sc__law_looser.nd) (tus_cons (tu_name 10 sc__law_looser.nd) tus_nil)))))
  (ss_one (s_retM (me_tup (ma_cons (me_of (W := W0) (pu_var 5)) (ma_cons (me_of (W := W0) (pu_var 6)) (ma_cons (me_op o_add d_add (me_op o_add d_add (me_of (W := W0) (pu_slice (pu_var 7) puo_none (puo_some (pu_var 3)))) (me_tup (ma_cons (me_tup (ma_cons (me_of (W := W0) (pu_var 8)) (ma_cons (me_op o_add d_add (me_of (W := W0) (pu_op o_add d_add (pu_var 9) pu_int)) (me_op op_mod d_mod (me_callT call_int1 b_int T.z_int PyProof.Rows.boot_int (ma_cons (me_ci 0 (cal__law_next T) hr hg (fun _ => .nil) ma_nil) ma_nil)) (me_of (W := W0) pu_int))) (ma_cons (me_of (W := W0) (pu_var 10)) ma_nil)))) ma_nil))) (me_of (W := W0) (pu_slice (pu_var 7) (puo_some (pu_op o_add d_add (pu_var 3) pu_int)) puo_none))) ma_nil)))))))) ss_nil)
  (ss_cons (s_setM sc__law_looser.nd (me_op op_mod d_mod (me_callT call_int1 b_int T.z_int PyProof.Rows.boot_int (ma_cons (me_ci 0 (cal__law_next T) hr hg (fun _ => .nil) ma_nil) ma_nil)) (me_of (W := W0) (pu_callB (call_len_seq.or call_len_str) b_len T.z_len PySem.boot_len (pua_cons (pu_var 5) pua_nil)))))
  (ss_cons (s_setM sc__law_looser.nd (me_callT call_tuple_of b_tuple T.z_tuple PyProof.Rows.boot_tuple (ma_cons (me_mo (mo_sset rfl T.z_sorted T.z_set (me_op o_add d_add (me_of (W := W0) (pu_po (po_callT call_list_of b_list T.z_list PyProof.Rows.boot_list (pua_cons (pu_ix (pu_var 5) (pu_var 3)) pua_nil)))) (me_mo (mo_lst (ma_cons (me_op op_mod d_mod (me_callT call_int1 b_int T.z_int PyProof.Rows.boot_int (ma_cons (me_ci 0 (cal__law_next T) hr hg (fun _ => .nil) ma_nil) ma_nil)) (me_of (W := W0) pu_int)) ma_nil)))))) ma_nil)))
  (ss_one (s_ret (pu_tup (pua_cons (pu_op o_add d_add (pu_op o_add d_add (pu_slice (pu_var 5) puo_none (puo_some (pu_var 3))) (pu_tup (pua_cons (pu_var 4) pua_nil))) (pu_slice (pu_var 5) (puo_some (pu_op o_add d_add (pu_var 3) pu_int)) puo_none)) (pua_cons (pu_var 6) (pua_cons (pu_var 7) pua_nil)))))))))))))
theorem cal__law_looser {P : Program} {w : World} {K : Frg} {mg : Str → Option Value} {base : Heap} (T : Top K mg) : CalG P w K mg base 2 "_law_looser" (spMD K 2 f__law_looser) [] := by
  obtain ⟨f, fd, F, hm, hk⟩ := T.d__law_looser
  exact ⟨f, fd, ["draws", "book"], [], fn_MD F sc__law_looser (bd__law_looser T) rfl rfl, hm, hk, F.binds (fun _ _ _ _ _ _ us hl => match us, hl with | [_, _], _ => rfl), .nil⟩
/-! ### packing_of -/
abbrev st_packing_of : Stmt := topS 39
theorem sc_packing_of : FnScope ["book", "stations"] ["book", "stations"] (defScope st_packing_of) := ⟨rfl, rfl, rfl, by decide +kernel, rfl, by decide +kernel, by decide +kernel⟩
def b_packing_of : Ev → Out :=
  (outG (callG 4 (f_first_packing 6) [.none] (consG (varG 0) (consG (varG 1) (consG (callG 1 f_band_of [] (consG (varG 0) nilG)) nilG)))) fun d ρ => .rt d ρ)
def f_packing_of : List D → Rs D := fnD 2 b_packing_of
theorem bd_packing_of {P : Program} {w : World} {K : Frg} {mg : Str → Option Value} {base : Heap} (T : Top K mg) : Body P w K mg base 8 ["book", "stations"] "packing_of" st_packing_of W0 b_packing_of := fun f cdv A outer s H E hg hr =>
  (ss_one (s_ret (pu_cg (cal_first_packing_1 T 6) hr hg (fun _ => .cons .non .nil) (pua_cons (pu_var 0) (pua_cons (pu_var 1) (pua_cons (pu_cg (cal_band_of T) hr hg (fun _ => .nil) (pua_cons (pu_var 0) pua_nil)) pua_nil))))))
theorem cal_packing_of {P : Program} {w : World} {K : Frg} {mg : Str → Option Value} {base : Heap} (T : Top K mg) : CalG P w K mg base 9 "packing_of" (spD K 2 f_packing_of) [] := by
  obtain ⟨f, fd, F, hm, hk⟩ := T.d_packing_of
  exact ⟨f, fd, ["book", "stations"], [], fn_D F sc_packing_of (bd_packing_of T) rfl rfl, hm, hk, F.binds (fun _ _ _ _ _ _ us hl => match us, hl with | [_, _], _ => rfl), .nil⟩
/-! ### packing -/
abbrev st_packing : Stmt := topS 40
theorem sc_packing : FnScope ["book", "stations"] ["book", "stations"] (defScope st_packing) := ⟨rfl, rfl, rfl, by decide +kernel, rfl, by decide +kernel, by decide +kernel⟩
def b_packing : Ev → Out :=
  (seqS (outG (callG 2 f_check_stations [] (consG (varG 0) (consG (varG 1) nilG))) fun _ ρ => .nx ρ)
  (outG (callG 2 f_packing_of [] (consG (varG 0) (consG (varG 1) nilG))) fun d ρ => .rt d ρ))
def f_packing : List D → Rs D := fnD 2 b_packing
theorem bd_packing {P : Program} {w : World} {K : Frg} {mg : Str → Option Value} {base : Heap} (T : Top K mg) : Body P w K mg base 9 ["book", "stations"] "packing" st_packing W0 b_packing := fun f cdv A outer s H E hg hr =>
  (ss_cons (s_expr (pu_cg (cal_check_stations T) hr hg (fun _ => .nil) (pua_cons (pu_var 0) (pua_cons (pu_var 1) pua_nil))))
  (ss_one (s_ret (pu_cg (cal_packing_of T) hr hg (fun _ => .nil) (pua_cons (pu_var 0) (pua_cons (pu_var 1) pua_nil))))))
theorem cal_packing {P : Program} {w : World} {K : Frg} {mg : Str → Option Value} {base : Heap} (T : Top K mg) : CalG P w K mg base 10 "packing" (spD K 2 f_packing) [] := by
  obtain ⟨f, fd, F, hm, hk⟩ := T.d_packing
  exact ⟨f, fd, ["book", "stations"], [], fn_D F sc_packing (bd_packing T) rfl rfl, hm, hk, F.binds (fun _ _ _ _ _ _ us hl => match us, hl with | [_, _], _ => rfl), .nil⟩
/-! ### is_packable -/
abbrev st_is_packable : Stmt := topS 41
theorem sc_is_packable : FnScope ["book", "stations"] ["book", "stations"] (defScope st_is_packable) := ⟨rfl, rfl, rfl, by decide +kernel, rfl, by decide +kernel, by decide +kernel⟩
def b_is_packable : Ev → Out :=
  (outG (opG isntD (callG 2 f_packing [] (consG (varG 0) (consG (varG 1) nilG))) (cG .none)) fun d ρ => .rt d ρ)
def f_is_packable : List D → Rs D := fnD 2 b_is_packable
theorem bd_is_packable {P : Program} {w : World} {K : Frg} {mg : Str → Option Value} {base : Heap} (T : Top K mg) : Body P w K mg base 10 ["book", "stations"] "is_packable" st_is_packable W0 b_is_packable := fun f cdv A outer s H E hg hr =>
  (ss_one (s_ret (pu_cmp o_isnt d_isnt (nomark _) (pu_cg (cal_packing T) hr hg (fun _ => .nil) (pua_cons (pu_var 0) (pua_cons (pu_var 1) pua_nil))) pu_non)))
theorem cal_is_packable {P : Program} {w : World} {K : Frg} {mg : Str → Option Value} {base : Heap} (T : Top K mg) : CalG P w K mg base 11 "is_packable" (spD K 2 f_is_packable) [] := by
  obtain ⟨f, fd, F, hm, hk⟩ := T.d_is_packable
  exact ⟨f, fd, ["book", "stations"], [], fn_D F sc_is_packable (bd_is_packable T) rfl rfl, hm, hk, F.binds (fun _ _ _ _ _ _ us hl => match us, hl with | [_, _], _ => rfl), .nil⟩
/-! ### with_stations -/
abbrev st_with_stations : Stmt := topS 35
theorem sc_with_stations : FnScope ["book", "stations", "places", "some", "rules", "lists", "clashes", "sums", "j", "limit", "gains", "place", "station", "i", "distances"] ["book", "stations"] (defScope st_with_stations) := ⟨rfl, rfl, rfl, by decide +kernel, rfl, by decide +kernel, by decide +kernel⟩
def b_with_stations : Ev → Out :=
  (seqS (outG (callG 2 f_check_stations [] (consG (varG 0) (consG (varG 1) nilG))) fun _ ρ => .nx ρ)
  (seqS (ifS (notT (truT (varG 1))) (fun _ => .bad) (fun ρ => .nx ρ))
  (seqS (outG (varG 0) fun d ρ => optO ((tupB 3 (consB (nmB 5) (consB (nmB 6) (consB (nmB 7) nilB)))) d ρ) .nx)
  (seqS (outG (frzG (dcG1 (appG enumD (consG (varG 1) nilG)) (tupB 2 (consB (nmB 11) (consB (nmB 12) nilB))) (varG 12) (varG 11) [11, 12])) (setS 2))
  (seqS (outG (lcG (appG walkD (varG 6)) (tupB 3 (consB (nmB 13) (consB (nmB 8) (consB (nmB 14) nilB)))) (andT (boolT (opG inTD (varG 13) (varG 2))) (boolT (opG inTD (varG 8) (varG 2)))) (appG tupD (consG (opG dgetD (varG 2) (varG 13)) (consG (opG dgetD (varG 2) (varG 8)) (consG (varG 14) nilG)))) [13, 8, 14]) fun o => setS 3 o.dat)
  (seqS (outM (lift (appG lstO nilG)) (setOS 4))
  (seqS (outG (appG walkD (varG 7)) (forS (tupB 3 (consB (nmB 8) (consB (nmB 9) (consB (nmB 10) nilB)))) (ifS (boolT (opG inTD (varG 8) (varG 2))) (outM (mthM "list" 4 appendO (consM (lift (appG tupD (consG (opG dgetD (varG 2) (varG 8)) (consG (varG 9) (consG (appG tupleD (consG (frzG (lcG (appG walkD (varG 1)) (nmB 12) (cG true) (opG ixD (varG 10) (varG 12)) [12])) nilG)) nilG))))) nilM)) fun _ ρ => .nx ρ) (fun ρ => .nx ρ)) []))
  (outM (appM tupD (consM (lift (appG tupleD (consG (frzG (lcG (appG walkD (varG 1)) (nmB 12) (cG true) (opG ixD (varG 5) (varG 12)) [12])) nilG))) (consM (lift (appG tupleD (consG (varG 3) nilG))) (consM (appM tupleD (consM (frzV 4) nilM)) nilM)))) fun d ρ => .rt d ρ))))))))
def f_with_stations : List D → Rs D := fnD 15 b_with_stations
theorem bd_with_stations {P : Program} {w : World} {K : Frg} {mg : Str → Option Value} {base : Heap} (T : Top K mg) : Body P w K mg base 6 ["book", "stations", "places", "some", "rules", "lists", "clashes", "sums", "j", "limit", "gains", "place", "station", "i", "distances"] "with_stations" st_with_stations W0 b_with_stations := fun f cdv A outer s H E hg hr =>
  (ss_cons (s_expr (pu_cg (cal_check_stations T) hr hg (fun _ => .nil) (pua_cons (pu_var 0) (pua_cons (pu_var 1) pua_nil))))
  (ss_cons (s_if (put_not (put_tru (pu_var 1))) (ss_one s_never) ss_nil)
  (ss_cons (s_asg (pu_var 0) (tu_tup rfl (tus_cons (tu_name 5 sc_with_stations.nd) (tus_cons (tu_name 6 sc_with_stations.nd) (tus_cons (tu_name 7 sc_with_stations.nd) tus_nil)))))
  (ss_cons (s_set sc_with_stations.nd (pu_po (po_dc1 rfl sc_with_stations.nd (iu_enum T.z_enumerate (pua_cons (pu_var 1) pua_nil)) (blkOk_by (own := [("place", 11), ("station", 12)]) (by kernel_rfl)) (fun _ _ _ _ _ => (tu_tup rfl (tus_cons (tu_name 11 sc_with_stations.nd) (tus_cons (tu_name 12 sc_with_stations.nd) tus_nil)))) (fun _ _ _ _ _ => (pu_var 12)) (fun _ _ _ _ _ => (pu_var 11)))))
  (ss_cons (s_setLcP rfl sc_with_stations.nd (iu_seq (pu_var 6)) (blkOk_by (own := [("i", 13), ("j", 8), ("distances", 14)]) (by kernel_rfl)) (fun _ _ _ _ _ => (tu_tup rfl (tus_cons (tu_name 13 sc_with_stations.nd) (tus_cons (tu_name 8 sc_with_stations.nd) (tus_cons (tu_name 14 sc_with_stations.nd) tus_nil))))) (fun _ _ _ _ _ => (puts_one (put_w (puw_and (put_cmp (o_inT (rm65 hr)) d_inT (by rfl) (pu_var 13) (pu_var 2)) (puw_and1 (put_cmp (o_inT (rm65 hr)) d_inT (by rfl) (pu_var 8) (pu_var 2))))))) (fun _ _ _ _ _ => (pu_tup (pua_cons (pu_dix (rm1 hr) (pu_var 2) (pu_var 13)) (pua_cons (pu_dix (rm1 hr) (pu_var 2) (pu_var 8)) (pua_cons (pu_var 14) pua_nil))))))
  (ss_cons (s_setO sc_with_stations.nd (mo_of (W := W0) (po_lst pua_nil)))
  (ss_cons (s_for [] PassesOwn.never rfl (iu_seq (pu_var 7)) (tu_tup rfl (tus_cons (tu_name 8 sc_with_stations.nd) (tus_cons (tu_name 9 sc_with_stations.nd) (tus_cons (tu_name 10 sc_with_stations.nd) tus_nil)))) (ss_one (s_if (put_cmp (o_inT (rm65 hr)) d_inT (by rfl) (pu_var 8) (pu_var 2)) (ss_one (s_exprM (me_append 4 (ma_cons (me_of (W := W0) (pu_tup (pua_cons (pu_dix (rm1 hr) (pu_var 2) (pu_var 8)) (pua_cons (pu_var 9) (pua_cons (pu_callT call_tuple_of b_tuple T.z_tuple PyProof.Rows.boot_tuple (pua_cons (pu_po (po_lc rfl sc_with_stations.nd (iu_seq (pu_var 1)) (blkOk_by (own := [("station", 12)]) (by kernel_rfl)) (fun _ _ _ _ _ => (tu_name 12 sc_with_stations.nd)) (fun _ _ _ _ _ => puts_nil) (fun _ _ _ _ _ => (pu_ix (pu_var 10) (pu_var 12))))) pua_nil)) pua_nil))))) ma_nil)))) ss_nil)))
  (ss_one (s_retM (me_tup (ma_cons (me_of (W := W0) (pu_callT call_tuple_of b_tuple T.z_tuple PyProof.Rows.boot_tuple (pua_cons (pu_po (po_lc rfl sc_with_stations.nd (iu_seq (pu_var 1)) (blkOk_by (own := [("station", 12)]) (by kernel_rfl)) (fun _ _ _ _ _ => (tu_name 12 sc_with_stations.nd)) (fun _ _ _ _ _ => puts_nil) (fun _ _ _ _ _ => (pu_ix (pu_var 5) (pu_var 12))))) pua_nil))) (ma_cons (me_of (W := W0) (pu_callT call_tuple_of b_tuple T.z_tuple PyProof.Rows.boot_tuple (pua_cons (pu_var 3) pua_nil))) (ma_cons (me_callT call_tuple_of b_tuple T.z_tuple PyProof.Rows.boot_tuple (ma_cons (me_frz 4) ma_nil)) ma_nil)))))))))))))
theorem cal_with_stations {P : Program} {w : World} {K : Frg} {mg : Str → Option Value} {base : Heap} (T : Top K mg) : CalG P w K mg base 7 "with_stations" (spD K 2 f_with_stations) [] := by
  obtain ⟨f, fd, F, hm, hk⟩ := T.d_with_stations
  exact ⟨f, fd, ["book", "stations"], [], fn_D F sc_with_stations (bd_with_stations T) rfl rfl, hm, hk, F.binds (fun _ _ _ _ _ _ us hl => match us, hl with | [_, _], _ => rfl), .nil⟩
/-! ### least_band -/
abbrev st_least_band : Stmt := topS 44
theorem sc_least_band : FnScope ["book", "stations", "most"] ["book", "stations"] (defScope st_least_band) := ⟨rfl, rfl, rfl, by decide +kernel, rfl, by decide +kernel, by decide +kernel⟩
def b_least_band : Ev → Out :=
  (seqS (outG (callG 2 f_check_stations [] (consG (varG 0) (consG (varG 1) nilG))) fun _ ρ => .nx ρ)
  (seqS (ifS (notT (truT (varG 1))) (outG (cG (.int 0)) fun d ρ => .rt d ρ) (fun ρ => .nx ρ))
  (seqS (outG (appG walkD (callG 1 f_band_of [] (consG (varG 0) nilG))) (forS (nmB 2) (ifS (boolT (opG isntD (callG 4 (f_first_packing 6) [.none] (consG (varG 0) (consG (varG 1) (consG (frzG (rgD .l (opG addD (varG 2) (cG (.int 1))))) nilG)))) (cG .none))) (outG (opG addD (varG 2) (cG (.int 1))) fun d ρ => .rt d ρ) (fun ρ => .nx ρ)) []))
  (outG (cG .none) fun d ρ => .rt d ρ))))
def f_least_band : List D → Rs D := fnD 3 b_least_band
theorem bd_least_band {P : Program} {w : World} {K : Frg} {mg : Str → Option Value} {base : Heap} (T : Top K mg) : Body P w K mg base 8 ["book", "stations", "most"] "least_band" st_least_band W0 b_least_band := fun f cdv A outer s H E hg hr =>
  (ss_cons (s_expr (pu_cg (cal_check_stations T) hr hg (fun _ => .nil) (pua_cons (pu_var 0) (pua_cons (pu_var 1) pua_nil))))
  (ss_cons (s_if (put_not (put_tru (pu_var 1))) (ss_one (s_ret pu_int)) ss_nil)
  (ss_cons (s_for [] PassesOwn.never rfl (iu_seq (pu_cg (cal_band_of T) hr hg (fun _ => .nil) (pua_cons (pu_var 0) pua_nil))) (tu_name 2 sc_least_band.nd) (ss_one (s_if (put_cmp o_isnt d_isnt (nomark _) (pu_cg (cal_first_packing_1 T 6) hr hg (fun _ => .cons .non .nil) (pua_cons (pu_var 0) (pua_cons (pu_var 1) (pua_cons (pu_po (po_listRg rfl T.z_list T.z_range (pu_op o_add d_add (pu_var 2) pu_int))) pua_nil)))) pu_non) (ss_one (s_ret (pu_op o_add d_add (pu_var 2) pu_int))) ss_nil)))
  (ss_one (s_ret pu_non)))))
theorem cal_least_band {P : Program} {w : World} {K : Frg} {mg : Str → Option Value} {base : Heap} (T : Top K mg) : CalG P w K mg base 9 "least_band" (spD K 2 f_least_band) [] := by
  obtain ⟨f, fd, F, hm, hk⟩ := T.d_least_band
  exact ⟨f, fd, ["book", "stations"], [], fn_D F sc_least_band (bd_least_band T) rfl rfl, hm, hk, F.binds (fun _ _ _ _ _ _ us hl => match us, hl with | [_, _], _ => rfl), .nil⟩
/-! ### _law_faults -/
abbrev st__law_faults : Stmt := topS 54
theorem sc__law_faults : FnScope ["book", "plan", "found", "lists", "clashes", "sums", "i", "j", "distances", "limit", "gains", "k"] ["book", "plan"] (defScope st__law_faults) := ⟨rfl, rfl, rfl, by decide +kernel, rfl, by decide +kernel, by decide +kernel⟩
def b__law_faults : Ev → Out :=
  (seqS (outG (varG 0) fun d ρ => optO ((tupB 3 (consB (nmB 3) (consB (nmB 4) (consB (nmB 5) nilB)))) d ρ) .nx)
  (seqS (outM (lcM (lift (appG range1D (consG (appG lenD (consG (varG 1) nilG)) nilG))) (nmB 11) (lift (andT (boolT (opG geD (opG ixD (varG 1) (varG 11)) (cG (.int 0)))) (boolT (opG ninTD (opG ixD (varG 1) (varG 11)) (opG ixD (varG 3) (varG 11)))))) (lift (appG tupD (consG (cG (.str "list")) (consG (varG 11) nilG)))) [11]) (setOS 2))
  (seqS (outG (appG walkD (varG 4)) (forS (tupB 3 (consB (nmB 6) (consB (nmB 7) (consB (nmB 8) nilB)))) (ifS (andT (boolT (opG geD (opG ixD (varG 1) (varG 6)) (cG (.int 0)))) (andT (boolT (opG geD (opG ixD (varG 1) (varG 7)) (cG (.int 0)))) (boolT (opG inTD (appG absD (consG (opG subD (opG ixD (varG 1) (varG 6)) (opG ixD (varG 1) (varG 7))) nilG)) (varG 8))))) (outM (mthM "list" 2 appendO (consM (lift (appG tupD (consG (cG (.str "clash")) (consG (varG 6) (consG (varG 7) nilG))))) nilM)) fun _ ρ => .nx ρ) (fun ρ => .nx ρ)) []))
  (seqS (outG (appG walkD (varG 5)) (forS (tupB 3 (consB (nmB 7) (consB (nmB 9) (consB (nmB 10) nilB)))) (ifS (andT (boolT (opG geD (opG ixD (varG 1) (varG 7)) (cG (.int 0)))) (boolT (opG gtD (appG sumD (consG (frzG (lcG (appG range1D (consG (appG lenD (consG (varG 1) nilG)) nilG)) (nmB 11) (boolT (opG eqD (opG ixD (varG 1) (varG 11)) (opG ixD (varG 1) (varG 7)))) (opG ixD (varG 10) (varG 11)) [11])) nilG)) (varG 9)))) (outM (mthM "list" 2 appendO (consM (lift (appG tupD (consG (cG (.str "sum")) (consG (varG 7) nilG)))) nilM)) fun _ ρ => .nx ρ) (fun ρ => .nx ρ)) []))
  (outM (frzV 2) fun d ρ => .rt d ρ)))))
def f__law_faults : List D → Rs D := fnD 12 b__law_faults
theorem bd__law_faults {P : Program} {w : World} {K : Frg} {mg : Str → Option Value} {base : Heap} (T : Top K mg) : Body P w K mg base 0 ["book", "plan", "found", "lists", "clashes", "sums", "i", "j", "distances", "limit", "gains", "k"] "_law_faults" st__law_faults W0 b__law_faults := fun f cdv A outer s H E hg hr =>
  (ss_cons (s_asg (pu_var 0) (tu_tup rfl (tus_cons (tu_name 3 sc__law_faults.nd) (tus_cons (tu_name 4 sc__law_faults.nd) (tus_cons (tu_name 5 sc__law_faults.nd) tus_nil)))))
  (ss_cons (s_setLcO rfl sc__law_faults.nd (im_of (W := W0) (iu_range1 T.z_range (pua_cons (pu_callB (call_len_seq.or call_len_str) b_len T.z_len PySem.boot_len (pua_cons (pu_var 1) pua_nil)) pua_nil))) (blkOk_by (own := [("k", 11)]) (by kernel_rfl)) (fun _ _ _ _ _ => (tu_name 11 sc__law_faults.nd)) (fun _ _ _ _ _ => (mts_one (mt_of (W := W0) (put_w (puw_and (put_cmp op_ge d_ge (nomark _) (pu_ix (pu_var 1) (pu_var 11)) pu_int) (puw_and1 (put_cmp (o_ninT (rm65 hr)) d_ninT (by rfl) (pu_ix (pu_var 1) (pu_var 11)) (pu_ix (pu_var 3) (pu_var 11))))))))) (fun _ _ _ _ _ => (me_of (W := W0) (pu_tup (pua_cons pu_str (pua_cons (pu_var 11) pua_nil))))))
  (ss_cons (s_for [] PassesOwn.never rfl (iu_seq (pu_var 4)) (tu_tup rfl (tus_cons (tu_name 6 sc__law_faults.nd) (tus_cons (tu_name 7 sc__law_faults.nd) (tus_cons (tu_name 8 sc__law_faults.nd) tus_nil)))) (ss_one (s_if (put_w (puw_and (put_cmp op_ge d_ge (nomark _) (pu_ix (pu_var 1) (pu_var 6)) pu_int) (puw_and (put_cmp op_ge d_ge (nomark _) (pu_ix (pu_var 1) (pu_var 7)) pu_int) (puw_and1 (put_cmp (o_inT (rm65 hr)) d_inT (by rfl) (pu_callB call_abs b_abs T.z_abs PyProof.Rows.boot_abs (pua_cons (pu_op op_sub d_sub (pu_ix (pu_var 1) (pu_var 6)) (pu_ix (pu_var 1) (pu_var 7))) pua_nil)) (pu_var 8)))))) (ss_one (s_exprM (me_append 2 (ma_cons (me_of (W := W0) (pu_tup (pua_cons pu_str (pua_cons (pu_var 6) (pua_cons (pu_var 7) pua_nil))))) ma_nil)))) ss_nil)))
  (ss_cons (s_for [] PassesOwn.never rfl (iu_seq (pu_var 5)) (tu_tup rfl (tus_cons (tu_name 7 sc__law_faults.nd) (tus_cons (tu_name 9 sc__law_faults.nd) (tus_cons (tu_name 10 sc__law_faults.nd) tus_nil)))) (ss_one (s_if (put_w (puw_and (put_cmp op_ge d_ge (nomark _) (pu_ix (pu_var 1) (pu_var 7)) pu_int) (puw_and1 (put_cmp op_gt d_gt (nomark _) (pu_callB (cr_sum rfl) b_sum T.z_sum PyProof.Rows.boot_sum (pua_cons (pu_po (po_lc rfl sc__law_faults.nd (iu_range1 T.z_range (pua_cons (pu_callB (call_len_seq.or call_len_str) b_len T.z_len PySem.boot_len (pua_cons (pu_var 1) pua_nil)) pua_nil)) (blkOk_by (own := [("k", 11)]) (by kernel_rfl)) (fun _ _ _ _ _ => (tu_name 11 sc__law_faults.nd)) (fun _ _ _ _ _ => (puts_one (put_cmp (op_eqD (rm64 hr)) d_eq (nomark _) (pu_ix (pu_var 1) (pu_var 11)) (pu_ix (pu_var 1) (pu_var 7))))) (fun _ _ _ _ _ => (pu_ix (pu_var 10) (pu_var 11))))) pua_nil)) (pu_var 9))))) (ss_one (s_exprM (me_append 2 (ma_cons (me_of (W := W0) (pu_tup (pua_cons pu_str (pua_cons (pu_var 7) pua_nil)))) ma_nil)))) ss_nil)))
  (ss_one (s_retM (me_frz 2)))))))
theorem cal__law_faults {P : Program} {w : World} {K : Frg} {mg : Str → Option Value} {base : Heap} (T : Top K mg) : CalG P w K mg base 1 "_law_faults" (spD K 2 f__law_faults) [] := by
  obtain ⟨f, fd, F, hm, hk⟩ := T.d__law_faults
  exact ⟨f, fd, ["book", "plan"], [], fn_D F sc__law_faults (bd__law_faults T) rfl rfl, hm, hk, F.binds (fun _ _ _ _ _ _ us hl => match us, hl with | [_, _], _ => rfl), .nil⟩
/-! ### _law_packings -/
abbrev st__law_packings : Stmt := topS 55
theorem sc__law_packings : FnScope ["book", "stations", "rows", "station", "longer", "plan", "channel", "other"] ["book", "stations"] (defScope st__law_packings) := ⟨rfl, rfl, rfl, by decide +kernel, rfl, by decide +kernel, by decide +kernel⟩
def b__law_packings : Ev → Out :=
  (seqS (outG (frzG (appG lstO (consG (opG mulTD (appG tupD (consG (unG negD (cG (.int 1))) nilG)) (appG lenD (consG (opG ixD (varG 0) (cG (.int 0))) nilG))) nilG))) (setS 2))
  (seqS (outG (appG walkD (varG 1)) (forS (nmB 3) (seqS (outM (lift (appG lstO nilG)) (setOS 4))
  (seqS (outG (appG walkD (varG 2)) (forS (nmB 5) (outG (appG walkD (opG ixD (opG ixD (varG 0) (cG (.int 0))) (varG 3))) (forS (nmB 6) (seqS (outG (opG addD (opG addD (sliceG (varG 5) (cG none) (partG (varG 3))) (appG tupD (consG (varG 6) nilG))) (sliceG (varG 5) (partG (opG addD (varG 3) (cG (.int 1)))) (cG none))) (setS 7))
  (ifS (boolT (opG eqD (callG 2 f__law_faults [] (consG (varG 0) (consG (varG 7) nilG))) (frzG (appG lstO nilG)))) (outM (mthM "list" 4 appendO (consM (lift (varG 7)) nilM)) fun _ ρ => .nx ρ) (fun ρ => .nx ρ))) [])) []))
  (outM (frzM (appM listO (consM (frzV 4) nilM))) (setS 2)))) []))
  (outG (frzG (appG sortAO (consG (varG 2) nilG))) fun d ρ => .rt d ρ)))
def f__law_packings : List D → Rs D := fnD 8 b__law_packings
theorem bd__law_packings {P : Program} {w : World} {K : Frg} {mg : Str → Option Value} {base : Heap} (T : Top K mg) : Body P w K mg base 1 ["book", "stations", "rows", "station", "longer", "plan", "channel", "other"] "_law_packings" st__law_packings W0 b__law_packings := fun f cdv A outer s H E hg hr =>
  (ss_cons (s_set sc__law_packings.nd (pu_po (po_lst (pua_cons (pu_op o_mulT d_mulT (pu_tup (pua_cons (pu_un un_neg d_neg pu_int) pua_nil)) (pu_callB (call_len_seq.or call_len_str) b_len T.z_len PySem.boot_len (pua_cons (pu_ix (pu_var 0) pu_int) pua_nil))) pua_nil))))
  (ss_cons (s_for [] PassesOwn.never rfl (iu_seq (pu_var 1)) (tu_name 3 sc__law_packings.nd) (ss_cons (s_setO sc__law_packings.nd (mo_of (W := W0) (po_lst pua_nil)))
  (ss_cons (s_for [] PassesOwn.never rfl (iu_seq (pu_var 2)) (tu_name 5 sc__law_packings.nd) (ss_one (s_for [] PassesOwn.never rfl (iu_seq (pu_ix (pu_ix (pu_var 0) pu_int) (pu_var 3))) (tu_name 6 sc__law_packings.nd) (ss_cons (s_set sc__law_packings.nd (pu_op o_add d_add (pu_op o_add d_add (pu_slice (pu_var 5) puo_none (puo_some (pu_var 3))) (pu_tup (pua_cons (pu_var 6) pua_nil))) (pu_slice (pu_var 5) (puo_some (pu_op o_add d_add (pu_var 3) pu_int)) puo_none)))
  (ss_one (s_if (put_cmp (op_eqD (rm64 hr)) d_eq (nomark _) (pu_cg (cal__law_faults T) hr hg (fun _ => .nil) (pua_cons (pu_var 0) (pua_cons (pu_var 7) pua_nil))) (pu_po (po_lst pua_nil))) (ss_one (s_exprM (me_append 4 (ma_cons (me_of (W := W0) (pu_var 7)) ma_nil)))) ss_nil))))))
  (ss_one (s_setM sc__law_packings.nd (me_mo (mo_callT call_list_of b_list T.z_list PyProof.Rows.boot_list (ma_cons (me_frz 4) ma_nil))))))))
  (ss_one (s_ret (pu_po (po_callB (cr_sortA rfl) b_sortA T.z_sorted PyProof.Rows.boot_sorted (pua_cons (pu_var 2) pua_nil)))))))
theorem cal__law_packings {P : Program} {w : World} {K : Frg} {mg : Str → Option Value} {base : Heap} (T : Top K mg) : CalG P w K mg base 2 "_law_packings" (spD K 2 f__law_packings) [] := by
  obtain ⟨f, fd, F, hm, hk⟩ := T.d__law_packings
  exact ⟨f, fd, ["book", "stations"], [], fn_D F sc__law_packings (bd__law_packings T) rfl rfl, hm, hk, F.binds (fun _ _ _ _ _ _ us hl => match us, hl with | [_, _], _ => rfl), .nil⟩
/-! ### fits_book -/
abbrev st_fits_book : Stmt := topS 23
theorem sc_fits_book : FnScope ["book", "plan", "channel"] ["book", "plan"] (defScope st_fits_book) := ⟨rfl, rfl, rfl, by decide +kernel, rfl, by decide +kernel, by decide +kernel⟩
def b_fits_book : Ev → Out :=
  (outG (andG (opG eqD (appG lenD (consG (varG 1) nilG)) (appG lenD (consG (opG ixD (varG 0) (cG (.int 0))) nilG))) (appG allD (consG (frzG (lcG (appG walkD (varG 1)) (nmB 2) (cG true) (chG (cG (.int (-1))) (linkG leD (varG 2) (lastG leD (cG (.int (7)))))) [2])) nilG))) fun d ρ => .rt d ρ)
def f_fits_book : List D → Rs D := fnD 3 b_fits_book
theorem bd_fits_book {P : Program} {w : World} {K : Frg} {mg : Str → Option Value} {base : Heap} (T : Top K mg) : Body P w K mg base 0 ["book", "plan", "channel"] "fits_book" st_fits_book W0 b_fits_book := fun f cdv A outer s H E hg hr =>
  (ss_one (s_ret (pu_and (pu_cmp (op_eqD (rm64 hr)) d_eq (nomark _) (pu_callB (call_len_seq.or call_len_str) b_len T.z_len PySem.boot_len (pua_cons (pu_var 1) pua_nil)) (pu_callB (call_len_seq.or call_len_str) b_len T.z_len PySem.boot_len (pua_cons (pu_ix (pu_var 0) pu_int) pua_nil))) (pu_one (pu_callB (cr_all rfl) b_all T.z_all PyProof.Rows.boot_all (pua_cons (pu_po (po_lc rfl sc_fits_book.nd (iu_seq (pu_var 1)) (blkOk_by (own := [("channel", 2)]) (by kernel_rfl)) (fun _ _ _ _ _ => (tu_name 2 sc_fits_book.nd)) (fun _ _ _ _ _ => puts_nil) (fun _ _ _ _ _ => (pu_chain (pu_gI (T.c_SILENT.choose_spec)) (ch_link op_le d_le (pu_var 2) (ch_last op_le d_le (pu_gI (T.c_MOST_CHANNEL.choose_spec)))))))) pua_nil))))))
theorem cal_fits_book {P : Program} {w : World} {K : Frg} {mg : Str → Option Value} {base : Heap} (T : Top K mg) : CalG P w K mg base 1 "fits_book" (spD K 2 f_fits_book) [] := by
  obtain ⟨f, fd, F, hm, hk⟩ := T.d_fits_book
  exact ⟨f, fd, ["book", "plan"], [], fn_D F sc_fits_book (bd_fits_book T) rfl rfl, hm, hk, F.binds (fun _ _ _ _ _ _ us hl => match us, hl with | [_, _], _ => rfl), .nil⟩
/-! ### is_plan -/
abbrev st_is_plan : Stmt := topS 24
theorem sc_is_plan : FnScope ["book", "plan"] ["book", "plan"] (defScope st_is_plan) := ⟨rfl, rfl, rfl, by decide +kernel, rfl, by decide +kernel, by decide +kernel⟩
def b_is_plan : Ev → Out :=
  (seqS (outG (callG 1 f_check_book [] (consG (varG 0) nilG)) fun _ ρ => .nx ρ)
  (outG (callG 2 f_fits_book [] (consG (varG 0) (consG (varG 1) nilG))) fun d ρ => .rt d ρ))
def f_is_plan : List D → Rs D := fnD 2 b_is_plan
theorem bd_is_plan {P : Program} {w : World} {K : Frg} {mg : Str → Option Value} {base : Heap} (T : Top K mg) : Body P w K mg base 5 ["book", "plan"] "is_plan" st_is_plan W0 b_is_plan := fun f cdv A outer s H E hg hr =>
  (ss_cons (s_expr (pu_cg (cal_check_book T) hr hg (fun _ => .nil) (pua_cons (pu_var 0) pua_nil)))
  (ss_one (s_ret (pu_cg (cal_fits_book T) hr hg (fun _ => .nil) (pua_cons (pu_var 0) (pua_cons (pu_var 1) pua_nil))))))
theorem cal_is_plan {P : Program} {w : World} {K : Frg} {mg : Str → Option Value} {base : Heap} (T : Top K mg) : CalG P w K mg base 6 "is_plan" (spD K 2 f_is_plan) [] := by
  obtain ⟨f, fd, F, hm, hk⟩ := T.d_is_plan
  exact ⟨f, fd, ["book", "plan"], [], fn_D F sc_is_plan (bd_is_plan T) rfl rfl, hm, hk, F.binds (fun _ _ _ _ _ _ us hl => match us, hl with | [_, _], _ => rfl), .nil⟩
/-! ### check_plan -/
abbrev st_check_plan : Stmt := topS 25
theorem sc_check_plan : FnScope ["book", "plan"] ["book", "plan"] (defScope st_check_plan) := ⟨rfl, rfl, rfl, by decide +kernel, rfl, by decide +kernel, by decide +kernel⟩
def b_check_plan : Ev → Out :=
  (ifS (notT (truT (callG 2 f_is_plan [] (consG (varG 0) (consG (varG 1) nilG))))) (fun _ => .bad) (fun ρ => .nx ρ))
def f_check_plan : List D → Rs D := fnD 2 b_check_plan
theorem bd_check_plan {P : Program} {w : World} {K : Frg} {mg : Str → Option Value} {base : Heap} (T : Top K mg) : Body P w K mg base 6 ["book", "plan"] "check_plan" st_check_plan W0 b_check_plan := fun f cdv A outer s H E hg hr =>
  (ss_one (s_if (put_not (put_tru (pu_cg (cal_is_plan T) hr hg (fun _ => .nil) (pua_cons (pu_var 0) (pua_cons (pu_var 1) pua_nil))))) (ss_one s_never) ss_nil))
theorem cal_check_plan {P : Program} {w : World} {K : Frg} {mg : Str → Option Value} {base : Heap} (T : Top K mg) : CalG P w K mg base 7 "check_plan" (spD K 2 f_check_plan) [] := by
  obtain ⟨f, fd, F, hm, hk⟩ := T.d_check_plan
  exact ⟨f, fd, ["book", "plan"], [], fn_D F sc_check_plan (bd_check_plan T) rfl rfl, hm, hk, F.binds (fun _ _ _ _ _ _ us hl => match us, hl with | [_, _], _ => rfl), .nil⟩
/-! ### faults -/
abbrev st_faults : Stmt := topS 29
theorem sc_faults : FnScope ["book", "plan"] ["book", "plan"] (defScope st_faults) := ⟨rfl, rfl, rfl, by decide +kernel, rfl, by decide +kernel, by decide +kernel⟩
def b_faults : Ev → Out :=
  (seqS (outG (callG 2 f_check_plan [] (consG (varG 0) (consG (varG 1) nilG))) fun _ ρ => .nx ρ)
  (outG (callG 2 f_faults_of [] (consG (varG 0) (consG (varG 1) nilG))) fun d ρ => .rt d ρ))
def f_faults : List D → Rs D := fnD 2 b_faults
theorem bd_faults {P : Program} {w : World} {K : Frg} {mg : Str → Option Value} {base : Heap} (T : Top K mg) : Body P w K mg base 7 ["book", "plan"] "faults" st_faults W0 b_faults := fun f cdv A outer s H E hg hr =>
  (ss_cons (s_expr (pu_cg (cal_check_plan T) hr hg (fun _ => .nil) (pua_cons (pu_var 0) (pua_cons (pu_var 1) pua_nil))))
  (ss_one (s_ret (pu_cg (cal_faults_of T) hr hg (fun _ => .nil) (pua_cons (pu_var 0) (pua_cons (pu_var 1) pua_nil))))))
theorem cal_faults {P : Program} {w : World} {K : Frg} {mg : Str → Option Value} {base : Heap} (T : Top K mg) : CalG P w K mg base 8 "faults" (spD K 2 f_faults) [] := by
  obtain ⟨f, fd, F, hm, hk⟩ := T.d_faults
  exact ⟨f, fd, ["book", "plan"], [], fn_D F sc_faults (bd_faults T) rfl rfl, hm, hk, F.binds (fun _ _ _ _ _ _ us hl => match us, hl with | [_, _], _ => rfl), .nil⟩
/-! ### is_right -/
abbrev st_is_right : Stmt := topS 30
theorem sc_is_right : FnScope ["book", "plan"] ["book", "plan"] (defScope st_is_right) := ⟨rfl, rfl, rfl, by decide +kernel, rfl, by decide +kernel, by decide +kernel⟩
def b_is_right : Ev → Out :=
  (outG (opG eqD (callG 2 f_faults [] (consG (varG 0) (consG (varG 1) nilG))) (frzG (appG lstO nilG))) fun d ρ => .rt d ρ)
def f_is_right : List D → Rs D := fnD 2 b_is_right
theorem bd_is_right {P : Program} {w : World} {K : Frg} {mg : Str → Option Value} {base : Heap} (T : Top K mg) : Body P w K mg base 8 ["book", "plan"] "is_right" st_is_right W0 b_is_right := fun f cdv A outer s H E hg hr =>
  (ss_one (s_ret (pu_cmp (op_eqD (rm64 hr)) d_eq (nomark _) (pu_cg (cal_faults T) hr hg (fun _ => .nil) (pua_cons (pu_var 0) (pua_cons (pu_var 1) pua_nil))) (pu_po (po_lst pua_nil)))))
theorem cal_is_right {P : Program} {w : World} {K : Frg} {mg : Str → Option Value} {base : Heap} (T : Top K mg) : CalG P w K mg base 9 "is_right" (spD K 2 f_is_right) [] := by
  obtain ⟨f, fd, F, hm, hk⟩ := T.d_is_right
  exact ⟨f, fd, ["book", "plan"], [], fn_D F sc_is_right (bd_is_right T) rfl rfl, hm, hk, F.binds (fun _ _ _ _ _ _ us hl => match us, hl with | [_, _], _ => rfl), .nil⟩
/-! ### silenced -/
abbrev st_silenced : Stmt := topS 32
theorem sc_silenced : FnScope ["book", "plan", "station"] ["book", "plan", "station"] (defScope st_silenced) := ⟨rfl, rfl, rfl, by decide +kernel, rfl, by decide +kernel, by decide +kernel⟩
def b_silenced : Ev → Out :=
  (seqS (outG (callG 2 f_check_plan [] (consG (varG 0) (consG (varG 1) nilG))) fun _ ρ => .nx ρ)
  (seqS (ifS (notT (chG (cG (.int 0)) (linkT leD (varG 2) (lastT ltTD (appG lenD (consG (varG 1) nilG)))))) (fun _ => .bad) (fun ρ => .nx ρ))
  (outG (callG 3 f_put [] (consG (varG 1) (consG (varG 2) (consG (cG (.int (-1))) nilG)))) fun d ρ => .rt d ρ)))
def f_silenced : List D → Rs D := fnD 3 b_silenced
theorem bd_silenced {P : Program} {w : World} {K : Frg} {mg : Str → Option Value} {base : Heap} (T : Top K mg) : Body P w K mg base 7 ["book", "plan", "station"] "silenced" st_silenced W0 b_silenced := fun f cdv A outer s H E hg hr =>
  (ss_cons (s_expr (pu_cg (cal_check_plan T) hr hg (fun _ => .nil) (pua_cons (pu_var 0) (pua_cons (pu_var 1) pua_nil))))
  (ss_cons (s_if (put_not (put_chain pu_int (ct_link op_le d_le (pu_var 2) (ct_last (o_ltT (rm0 hr)) d_ltT (pu_callB (call_len_seq.or call_len_str) b_len T.z_len PySem.boot_len (pua_cons (pu_var 1) pua_nil)))))) (ss_one s_never) ss_nil)
  (ss_one (s_ret (pu_cg (cal_put T) hr hg (fun _ => .nil) (pua_cons (pu_var 1) (pua_cons (pu_var 2) (pua_cons (pu_gI (T.c_SILENT.choose_spec)) pua_nil))))))))
theorem cal_silenced {P : Program} {w : World} {K : Frg} {mg : Str → Option Value} {base : Heap} (T : Top K mg) : CalG P w K mg base 8 "silenced" (spD K 3 f_silenced) [] := by
  obtain ⟨f, fd, F, hm, hk⟩ := T.d_silenced
  exact ⟨f, fd, ["book", "plan", "station"], [], fn_D F sc_silenced (bd_silenced T) rfl rfl, hm, hk, F.binds (fun _ _ _ _ _ _ us hl => match us, hl with | [_, _, _], _ => rfl), .nil⟩
/-! ### law -/
abbrev st_law : Stmt := topS 60
theorem sc_law : FnScope ["script", "draws", "known", "book", "many", "turn", "stations", "some", "plan", "k", "looser", "part", "at", "less", "band", "other"] ["script"] (defScope st_law) := ⟨rfl, rfl, rfl, by decide +kernel, rfl, by decide +kernel, by decide +kernel⟩
def b_law : Ev → Out :=
  (seqS (outM (lift (callG 1 f__law_draws [] (consG (varG 0) nilG))) (setOS 1))
  (seqS (outM (callI 2 1 f__law_more [] (consM (lift (cG (.int 90))) nilM)) (setOS 1))
  (seqS (outG (appG tupD (consG (appG tupD (consG (appG tupD (consG (cG (.int 0)) nilG)) (consG (appG tupD (consG (cG (.int 0)) nilG)) (consG (appG tupD (consG (cG (.int 0)) (consG (cG (.int 1)) nilG))) nilG)))) (consG (appG tupD (consG (appG tupD (consG (cG (.int 0)) (consG (cG (.int 1)) (consG (appG tupD (consG (cG (.int 0)) nilG)) nilG)))) nilG)) (consG (appG tupD nilG) nilG)))) (setS 2))
  (seqS (ifS (orT (boolT (opG isntD (callG 2 f_is_packable [] (consG (varG 2) (consG (appG tupD (consG (cG (.int 0)) (consG (cG (.int 2)) nilG))) nilG))) (cG (.bool true)))) (orT (boolT (opG isntD (callG 2 f_is_packable [] (consG (varG 2) (consG (appG tupD (consG (cG (.int 0)) (consG (cG (.int 1)) nilG))) nilG))) (cG (.bool false)))) (boolT (opG neD (appG reprD (consG (callG 2 f_packings [] (consG (varG 2) (consG (appG tupD (consG (cG (.int 1)) (consG (cG (.int 2)) nilG))) nilG))) nilG)) (appG reprD (consG (frzG (appG lstO (consG (appG tupD (consG (unG negD (cG (.int 1))) (consG (cG (.int 0)) (consG (cG (.int 0)) nilG)))) (consG (appG tupD (consG (unG negD (cG (.int 1))) (consG (cG (.int 0)) (consG (cG (.int 1)) nilG)))) nilG)))) nilG)))))) (outG (cG (.bool false)) fun d ρ => .rt d ρ) (fun ρ => .nx ρ))
  (seqS (outM (callI 2 1 f__law_book [] (consM (lift (cG (.int 5))) nilM)) (setS 3))
  (seqS (outG (appG lenD (consG (opG ixD (varG 3) (cG (.int 0))) nilG)) (setS 4))
  (seqS (outG (appG range1D (consG (cG (.int 3)) nilG)) (forS (nmB 5) (seqS (outM (callI 2 1 f__law_some [] (consM (lift (varG 4)) nilM)) (setS 6))
  (seqS (outG (callG 2 f_packings [] (consG (varG 3) (consG (varG 6) nilG))) (setS 7))
  (seqS (ifS (boolT (opG neD (appG reprD (consG (varG 7) nilG)) (appG reprD (consG (callG 2 f__law_packings [] (consG (varG 3) (consG (varG 6) nilG))) nilG)))) (outG (cG (.bool false)) fun d ρ => .rt d ρ) (fun ρ => .nx ρ))
  (seqS (ifS (truT (varG 6)) (seqS (outG (callG 2 f_with_stations [] (consG (varG 3) (consG (varG 6) nilG))) (setS 11))
  (ifS (boolT (opG neD (appG reprD (consG (callG 2 f_packings [] (consG (varG 11) (consG (rgD .tuple (appG lenD (consG (varG 6) nilG))) nilG))) nilG)) (appG reprD (consG (frzG (lcG (appG walkD (varG 7)) (nmB 8) (cG true) (appG tupleD (consG (frzG (lcG (appG walkD (varG 6)) (nmB 9) (cG true) (opG ixD (varG 8) (varG 9)) [9])) nilG)) [8])) nilG)))) (outG (cG (.bool false)) fun d ρ => .rt d ρ) (fun ρ => .nx ρ))) (fun ρ => .nx ρ))
  (seqS (outG (appG walkD (sliceG (varG 7) (cG none) (partG (cG (.int 3))))) (forS (nmB 8) (seqS (outM (opM modD (appM intD (consM (callI 1 1 f__law_next [] nilM) nilM)) (lift (varG 4))) (setS 12))
  (ifS (orT (boolT (opG isntD (callG 2 f_is_right [] (consG (varG 3) (consG (varG 8) nilG))) (cG (.bool true)))) (boolT (opG isntD (callG 2 f_is_right [] (consG (varG 3) (consG (callG 3 f_silenced [] (consG (varG 3) (consG (varG 8) (consG (varG 12) nilG)))) nilG))) (cG (.bool true))))) (outG (cG (.bool false)) fun d ρ => .rt d ρ) (fun ρ => .nx ρ))) []))
  (seqS (outG (appG range1D (consG (appG lenD (consG (varG 6) nilG)) nilG)) (forS (nmB 9) (seqS (outG (opG addD (sliceG (varG 6) (cG none) (partG (varG 9))) (sliceG (varG 6) (partG (opG addD (varG 9) (cG (.int 1)))) (cG none))) (setS 13))
  (ifS (andT (boolT (opG neD (varG 7) (frzG (appG lstO nilG)))) (boolT (opG isntD (callG 2 f_is_packable [] (consG (varG 3) (consG (varG 13) nilG))) (cG (.bool true))))) (outG (cG (.bool false)) fun d ρ => .rt d ρ) (fun ρ => .nx ρ))) []))
  (seqS (outM (callI 2 1 f__law_looser [] (consM (lift (varG 3)) nilM)) (setS 10))
  (seqS (outM (consM (lift (callG 2 f_least_band [] (consG (varG 3) (consG (varG 6) nilG)))) (consM (lift (callG 2 f_least_band [] (consG (varG 10) (consG (varG 6) nilG)))) nilM)) (parS 14 15))
  (ifS (orT (boolT (opG neD (opG isD (varG 14) (cG .none)) (opG eqD (varG 7) (frzG (appG lstO nilG))))) (andT (boolT (opG isntD (varG 14) (cG .none))) (orT (boolT (opG isD (varG 15) (cG .none))) (boolT (opG gtD (varG 15) (varG 14)))))) (outG (cG (.bool false)) fun d ρ => .rt d ρ) (fun ρ => .nx ρ)))))))))) []))
  (outG (cG (.bool true)) fun d ρ => .rt d ρ))))))))
def f_law : List D → Rs D := fnD 16 b_law
theorem bd_law {P : Program} {w : World} {K : Frg} {mg : Str → Option Value} {base : Heap} (T : Top K mg) : Body P w K mg base 11 ["script", "draws", "known", "book", "many", "turn", "stations", "some", "plan", "k", "looser", "part", "at", "less", "band", "other"] "law" st_law W0 b_law := fun f cdv A outer s H E hg hr =>
  (ss_cons (s_setO sc_law.nd (mo_of (W := W0) (po_cg (cal__law_draws T) hr hg (fun _ => .nil) (pua_cons (pu_var 0) pua_nil))))
  (ss_cons (s_setO sc_law.nd (mo_ci 1 (cal__law_more T) hr hg (fun _ => .nil) (ma_cons (me_of (W := W0) pu_int) ma_nil)))
  (ss_cons (s_set sc_law.nd (pu_tup (pua_cons (pu_tup (pua_cons (pu_tup (pua_cons pu_int pua_nil)) (pua_cons (pu_tup (pua_cons pu_int pua_nil)) (pua_cons (pu_tup (pua_cons pu_int (pua_cons pu_int pua_nil))) pua_nil)))) (pua_cons (pu_tup (pua_cons (pu_tup (pua_cons pu_int (pua_cons pu_int (pua_cons (pu_tup (pua_cons pu_int pua_nil)) pua_nil)))) pua_nil)) (pua_cons (pu_tup pua_nil) pua_nil)))))
  (ss_cons (s_if (put_w (puw_or (put_cmp o_isnt d_isnt (nomark _) (pu_cg (cal_is_packable T) hr hg (fun _ => .nil) (pua_cons (pu_var 2) (pua_cons (pu_tup (pua_cons pu_int (pua_cons pu_int pua_nil))) pua_nil))) pu_bl) (puw_or (put_cmp o_isnt d_isnt (nomark _) (pu_cg (cal_is_packable T) hr hg (fun _ => .nil) (pua_cons (pu_var 2) (pua_cons (pu_tup (pua_cons pu_int (pua_cons pu_int pua_nil))) pua_nil))) pu_bl) (puw_or1 (put_cmp (op_neD (rm64 hr)) d_ne (nomark _) (pu_callB (cr_repr hg (rm64 hr)) b_repr T.z_repr PyProof.Rows.boot_repr (pua_cons (pu_cg (cal_packings T) hr hg (fun _ => .nil) (pua_cons (pu_var 2) (pua_cons (pu_tup (pua_cons pu_int (pua_cons pu_int pua_nil))) pua_nil))) pua_nil)) (pu_callB (cr_repr hg (rm64 hr)) b_repr T.z_repr PyProof.Rows.boot_repr (pua_cons (pu_po (po_lst (pua_cons (pu_tup (pua_cons (pu_un un_neg d_neg pu_int) (pua_cons pu_int (pua_cons pu_int pua_nil)))) (pua_cons (pu_tup (pua_cons (pu_un un_neg d_neg pu_int) (pua_cons pu_int (pua_cons pu_int pua_nil)))) pua_nil)))) pua_nil))))))) (ss_one (s_ret pu_bl)) ss_nil)
  (ss_cons (s_setM sc_law.nd (me_ci 1 (cal__law_book T) hr hg (fun _ => .nil) (ma_cons (me_of (W := W0) pu_int) ma_nil)))
  (ss_cons (s_set sc_law.nd (pu_callB (call_len_seq.or call_len_str) b_len T.z_len PySem.boot_len (pua_cons (pu_ix (pu_var 3) pu_int) pua_nil)))
  (ss_cons (s_for [] PassesOwn.never rfl (iu_range1 T.z_range (pua_cons pu_int pua_nil)) (tu_name 5 sc_law.nd) (ss_cons (s_setM sc_law.nd (me_ci 1 (cal__law_some T) hr hg (fun _ => .nil) (ma_cons (me_of (W := W0) (pu_var 4)) ma_nil)))
  (ss_cons (s_set sc_law.nd (pu_cg (cal_packings T) hr hg (fun _ => .nil) (pua_cons (pu_var 3) (pua_cons (pu_var 6) pua_nil))))
  (ss_cons (s_if (put_cmp (op_neD (rm64 hr)) d_ne (nomark _) (pu_callB (cr_repr hg (rm64 hr)) b_repr T.z_repr PyProof.Rows.boot_repr (pua_cons (pu_var 7) pua_nil)) (pu_callB (cr_repr hg (rm64 hr)) b_repr T.z_repr PyProof.Rows.boot_repr (pua_cons (pu_cg (cal__law_packings T) hr hg (fun _ => .nil) (pua_cons (pu_var 3) (pua_cons (pu_var 6) pua_nil))) pua_nil))) (ss_one (s_ret pu_bl)) ss_nil)
  (ss_cons (s_if (put_tru (pu_var 6)) (ss_cons (s_set sc_law.nd (pu_cg (cal_with_stations T) hr hg (fun _ => .nil) (pua_cons (pu_var 3) (pua_cons (pu_var 6) pua_nil))))
  (ss_one (s_if (put_cmp (op_neD (rm64 hr)) d_ne (nomark _) (pu_callB (cr_repr hg (rm64 hr)) b_repr T.z_repr PyProof.Rows.boot_repr (pua_cons (pu_cg (cal_packings T) hr hg (fun _ => .nil) (pua_cons (pu_var 11) (pua_cons (pu_tupRg rfl T.z_tuple T.z_range (pu_callB (call_len_seq.or call_len_str) b_len T.z_len PySem.boot_len (pua_cons (pu_var 6) pua_nil))) pua_nil))) pua_nil)) (pu_callB (cr_repr hg (rm64 hr)) b_repr T.z_repr PyProof.Rows.boot_repr (pua_cons (pu_po (po_lc rfl sc_law.nd (iu_seq (pu_var 7)) (blkOk_by (own := [("plan", 8)]) (by kernel_rfl)) (fun _ _ _ _ _ => (tu_name 8 sc_law.nd)) (fun _ _ _ _ _ => puts_nil) (fun _ _ _ _ _ => (pu_callT call_tuple_of b_tuple T.z_tuple PyProof.Rows.boot_tuple (pua_cons (pu_po (po_lc rfl sc_law.nd (iu_seq (pu_var 6)) (blkOk_by (own := [("k", 9)]) (by kernel_rfl)) (fun _ _ _ _ _ => (tu_name 9 sc_law.nd)) (fun _ _ _ _ _ => puts_nil) (fun _ _ _ _ _ => (pu_ix (pu_var 8) (pu_var 9))))) pua_nil))))) pua_nil))) (ss_one (s_ret pu_bl)) ss_nil))) ss_nil)
  (ss_cons (s_for [] PassesOwn.never rfl (iu_seq (pu_slice (pu_var 7) puo_none (puo_some pu_int))) (tu_name 8 sc_law.nd) (ss_cons (s_setM sc_law.nd (me_op op_mod d_mod (me_callT call_int1 b_int T.z_int PyProof.Rows.boot_int (ma_cons (me_ci 1 (cal__law_next T) hr hg (fun _ => .nil) ma_nil) ma_nil)) (me_of (W := W0) (pu_var 4))))
  (ss_one (s_if (put_w (puw_or (put_cmp o_isnt d_isnt (nomark _) (pu_cg (cal_is_right T) hr hg (fun _ => .nil) (pua_cons (pu_var 3) (pua_cons (pu_var 8) pua_nil))) pu_bl) (puw_or1 (put_cmp o_isnt d_isnt (nomark _) (pu_cg (cal_is_right T) hr hg (fun _ => .nil) (pua_cons (pu_var 3) (pua_cons (pu_cg (cal_silenced T) hr hg (fun _ => .nil) (pua_cons (pu_var 3) (pua_cons (pu_var 8) (pua_cons (pu_var 12) pua_nil)))) pua_nil))) pu_bl)))) (ss_one (s_ret pu_bl)) ss_nil))))
  (ss_cons (s_for [] PassesOwn.never rfl (iu_range1 T.z_range (pua_cons (pu_callB (call_len_seq.or call_len_str) b_len T.z_len PySem.boot_len (pua_cons (pu_var 6) pua_nil)) pua_nil)) (tu_name 9 sc_law.nd) (ss_cons (s_set sc_law.nd (pu_op o_add d_add (pu_slice (pu_var 6) puo_none (puo_some (pu_var 9))) (pu_slice (pu_var 6) (puo_some (pu_op o_add d_add (pu_var 9) pu_int)) puo_none)))
  (ss_one (s_if (put_w (puw_and (put_cmp (op_neD (rm64 hr)) d_ne (nomark _) (pu_var 7) (pu_po (po_lst pua_nil))) (puw_and1 (put_cmp o_isnt d_isnt (nomark _) (pu_cg (cal_is_packable T) hr hg (fun _ => .nil) (pua_cons (pu_var 3) (pua_cons (pu_var 13) pua_nil))) pu_bl)))) (ss_one (s_ret pu_bl)) ss_nil))))
  (ss_cons (s_setM sc_law.nd (me_ci 1 (cal__law_looser T) hr hg (fun _ => .nil) (ma_cons (me_of (W := W0) (pu_var 3)) ma_nil)))
  (ss_cons (s_par rfl sc_law.nd 14 15 (ma_cons (me_of (W := W0) (pu_cg (cal_least_band T) hr hg (fun _ => .nil) (pua_cons (pu_var 3) (pua_cons (pu_var 6) pua_nil)))) (ma_cons (me_of (W := W0) (pu_cg (cal_least_band T) hr hg (fun _ => .nil) (pua_cons (pu_var 10) (pua_cons (pu_var 6) pua_nil)))) ma_nil)))
  (ss_one (s_if (put_w (puw_or (put_cmp (op_neD (rm64 hr)) d_ne (nomark _) (pu_cmp o_is d_is (nomark _) (pu_var 14) pu_non) (pu_cmp (op_eqD (rm64 hr)) d_eq (nomark _) (pu_var 7) (pu_po (po_lst pua_nil)))) (puw_or1 (put_w (puw_and (put_cmp o_isnt d_isnt (nomark _) (pu_var 14) pu_non) (puw_and1 (put_w (puw_or (put_cmp o_is d_is (nomark _) (pu_var 15) pu_non) (puw_or1 (put_cmp op_gt d_gt (nomark _) (pu_var 15) (pu_var 14))))))))))) (ss_one (s_ret pu_bl)) ss_nil)))))))))))
  (ss_one (s_ret pu_bl)))))))))
end K01
/-! M3: what the functions of the books compute. -/
namespace K01
open PySem PySem.Spec PyProof.Rows L2 DL BK

def nI (n : Nat) : D := .int (n : Int)
abbrev tupN (sts : List Nat) : D := tupI (sts.map fun (n : Nat) => (n : Int))
def encC (c : Nat × Nat × List Int) : D := .tuple [.int (c.1 : Int), .int (c.2.1 : Int), tupI c.2.2]
def encS (s : Nat × Int × List Int) : D := .tuple [.int (s.1 : Int), .int s.2.1, tupI s.2.2]
def encB (b : Bk) : D := .tuple [.tuple (b.ls.map tupI), .tuple (b.cl.map encC), .tuple (b.su.map encS)]
theorem big {n : Nat} (h : n ≤ 5000) : n ≤ sizeLine := by rw [sizeLine_eq]; omega
/-! ### put -/
theorem set_cut {α : Type} (p : List α) (s : Nat) (c : α) (h : s < p.length) : p.take s ++ c :: p.drop (s + 1) = p.set s c := (List.set_eq_take_append_cons_drop ..).symm ▸ by rw [if_pos h]
theorem e_put {p : List Int} {s : Nat} {c : Int} (h : s < p.length) (hl : p.length ≤ 5000) : f_put [tupI p, .int (s : Int), .int c] = .ok (tupI (p.set s c)) := by
  have e1 : (List.map PyData.int p).take s ++ PyData.int c :: (List.map PyData.int p).drop (s + 1) = (p.set s c).map PyData.int := by
    rw [← List.map_take, ← List.map_drop, ← set_cut p s c h, List.map_append, List.map_cons]
  have e2 : cutL (List.map PyData.int p) (some ((s : Int) + 1)) none = (List.map PyData.int p).drop (s + 1) := cutL_from _ (s + 1)
  simp [f_put, b_put, sliceD]
  rw [e2, e1, tupD_ok (by rw [List.length_map, List.length_set]; exact big hl)]
  rfl
/-! ### ascends -/
theorem cutL_1 {α : Type} (xs : List α) : cutL xs (some (1 : Int)) none = xs.tail := by rw [show (1 : Int) = ((1 : Nat) : Int) from rfl, cutL_from, List.drop_one]
theorem e_asc {α : Type} {enc : α → D} {lt : α → α → Bool} {xs : List α} {d : D} (hd : d = .list (xs.map enc) ∨ d = .tuple (xs.map enc)) (h : ∀ x ∈ xs, ∀ y ∈ xs, ltTD (enc x) (enc y) = some (.bool (lt x y))) : f_ascends [d] = .ok (.bool ((xs.zip xs.tail).all fun p => lt p.1 p.2)) := by
  have hz : compL (lcBody (tupB 2 (consB (nmB 1) (consB (nmB 2) nilB))) (cG true) (opG ltTD (varG 1) (varG 2)) [some (.dat d), none, none]) (zipL (xs.map enc) (xs.map enc).tail) = .ok (((xs.zip xs.tail).map fun p => lt p.1 p.2).map PyData.bool) := by
    rw [← List.map_tail, zipL_enc, List.map_map]
    refine compL_all (enc := fun p : α × α => PyData.tuple [enc p.1, enc p.2]) (h := fun p => PyData.bool (lt p.1 p.2)) fun p hp => ?_
    have hx := (List.of_mem_zip hp).1
    have hy := List.mem_of_mem_tail (List.of_mem_zip hp).2
    simp [lcBody, h _ hx _ hy]
  have ha : (((xs.zip xs.tail).map fun p => lt p.1 p.2).all id) = (xs.zip xs.tail).all fun p => lt p.1 p.2 := by rw [List.all_map]; rfl
  rcases hd with rfl | rfl
  · simp only [f_ascends, b_ascends, fnD, startE_cons, startE_nil, List.replicate, outG, appG, consG, varG, nilG, sliceG, partG, cG, frzG, lcG, wipeE, setE, Rs.bind_ok, Rs.of_some, Rs.map_ok, sliceD, zipD, cutL_1, List.getElem?_cons_zero, List.getElem?_cons_succ, List.set_cons_zero, List.set_cons_succ, Option.bind_some, hz, O.dat, allD_map, ha]
  · simp only [f_ascends, b_ascends, fnD, startE_cons, startE_nil, List.replicate, outG, appG, consG, varG, nilG, sliceG, partG, cG, frzG, lcG, wipeE, setE, Rs.bind_ok, Rs.of_some, Rs.map_ok, sliceD, zipD, cutL_1, List.getElem?_cons_zero, List.getElem?_cons_succ, List.set_cons_zero, List.set_cons_succ, Option.bind_some, hz, O.dat, allD_map, ha]
end K01
/-! M4: books, checked. -/
namespace K01
open PySem PySem.Spec PyProof.Rows L2 DL BK

theorem pw_all {α : Type} {r : α → α → Bool} : ∀ {l : List α}, l.Pairwise (fun a b => r a b = true) → ((l.zip l.tail).all fun p => r p.1 p.2) = true
  | [], _ => rfl
  | [_], _ => rfl
  | a :: b :: l, h => by
    have h1 := (List.pairwise_cons.mp h).1 b List.mem_cons_self
    have h2 := pw_all (List.pairwise_cons.mp h).2
    show (((a, b) :: (b :: l).zip l).all fun p => r p.1 p.2) = true
    rw [List.all_cons, h1]
    exact h2
theorem asc_ints {ns : List Int} (h : ns.Pairwise (· < ·)) : f_ascends [tupI ns] = .ok (.bool true) := by
  rw [e_asc (enc := PyData.int) (lt := fun a b => decide (a < b)) (xs := ns) (.inr rfl) fun x _ y _ => rfl, pw_all (r := fun a b : Int => decide (a < b))]
  exact h.imp fun {a b} h => decide_eq_true h
theorem asc_listI {ns : List Int} (h : ns.Pairwise (· < ·)) : f_ascends [.list (ns.map PyData.int)] = .ok (.bool true) := by
  rw [e_asc (enc := PyData.int) (lt := fun a b => decide (a < b)) (xs := ns) (.inl rfl) fun x _ y _ => rfl, pw_all (r := fun a b : Int => decide (a < b))]
  exact h.imp fun {a b} h => decide_eq_true h
theorem asc_pairs {ps : List (Int × Int)} (h : ps.Pairwise fun c d => c.1 < d.1 ∨ (c.1 = d.1 ∧ c.2 < d.2)) : f_ascends [.list (ps.map fun p => .tuple [.int p.1, .int p.2])] = .ok (.bool true) := by
  rw [e_asc (enc := fun p : Int × Int => PyData.tuple [.int p.1, .int p.2]) (lt := fun a b => HT.lexLt [a.1, a.2] [b.1, b.2]) (xs := ps) (.inl rfl) (fun x _ y _ => rfl), pw_all (r := fun a b : Int × Int => HT.lexLt [a.1, a.2] [b.1, b.2])]
  refine h.imp fun {a b} h => ?_
  show (if a.1 = b.1 then (if a.2 = b.2 then false else decide (a.2 < b.2)) else decide (a.1 < b.1)) = true
  rcases h with h | ⟨h, h2⟩
  · rw [if_neg (by omega)]
    exact decide_eq_true h
  · rw [if_pos h, if_neg (by omega)]
    exact decide_eq_true h2
/-! ### valid books -/
def Ch (l : List Int) : Prop := l ≠ [] ∧ l.Pairwise (· < ·) ∧ ∀ c ∈ l, 0 ≤ c ∧ c ≤ 7
structure Vb (b : Bk) : Prop where
  n1 : 1 ≤ b.ls.length
  n8 : b.ls.length ≤ 8
  l : ∀ l ∈ b.ls, Ch l
  c : ∀ c ∈ b.cl, c.1 < c.2.1 ∧ c.2.1 < b.ls.length ∧ Ch c.2.2
  ca : b.cl.Pairwise fun c d => c.1 < d.1 ∨ (c.1 = d.1 ∧ c.2.1 < d.2.1)
  s : ∀ s ∈ b.su, s.1 < b.ls.length ∧ 0 ≤ s.2.1 ∧ s.2.1 ≤ 999 ∧ s.2.2.length = b.ls.length ∧ s.2.2[s.1]? = some 0 ∧ ∀ g ∈ s.2.2, 0 ≤ g ∧ g ≤ 999
  sa : b.su.Pairwise fun s t => s.1 < t.1
theorem asc_len {n : Int} : ∀ {l : List Int} {k : Int}, l.Pairwise (· < ·) → (∀ c ∈ l, k ≤ c ∧ c < n) → k ≤ n → (l.length : Int) ≤ n - k
  | [], k, _, _, h => by simp; omega
  | x :: xs, k, hp, hb, h => by
    have hx := hb x List.mem_cons_self
    have := asc_len (l := xs) (k := x + 1) (List.pairwise_cons.mp hp).2 (fun c hc => ⟨(List.pairwise_cons.mp hp).1 c hc, (hb c (List.mem_cons_of_mem _ hc)).2⟩) (by omega)
    rw [List.length_cons]
    omega
theorem Ch.len {l : List Int} (h : Ch l) : l.length ≤ 8 := by
  have := asc_len (n := 8) (k := 0) h.2.1 (fun c hc => ⟨(h.2.2 c hc).1, by have := (h.2.2 c hc).2; omega⟩) (by omega)
  omega
theorem e_chan {l : List Int} (h : Ch l) : f_are_channels [tupI l] = .ok (.bool true) := by
  obtain ⟨x, xs, rfl⟩ : ∃ x xs, l = x :: xs := by
    cases l with
    | nil => exact absurd rfl h.1
    | cons x xs => exact ⟨x, xs, rfl⟩
  obtain ⟨y, hy⟩ : ∃ y, (x :: xs).getLast? = some y := ⟨_, List.getLast?_eq_getLast (List.cons_ne_nil x xs)⟩
  have hy2 := h.2.2 y (List.mem_of_getLast? hy)
  have hx2 := h.2.2 x List.mem_cons_self
  have e1 : ixD (tupI (x :: xs)) (.int (-1)) = some (.int y) := by rw [ixD_last, List.getLast?_map, hy]; rfl
  simp [f_are_channels, b_are_channels, asc_ints h.2.1, e1, hx2.1, hy2.2, gtD, geD, leD, negD]
theorem lc_true {α : Type} {enc : α → D} {xs : List α} {gi : Ev → Rs (List D)} {b : D → Ev → Option Ev} {g : Ev → Rs D} {vs : List Nat} {ρ ρ0 : Ev} (hgi : gi ρ = .ok (xs.map enc)) (hw : wipeE vs ρ = some ρ0) (h : ∀ x ∈ xs, lcBody b (cG true) g ρ0 (enc x) = .ok (some (.bool true))) :
    lcG gi b (cG true) g vs ρ = .ok (.l ((xs.map fun _ => true).map PyData.bool)) := by
  unfold lcG
  rw [hgi, Rs.bind_ok, hw]
  simp only
  rw [compL_all (enc := enc) (h := fun _ => PyData.bool true) h, Rs.bind_ok, List.map_map]
  rfl
theorem all_true {α : Type} (xs : List α) : (xs.map fun _ => true).all id = true := by simp
theorem e_lists {b : Bk} (h : Vb b) : f_are_lists [.tuple (b.ls.map tupI)] = .ok (.bool true) := by
  have hc : lcG (appG walkD (varG 0)) (nmB 1) (cG true) (callG 1 f_are_channels [] (consG (varG 1) nilG)) [1] [some (.dat (.tuple (b.ls.map tupI))), none] = .ok (.l ((b.ls.map fun _ => true).map PyData.bool)) := by
    refine lc_true (enc := tupI) rfl rfl fun l hl => ?_
    simp [lcBody, e_chan (h.l l hl)]
  have h1 := h.n1
  have h8 := h.n8
  simp only [f_are_lists, b_are_lists, fnD, startE_cons, startE_nil, List.replicate, outG, andG, chG, cG, linkG, lastG, appG, consG, varG, nilG, Rs.bind_ok, Rs.of_some, List.getElem?_cons_zero, lenD, leD, List.length_map]
  simp only [decide_eq_true (show (1 : Int) ≤ (b.ls.length : Int) by omega), decide_eq_true (show (b.ls.length : Int) ≤ 8 by omega), truD, Rs.bind_ok, Rs.of_some, if_true, frzG, hc, Rs.map_ok, O.dat, allD_map, all_true]
theorem e_clashes {b : Bk} (h : Vb b) : f_are_clashes [.int (b.ls.length : Int), .tuple (b.cl.map encC)] = .ok (.bool true) := by
  have h1 : lcG (appG walkD (varG 1)) (tupB 3 (consB (nmB 2) (consB (nmB 3) (consB (nmB 5) nilB)))) (cG true) (appG tupD (consG (varG 2) (consG (varG 3) nilG))) [2, 3, 5] [some (.dat (.int (b.ls.length : Int))), some (.dat (.tuple (b.cl.map encC))), none, none, none, none] = .ok (.l ((b.cl.map fun c => ((c.1 : Int), (c.2.1 : Int))).map fun p => .tuple [.int p.1, .int p.2])) := by
    unfold lcG
    simp only [appG, varG, List.getElem?_cons_zero, List.getElem?_cons_succ, Rs.bind_ok, Rs.of_some, walkD, wipeE, setE, List.set_cons_zero, List.set_cons_succ, Option.bind_some]
    rw [compL_all (enc := encC) (h := fun c => PyData.tuple [.int (c.1 : Int), .int (c.2.1 : Int)]) fun c _ => ?_, Rs.bind_ok, List.map_map]
    · rfl
    · have hb : ([PyData.int (c.1 : Int), PyData.int (c.2.1 : Int)] : List D).length ≤ sizeLine := big (by show 2 ≤ 5000; omega)
      simp [lcBody, encC, tupD_ok hb]
  have h2 : lcG (appG walkD (varG 1)) (tupB 3 (consB (nmB 2) (consB (nmB 3) (consB (nmB 4) nilB)))) (cG true) (andG (chG (cG (.int 0)) (linkG leD (varG 2) (linkG ltTD (varG 3) (lastG ltTD (varG 0))))) (callG 1 f_are_channels [] (consG (varG 4) nilG))) [2, 3, 4] [some (.dat (.int (b.ls.length : Int))), some (.dat (.tuple (b.cl.map encC))), none, none, none, none] = .ok (.l ((b.cl.map fun _ => true).map PyData.bool)) := by
    refine lc_true (enc := encC) rfl rfl fun c hc => ?_
    obtain ⟨c1, c2, c3⟩ := h.c c hc
    have d1 : decide ((c.1 : Int) < (c.2.1 : Int)) = true := decide_eq_true (by omega)
    have d2 : decide ((c.2.1 : Int) < (b.ls.length : Int)) = true := decide_eq_true (by omega)
    simp [lcBody, encC, e_chan c3, ltTD, c1, c2]
  have h3 := asc_pairs (ps := b.cl.map fun c => ((c.1 : Int), (c.2.1 : Int))) (List.pairwise_map.mpr (h.ca.imp fun {a b} x => by simp only; omega))
  unfold f_are_clashes b_are_clashes fnD
  simp [-List.map_map, h1, h2, h3, all_true]
end K01
/-! M5: books, stations, checked; faults. -/
namespace K01
open PySem PySem.Spec PyProof.Rows L2 DL BK

theorem e_sum {b : Bk} (h : Vb b) {s : Nat × Int × List Int} (hs : s ∈ b.su) : f_is_sum [.int (b.ls.length : Int), encS s] = .ok (.bool true) := by
  obtain ⟨h1, h2, h3, h4, h5, h6⟩ := h.s s hs
  have hc : ∀ ρ1 ρ2 ρ3 ρ4, lcG (appG walkD (varG 4)) (nmB 5) (cG true) (chG (cG (.int 0)) (linkG leD (varG 5) (lastG leD (cG (.int (999)))))) [5] [ρ1, ρ2, ρ3, ρ4, some (.dat (tupI s.2.2)), none] = .ok (.l ((s.2.2.map fun _ => true).map PyData.bool)) := fun ρ1 ρ2 ρ3 ρ4 => by
    refine lc_true (enc := PyData.int) rfl rfl fun g hg => ?_
    simp [lcBody, (h6 g hg).1, (h6 g hg).2]
  obtain ⟨hl, e5⟩ := List.getElem?_eq_some_iff.mp h5
  unfold f_is_sum b_is_sum fnD
  simp [-List.map_map, encS, hc, h1, h2, h3, h4, e5, ltTD, all_true]
theorem e_book {b : Bk} (h : Vb b) : f_is_book [encB b] = .ok (.bool true) := by
  have h1 : ∀ ρ0 ρ1 ρ2 ρ4, lcG (appG walkD (varG 3)) (tupB 3 (consB (nmB 5) (consB (nmB 6) (consB (nmB 6) nilB)))) (cG true) (varG 5) [5, 6] [ρ0, ρ1, ρ2, some (.dat (.tuple (b.su.map encS))), ρ4, none, none] = .ok (.l ((b.su.map fun s => (s.1 : Int)).map PyData.int)) := fun ρ0 ρ1 ρ2 ρ4 => by
    unfold lcG
    simp only [appG, varG, List.getElem?_cons_zero, List.getElem?_cons_succ, Rs.bind_ok, Rs.of_some, walkD, wipeE, setE, List.set_cons_zero, List.set_cons_succ, Option.bind_some]
    rw [compL_all (enc := encS) (h := fun s => PyData.int (s.1 : Int)) fun s _ => ?_, Rs.bind_ok, List.map_map]
    · rfl
    · simp [lcBody, encS]
  have h2 : ∀ ρ0 ρ2 ρ5 ρ6, lcG (appG walkD (varG 3)) (nmB 4) (cG true) (callG 2 f_is_sum [] (consG (appG lenD (consG (varG 1) nilG)) (consG (varG 4) nilG))) [4] [ρ0, some (.dat (.tuple (b.ls.map tupI))), ρ2, some (.dat (.tuple (b.su.map encS))), none, ρ5, ρ6] = .ok (.l ((b.su.map fun _ => true).map PyData.bool)) := fun ρ0 ρ2 ρ5 ρ6 => by
    refine lc_true (enc := encS) rfl rfl fun s hs => ?_
    simp [lcBody, e_sum h hs]
  have h3 : f_ascends [.list ((b.su.map fun s => (s.1 : Int)).map PyData.int)] = .ok (.bool true) := asc_listI (List.pairwise_map.mpr (h.sa.imp fun {a b} x => by omega))
  unfold f_is_book b_is_book fnD
  simp [-List.map_map, encB, e_lists h, e_clashes h, h1, h2, h3, all_true]
theorem e_check_book {b : Bk} (h : Vb b) : f_check_book [encB b] = .ok .none := by
  unfold f_check_book b_check_book fnD
  simp [e_book h]
/-- a set of stations -/
def Vs (b : Bk) (sts : List Nat) : Prop := sts.Pairwise (· < ·) ∧ ∀ s ∈ sts, s < b.ls.length
theorem Vs.stn {b : Bk} {sts : List Nat} (h : Vs b sts) : Stn sts b.ls.length := ⟨h.1.imp fun {a b} x => Nat.ne_of_lt x, h.2⟩
theorem e_are_stations {b : Bk} {sts : List Nat} (h : Vs b sts) : f_are_stations [encB b, tupN sts] = .ok (.bool true) := by
  have h1 : lcG (appG walkD (varG 1)) (nmB 2) (cG true) (chG (cG (.int 0)) (linkG leD (varG 2) (lastG ltTD (appG lenD (consG (opG ixD (varG 0) (cG (.int 0))) nilG))))) [2] [some (.dat (encB b)), some (.dat (tupN sts)), none] = .ok (.l ((sts.map fun _ => true).map PyData.bool)) := by
    refine lc_true (enc := nI) (by simp only [appG, varG, List.getElem?_cons_zero, List.getElem?_cons_succ, Rs.bind_ok, Rs.of_some, walkD, List.map_map]; rfl) rfl fun s hs => ?_
    have := h.2 s hs
    simp [lcBody, nI, encB, ltTD, this]
  have h2 : f_ascends [tupN sts] = .ok (.bool true) := asc_ints (List.pairwise_map.mpr (h.1.imp fun {a b} x => by omega))
  unfold f_are_stations b_are_stations fnD
  simp [-List.map_map, h1, h2, all_true]
theorem e_check_stations {b : Bk} {sts : List Nat} (h : Vb b) (hs : Vs b sts) : f_check_stations [encB b, tupN sts] = .ok .none := by
  unfold f_check_stations b_check_stations fnD
  simp [e_check_book h, e_are_stations hs]
/-! ### plans -/
/-- a plan of the book: a channel from -1 to 7 for each station -/
def Vp (b : Bk) (p : List Int) : Prop := p.length = b.ls.length ∧ ∀ c ∈ p, -1 ≤ c ∧ c ≤ 7
theorem e_fits {b : Bk} {p : List Int} (h : Vp b p) : f_fits_book [encB b, tupI p] = .ok (.bool true) := by
  have h1 : lcG (appG walkD (varG 1)) (nmB 2) (cG true) (chG (cG (.int (-1))) (linkG leD (varG 2) (lastG leD (cG (.int (7)))))) [2] [some (.dat (encB b)), some (.dat (tupI p)), none] = .ok (.l ((p.map fun _ => true).map PyData.bool)) := by
    refine lc_true (enc := PyData.int) rfl rfl fun c hc => ?_
    simp [lcBody, (h.2 c hc).1, (h.2 c hc).2]
  unfold f_fits_book b_fits_book fnD
  simp [-List.map_map, encB, h1, h.1, all_true] at h1 ⊢
theorem e_check_plan {b : Bk} {p : List Int} (h : Vb b) (hp : Vp b p) : f_check_plan [encB b, tupI p] = .ok .none := by
  unfold f_check_plan b_check_plan f_is_plan b_is_plan fnD
  simp [e_check_book h, e_fits hp]
end K01
/-! M6: faults. -/
namespace K01
open PySem PySem.Spec PyProof.Rows L2 DL BK

theorem fm_cg {α β : Type} {f g : α → Option β} : ∀ {l : List α}, (∀ a ∈ l, f a = g a) → l.filterMap f = l.filterMap g
  | [], _ => rfl
  | a :: l, h => by
    rw [List.filterMap_cons, List.filterMap_cons, h a List.mem_cons_self, fm_cg fun x hx => h x (List.mem_cons_of_mem _ hx)]
theorem chD {p : List Int} {i : Nat} (h : i < p.length) : (p.map PyData.int)[i]? = some (.int (ch p i)) := by
  rw [List.getElem?_map, List.getElem?_eq_getElem h, ch_lt h]
  rfl
theorem e_clash {p : List Int} {c : Nat × Nat × List Int} (h1 : c.1 < p.length) (h2 : c.2.1 < p.length) : f_clash_stands [tupI p, encC c] = .ok (.bool (!decide (okC p c))) := by
  have d1 := chD h1
  have d2 := chD h2
  unfold f_clash_stands b_clash_stands fnD okC absI
  by_cases e1 : ch p c.1 = -1
  · simp [-List.getElem?_map, encC, d1, d2, e1]
  · by_cases e2 : ch p c.2.1 = -1
    · simp [-List.getElem?_map, encC, d1, d2, e1, e2]
    · simp [-List.getElem?_map, encC, d1, d2, e1, e2]
theorem e_above {p : List Int} {s : Nat × Int × List Int} (h1 : s.1 < p.length) : f_is_above [tupI p, encS s] = .ok (.bool (!decide (okS p s))) := by
  have d1 := chD h1
  have hl : ∀ ρ1 ρ3, lcG (appG zipD (consG (varG 4) (consG (varG 0) nilG))) (tupB 2 (consB (nmB 5) (consB (nmB 6) nilB))) (boolT (opG eqD (varG 6) (opG ixD (varG 0) (varG 2)))) (varG 5) [5, 6] [some (.dat (tupI p)), ρ1, some (.dat (.int (s.1 : Int))), ρ3, some (.dat (tupI s.2.2)), none, none]
      = .ok (.l (((s.2.2.zip p).filterMap fun x => if x.2 = ch p s.1 then some x.1 else none).map PyData.int)) := fun ρ1 ρ3 => by
    unfold lcG
    simp only [appG, consG, nilG, varG, List.getElem?_cons_zero, List.getElem?_cons_succ, Rs.bind_ok, Rs.of_some, zipD, wipeE, setE, List.set_cons_zero, List.set_cons_succ, Option.bind_some]
    rw [zipL_enc, compL_map (enc := fun x : Int × Int => PyData.tuple [.int x.1, .int x.2]) (h := fun x => if x.2 = ch p s.1 then some (.int x.1) else none) fun x _ => ?_, Rs.bind_ok, List.map_filterMap]
    · congr 2
      refine fm_cg fun x _ => ?_
      split <;> rfl
    · by_cases e : x.2 = ch p s.1
      · simp [-List.getElem?_map, lcBody, d1, e]
      · simp [-List.getElem?_map, lcBody, d1, e]
  unfold f_is_above b_is_above fnD okS BK.load
  by_cases e1 : ch p s.1 = -1
  · simp [-List.getElem?_map, encS, d1, e1]
  · simp [-List.getElem?_map, -List.map_map, -List.map_filterMap, encS, d1, e1, hl]
    by_cases e2 : s.2.1 < ((s.2.2.zip p).filterMap fun x => if x.2 = ch p s.1 then some x.1 else none).sum
    · simp [e2, Int.not_le.mpr e2]
    · simp [e2, Int.not_lt.mp e2]
/-- the loop, by the turn -/
theorem forS_ix {α : Type} {enc : α → D} {b : D → Ev → Option Ev} {body : Ev → Out} {St : Type} {R : Nat → St → Ev → Prop} {step : St → α → St} : ∀ {xs : List α} {k : Nat} {s : St} {ρ : Ev}, R k s ρ →
    (∀ i s ρ x, xs[i]? = some x → R (k + i) s ρ → ∃ ρ1 ρ2, b (enc x) ρ = some ρ1 ∧ (body ρ1 = .nx ρ2 ∨ body ρ1 = .ct ρ2) ∧ R (k + i + 1) (step s x) ρ2) → ∃ ρ', forS b body [] (xs.map enc) ρ = .nx ρ' ∧ R (k + xs.length) (xs.foldl step s) ρ'
  | [], k, s, ρ, h, _ => ⟨ρ, rfl, h⟩
  | x :: xs, k, s, ρ, h, e => by
    obtain ⟨ρ1, ρ2, h1, h2, h3⟩ := e 0 s ρ x rfl h
    obtain ⟨ρ', h5, h6⟩ := forS_ix (enc := enc) (b := b) (body := body) (R := R) (step := step) (xs := xs) (k := k + 1) h3 fun i s ρ y hy hr => by
      obtain ⟨a1, a2, a3, a4, a5⟩ := e (i + 1) s ρ y (by simpa using hy) (by rw [show k + (i + 1) = k + 1 + i by omega]; exact hr)
      exact ⟨a1, a2, a3, a4, by rw [show k + 1 + i + 1 = k + (i + 1) + 1 by omega]; exact a5⟩
    refine ⟨ρ', ?_, by rw [List.length_cons, show k + (xs.length + 1) = k + 1 + xs.length by omega]; exact h6⟩
    rw [List.map_cons]
    unfold forS
    rw [h1]
    show (match body ρ1 with | .nx ρ2 => optO (wipeE [] ρ2) (forS b body [] (xs.map enc)) | .ct ρ2 => optO (wipeE [] ρ2) (forS b body [] (xs.map enc)) | .bk ρ2 => .nx ρ2 | o => o) = _
    rcases h2 with h2 | h2 <;> rw [h2] <;> exact h5
def psh {β : Type} (fs : List β) : Option β → List β
  | some y => fs ++ [y]
  | none => fs
theorem fold_filter {α β : Type} (c : α → Option β) : ∀ (xs : List α) (s : List β), xs.foldl (fun fs x => psh fs (c x)) s = s ++ xs.filterMap c
  | [], s => by simp
  | x :: xs, s => by
    rw [List.foldl_cons, List.filterMap_cons]
    cases c x with
    | none => exact fold_filter c xs s
    | some y =>
      show List.foldl _ (s ++ [y]) xs = _
      rw [fold_filter c xs (s ++ [y]), List.append_assoc]
      rfl
/-- how faults are told -/
def fS (s : Str) (ns : List Nat) : D := .tuple (.str s :: ns.map nI)
theorem cl_str {s : Str} (h : PyData.strOk s = true) : (PyData.str s).canLay0 = true := by unfold PyData.canLay0; exact h
theorem fS_cl {s : Str} (h : PyData.strOk s = true) (ns : List Nat) : (fS s ns).canLay0 = true := by
  unfold fS
  rw [cl_tup]
  unfold PyData.canLayAll0
  rw [cl_str h, clA_map (f := nI) (fun n => cl_int _) ns]
  rfl
theorem fS_dp {s : Str} (ns : List Nat) : (fS s ns).depth ≤ 1 := by
  unfold fS
  rw [dp_tup]
  unfold PyData.depthAll
  have h1 : (PyData.str s).depth = 0 := by unfold PyData.depth; rfl
  have := dpA_map (f := nI) (k := 0) (fun n => by unfold nI; rw [dp_int]; omega) ns
  omega
/-- lists of such -/
def Fl (fs : List D) : Prop := ∀ d ∈ fs, d.canLay0 = true ∧ d.depth ≤ 1
theorem Fl.sh : ∀ {fs : List D}, Fl fs → PyData.canLayAll0 fs = true ∧ PyData.depthAll fs ≤ 1
  | [], _ => ⟨by unfold PyData.canLayAll0; rfl, by unfold PyData.depthAll; omega⟩
  | d :: fs, h => by
    obtain ⟨h1, h2⟩ := Fl.sh (fs := fs) fun x hx => h x (List.mem_cons_of_mem _ hx)
    obtain ⟨h3, h4⟩ := h d List.mem_cons_self
    unfold PyData.canLayAll0 PyData.depthAll
    rw [h3, h1]
    exact ⟨rfl, by omega⟩
theorem Fl.shaped {fs : List D} (h : Fl fs) : SeqAt.shaped (.list fs) = true := sh_of (k := 2) (by rw [cl_lst]; exact h.sh.1) (by rw [dp_lst]; have := h.sh.2; omega) (by decide)
theorem Fl.app {fs gs : List D} (h : Fl fs) (g : Fl gs) : Fl (fs ++ gs) := fun d hd => (List.mem_append.mp hd).elim (h d) (g d)
theorem Fl.fm {α : Type} {xs : List α} {c : α → Option D} (h : ∀ x d, c x = some d → d.canLay0 = true ∧ d.depth ≤ 1) : Fl (xs.filterMap c) := fun d hd => by
  obtain ⟨x, _, e⟩ := List.mem_filterMap.mp hd
  exact h x d e
/-- the faults of the lists -/
def fA (b : Bk) (p : List Int) (i : Nat) : Option D := if ch p i ≠ -1 ∧ ch p i ∉ lst b i then some (fS "list" [i]) else none
def fB (p : List Int) (c : Nat × Nat × List Int) : Option D := if ¬ okC p c then some (fS "clash" [c.1, c.2.1]) else none
def fC (p : List Int) (s : Nat × Int × List Int) : Option D := if ¬ okS p s then some (fS "sum" [s.1]) else none
def fl (b : Bk) (p : List Int) : List D := (List.range p.length).filterMap (fA b p) ++ b.cl.filterMap (fB p) ++ b.su.filterMap (fC p)
theorem fm_nil {α β : Type} {c : α → Option β} {xs : List α} : xs.filterMap c = [] ↔ ∀ x ∈ xs, c x = none := List.filterMap_eq_nil_iff
theorem fl_nil {b : Bk} {p : List Int} : (fl b p).isEmpty = decide (right b p) := by
  have e : fl b p = [] ↔ right b p := by
    unfold fl right okL
    rw [List.append_eq_nil_iff, List.append_eq_nil_iff, fm_nil, fm_nil, fm_nil, and_assoc]
    refine and_congr ⟨fun h i hi hn => ?_, fun h i hi => ?_⟩ (and_congr ⟨fun h c hc => ?_, fun h c hc => ?_⟩ ⟨fun h c hc => ?_, fun h c hc => ?_⟩)
    · have := h i (List.mem_range.mpr hi)
      unfold fA at this
      split at this
      · cases this
      · rename_i h2
        exact Classical.byContradiction fun z => h2 ⟨hn, z⟩
    · unfold fA
      rw [if_neg]
      rintro ⟨h1, h2⟩
      exact h2 (h i (List.mem_range.mp hi) h1)
    · have := h c hc
      unfold fB at this
      split at this
      · cases this
      · rename_i h2
        exact Classical.not_not.mp h2
    · unfold fB
      rw [if_neg (Classical.not_not.mpr (h c hc))]
    · have := h c hc
      unfold fC at this
      split at this
      · cases this
      · rename_i h2
        exact Classical.not_not.mp h2
    · unfold fC
      rw [if_neg (Classical.not_not.mpr (h c hc))]
  by_cases h : right b p
  · rw [e.mpr h, decide_eq_true h]
    rfl
  · rw [decide_eq_false h]
    cases q : fl b p with
    | nil => exact absurd (e.mp q) h
    | cons _ _ => rfl
theorem fl_sh (b : Bk) (p : List Int) : SeqAt.shaped (.list (fl b p)) = true := by
  refine Fl.shaped (Fl.app (Fl.app (Fl.fm fun x d h => ?_) (Fl.fm fun x d h => ?_)) (Fl.fm fun x d h => ?_))
  · unfold fA at h
    split at h
    · cases h; exact ⟨fS_cl (by decide +kernel) _, fS_dp _⟩
    · cases h
  · unfold fB at h
    split at h
    · cases h; exact ⟨fS_cl (by decide +kernel) _, fS_dp _⟩
    · cases h
  · unfold fC at h
    split at h
    · cases h; exact ⟨fS_cl (by decide +kernel) _, fS_dp _⟩
    · cases h
end K01
/-! M7: faults_of, faults, is_right, silenced. -/
namespace K01
open PySem PySem.Spec PyProof.Rows L2 DL BK

theorem Vb.cl_len {b : Bk} (h : Vb b) : b.cl.length ≤ 64 := by
  have := asc_len (n := 64) (k := 0) (l := b.cl.map fun c => ((c.1 * 8 + c.2.1 : Nat) : Int)) (List.pairwise_map.mpr (h.ca.imp_of_mem fun {a d} ha hd x => by
    have h1 := h.c a ha
    have h2 := h.c d hd
    have := h.n8
    omega)) (fun c hc => by
    obtain ⟨d, hd, rfl⟩ := List.mem_map.mp hc
    have := h.c d hd
    have := h.n8
    omega) (by omega)
  rw [List.length_map] at this
  omega
theorem Vb.su_len {b : Bk} (h : Vb b) : b.su.length ≤ 8 := by
  have := asc_len (n := 8) (k := 0) (l := b.su.map fun c => ((c.1 : Nat) : Int)) (List.pairwise_map.mpr (h.sa.imp fun {a b} x => by omega)) (fun c hc => by
    obtain ⟨d, hd, rfl⟩ := List.mem_map.mp hc
    have := (h.s d hd).1
    have := h.n8
    omega) (by omega)
  rw [List.length_map] at this
  omega
theorem enum_enc (p : List Int) : enumL (p.map PyData.int) = (List.range p.length).map fun (i : Nat) => .tuple [.int (i : Int), .int (ch p i)] := by
  apply List.ext_getElem?
  intro i
  by_cases hi : i < p.length
  · rw [enumL_get (chD hi), List.getElem?_map, List.getElem?_range hi]
    rfl
  · rw [List.getElem?_eq_none (by rw [enumL_len, List.length_map]; omega), List.getElem?_eq_none (by rw [List.length_map, List.length_range]; omega)]
theorem e_faults_of {b : Bk} {p : List Int} (h : Vb b) (hp : p.length = b.ls.length) : f_faults_of [encB b, tupI p] = .ok (.list (fl b p)) := by
  have n8 := h.n8
  have hB : ∀ ρ2 ρ3 ρ5 ρ6 ρ7 ρ9, lcG (appG walkD (varG 4)) (nmB 8) (truT (callG 2 f_clash_stands [] (consG (varG 1) (consG (varG 8) nilG)))) (appG tupD (consG (cG (.str "clash")) (consG (opG ixD (varG 8) (cG (.int 0))) (consG (opG ixD (varG 8) (cG (.int 1))) nilG)))) [8] [some (.dat (encB b)), some (.dat (tupI p)), ρ2, ρ3, some (.dat (.tuple (b.cl.map encC))), ρ5, ρ6, ρ7, none, ρ9] = .ok (.l (b.cl.filterMap (fB p))) := fun ρ2 ρ3 ρ5 ρ6 ρ7 ρ9 => by
    unfold lcG
    simp only [appG, varG, List.getElem?_cons_zero, List.getElem?_cons_succ, Rs.bind_ok, Rs.of_some, walkD, wipeE, setE, List.set_cons_zero, List.set_cons_succ, Option.bind_some]
    rw [compL_map (enc := encC) (h := fB p) fun c hc => ?_, Rs.bind_ok]
    obtain ⟨c1, c2, _⟩ := h.c c hc
    have hb : ([.str "clash", PyData.int (c.1 : Int), PyData.int (c.2.1 : Int)] : List D).length ≤ sizeLine := big (by show 3 ≤ 5000; omega)
    have e := e_clash (p := p) (c := c) (by omega) (by omega)
    have i1 : ixD (encC c) (.int 1) = some (.int (c.2.1 : Int)) := rfl
    have i0 : ixD (encC c) (.int 0) = some (.int (c.1 : Int)) := rfl
    unfold fB
    by_cases ho : okC p c
    · simp [lcBody, e, ho]
    · simp [lcBody, e, ho, i0, i1, tupD_ok hb, fS, nI]
  have hC : ∀ ρ2 ρ3 ρ4 ρ6 ρ7 ρ8, lcG (appG walkD (varG 5)) (nmB 9) (truT (callG 2 f_is_above [] (consG (varG 1) (consG (varG 9) nilG)))) (appG tupD (consG (cG (.str "sum")) (consG (opG ixD (varG 9) (cG (.int 0))) nilG))) [9] [some (.dat (encB b)), some (.dat (tupI p)), ρ2, ρ3, ρ4, some (.dat (.tuple (b.su.map encS))), ρ6, ρ7, ρ8, none] = .ok (.l (b.su.filterMap (fC p))) := fun ρ2 ρ3 ρ4 ρ6 ρ7 ρ8 => by
    unfold lcG
    simp only [appG, varG, List.getElem?_cons_zero, List.getElem?_cons_succ, Rs.bind_ok, Rs.of_some, walkD, wipeE, setE, List.set_cons_zero, List.set_cons_succ, Option.bind_some]
    rw [compL_map (enc := encS) (h := fC p) fun s hs => ?_, Rs.bind_ok]
    have h1 := (h.s s hs).1
    have hb : ([.str "sum", PyData.int (s.1 : Int)] : List D).length ≤ sizeLine := big (by show 2 ≤ 5000; omega)
    have e := e_above (p := p) (s := s) (by omega)
    have i0 : ixD (encS s) (.int 0) = some (.int (s.1 : Int)) := rfl
    unfold fC
    by_cases ho : okS p s
    · simp [lcBody, e, ho]
    · simp [lcBody, e, ho, i0, tupD_ok hb, fS, nI]
  -- the loop over the stations
  let R : Nat → List D → Ev → Prop := fun k fs ρ => fs.length ≤ k ∧ ∃ x y : Option D, ρ = [some (.dat (encB b)), some (.dat (tupI p)), some (.own false (.l fs)), some (.dat (.tuple (b.ls.map tupI))), some (.dat (.tuple (b.cl.map encC))), some (.dat (.tuple (b.su.map encS))), x.map E.dat, y.map E.dat, none, none]
  have loop := forS_ix (enc := fun i : Nat => PyData.tuple [.int (i : Int), .int (ch p i)]) (b := tupB 2 (consB (nmB 6) (consB (nmB 7) nilB)))
    (body := ifS (andT (boolT (opG neD (varG 7) (cG (.int (-1))))) (boolT (opG ninTD (varG 7) (opG ixD (varG 3) (varG 6))))) (outM (mthM "list" 2 appendO (consM (lift (appG tupD (consG (cG (.str "list")) (consG (varG 6) nilG)))) nilM)) fun _ ρ => .nx ρ) (fun ρ => .nx ρ))
    (R := R) (step := fun fs i => psh fs (fA b p i)) (xs := List.range p.length) (k := 0) (s := [])
    (ρ := [some (.dat (encB b)), some (.dat (tupI p)), some (.own false (.l [])), some (.dat (.tuple (b.ls.map tupI))), some (.dat (.tuple (b.cl.map encC))), some (.dat (.tuple (b.su.map encS))), none, none, none, none]) ⟨Nat.le_refl _, none, none, rfl⟩ fun i fs ρ x hx ⟨hk, x6, x7, hρ⟩ => by
      obtain ⟨hil, hx⟩ := List.getElem?_eq_some_iff.mp hx
      rw [List.getElem_range] at hx
      subst hx
      subst hρ
      have hi : i < p.length := by simpa using hil
      have hb : ([.str "list", PyData.int (i : Int)] : List D).length ≤ sizeLine := big (by show 2 ≤ 5000; omega)
      have il : (b.ls.map tupI)[i]? = some (tupI (lst b i)) := by
        rw [List.getElem?_map]
        unfold lst
        rw [List.getD_eq_getElem?_getD, List.getElem?_eq_getElem (show i < b.ls.length by omega)]
        rfl
      have hfs : fs.length < sizeLine := by
        rw [sizeLine_eq]
        omega
      refine ⟨[some (.dat (encB b)), some (.dat (tupI p)), some (.own false (.l fs)), some (.dat (.tuple (b.ls.map tupI))), some (.dat (.tuple (b.cl.map encC))), some (.dat (.tuple (b.su.map encS))), some (.dat (.int (i : Int))), some (.dat (.int (ch p i))), none, none],
        [some (.dat (encB b)), some (.dat (tupI p)), some (.own false (.l (psh fs (fA b p i)))), some (.dat (.tuple (b.ls.map tupI))), some (.dat (.tuple (b.cl.map encC))), some (.dat (.tuple (b.su.map encS))), some (.dat (.int (i : Int))), some (.dat (.int (ch p i))), none, none], by cases x6 <;> cases x7 <;> rfl, .inl ?_, ?_, some (.int (i : Int)), some (.int (ch p i)), rfl⟩
      · unfold fA
        by_cases h1 : ch p i = -1
        · simp [-List.getElem?_map, h1, psh]
        · by_cases h2 : ch p i ∈ lst b i
          · simp [-List.getElem?_map, h1, h2, il, psh]
          · simp [-List.getElem?_map, h1, h2, il, tupD_ok hb, hfs, fS, nI, psh]
      · cases fA b p i with
        | none => exact Nat.le_succ_of_le hk
        | some y =>
          show (fs ++ [y]).length ≤ _
          rw [List.length_append, List.length_singleton]
          omega
  obtain ⟨ρ', hl, hlen, x6, x7, hρ⟩ := loop
  rw [fold_filter, List.nil_append] at hρ hlen
  rw [List.length_range] at hlen
  subst hρ
  have l1 : ((List.range p.length).filterMap (fA b p)).length ≤ 8 := by omega
  have l2 : (b.cl.filterMap (fB p)).length ≤ 64 := Nat.le_trans (List.length_filterMap_le _ _) h.cl_len
  have l3 : (b.su.filterMap (fC p)).length ≤ 8 := Nat.le_trans (List.length_filterMap_le _ _) h.su_len
  have z1 : ((List.range p.length).filterMap (fA b p)).length + (b.cl.filterMap (fB p)).length ≤ sizeLine := by rw [sizeLine_eq]; omega
  have z2 : ((List.range p.length).filterMap (fA b p) ++ b.cl.filterMap (fB p)).length + (b.su.filterMap (fC p)).length ≤ sizeLine := by rw [sizeLine_eq, List.length_append]; omega
  have z0 : lstO ([] : List D) = some (.l []) := lstO_ok (Nat.zero_le _)
  have en : enumD [tupI p] = some ((List.range p.length).map fun i => .tuple [.int (i : Int), .int (ch p i)]) := by
    show some (enumL (p.map PyData.int)) = _
    rw [enum_enc]
  have w : ∀ (s : D), (do let x := encB b; pure x) = (pure (encB b) : Option D) := fun _ => rfl
  unfold f_faults_of b_faults_of fnD
  simp only [startE_cons, startE_nil, List.replicate, seqS, outG, varG, List.getElem?_cons_zero, List.getElem?_cons_succ]
  rw [show encB b = .tuple [.tuple (b.ls.map tupI), .tuple (b.cl.map encC), .tuple (b.su.map encS)] from rfl] at hl hB hC ⊢
  simp [-List.map_map, -List.getElem?_map, z0, en, hl, hB, hC, z1]
  have z3 : ((List.range p.length).filterMap (fA b p)).length + (b.cl.filterMap (fB p)).length + (b.su.filterMap (fC p)).length ≤ sizeLine := by rw [sizeLine_eq]; omega
  simp [z3, fl]
theorem e_faults {b : Bk} {p : List Int} (h : Vb b) (hp : Vp b p) : f_faults [encB b, tupI p] = .ok (.list (fl b p)) := by
  unfold f_faults b_faults fnD
  simp [e_check_plan h hp, e_faults_of h hp.1]
theorem e_is_right {b : Bk} {p : List Int} (h : Vb b) (hp : Vp b p) : f_is_right [encB b, tupI p] = .ok (.bool (decide (right b p))) := by
  have z0 : lstO ([] : List D) = some (.l []) := lstO_ok (Nat.zero_le _)
  unfold f_is_right b_is_right fnD
  simp [e_faults h hp, z0, eqD_nil (fl_sh b p), fl_nil]
theorem e_silenced {b : Bk} {p : List Int} {s : Nat} (h : Vb b) (hp : Vp b p) (hs : s < b.ls.length) : f_silenced [encB b, tupI p, .int (s : Int)] = .ok (tupI (p.set s (-1))) := by
  have n8 := h.n8
  have hl := hp.1
  unfold f_silenced b_silenced fnD
  simp [e_check_plan h hp, ltTD, hl, hs, e_put (p := p) (s := s) (c := -1) (by omega) (by omega)]
end K01
/-! M8: first_packing, band_of. -/
namespace K01
open PySem PySem.Spec PyProof.Rows L2 DL BK

/-- a loop that may return -/
theorem forS_find {α : Type} {enc : α → D} {b : D → Ev → Option Ev} {body : Ev → Out} {R : Ev → Prop} {f : α → Option D} : ∀ {xs : List α} {ρ : Ev}, R ρ →
    (∀ x ∈ xs, ∀ ρ, R ρ → ∃ ρ1 ρ2, b (enc x) ρ = some ρ1 ∧ ((∃ d, f x = some d ∧ body ρ1 = .rt d ρ2) ∨ (f x = none ∧ body ρ1 = .nx ρ2 ∧ R ρ2))) →
    ∃ ρ', (∃ d, xs.findSome? f = some d ∧ forS b body [] (xs.map enc) ρ = .rt d ρ') ∨ (xs.findSome? f = none ∧ forS b body [] (xs.map enc) ρ = .nx ρ' ∧ R ρ')
  | [], ρ, h, _ => ⟨ρ, .inr ⟨rfl, rfl, h⟩⟩
  | x :: xs, ρ, h, e => by
    obtain ⟨ρ1, ρ2, h1, h2⟩ := e x List.mem_cons_self ρ h
    rw [List.map_cons, List.findSome?_cons]
    have u : forS b body [] (enc x :: xs.map enc) ρ = (match body ρ1 with | .nx ρ2 => optO (wipeE [] ρ2) (forS b body [] (xs.map enc)) | .ct ρ2 => optO (wipeE [] ρ2) (forS b body [] (xs.map enc)) | .bk ρ2 => .nx ρ2 | o => o) := by
      conv => lhs; unfold forS
      rw [h1]
      rfl
    rcases h2 with ⟨d, h3, h4⟩ | ⟨h3, h4, h5⟩
    · refine ⟨ρ2, .inl ⟨d, by rw [h3], ?_⟩⟩
      rw [u, h4]
    · obtain ⟨ρ', h6⟩ := forS_find (enc := enc) (b := b) (body := body) (R := R) (f := f) (xs := xs) h5 fun y hy => e y (List.mem_cons_of_mem _ hy)
      refine ⟨ρ', ?_⟩
      rw [u, h4, h3]
      exact h6
theorem findSome_map {α β γ : Type} (f : α → Option β) (g : β → γ) : ∀ l : List α, l.findSome? (fun c => (f c).map g) = (l.findSome? f).map g
  | [] => rfl
  | c :: l => by
    rw [List.findSome?_cons, List.findSome?_cons]
    cases f c with
    | none => exact findSome_map f g l
    | some r => rfl
theorem mul_sil {m : Nat} (h1 : 1 ≤ m) (h2 : m ≤ 8) : mulTD (.tuple [.int (-1)]) (.int (m : Int)) = some (tupI (sil m)) := by
  unfold mulTD
  by_cases e : (m : Int) = 1
  · have : m = 1 := by omega
    subst this
    rfl
  · simp only
    rw [if_neg e, if_pos ⟨by simp, by omega, by omega, by simp⟩]
    congr 2
    have e2 : (m : Int).toNat = m := by omega
    rw [e2]
    unfold sil
    rw [List.map_replicate]
    clear e e2 h1 h2
    induction m with
    | zero => rfl
    | succ n ih => rw [List.replicate_succ, List.flatten_cons, ih, List.replicate_succ]; rfl
def optP : Option (List Int) → D
  | some q => tupI q
  | none => .none
theorem truD_empty {xs : List D} : truD (.tuple xs) = some (!xs.isEmpty) := rfl
theorem e_fp {b : Bk} (h : Vb b) {A : List Int} : ∀ {n : Nat} {sts : List Nat} {p : List Int}, sts.length < n → (∀ s ∈ sts, s < b.ls.length) → p.length = b.ls.length → f_first_packing n [encB b, tupN sts, .list (A.map PyData.int), tupI p] = .ok (optP (fp b A sts p))
  | 0, _, _, hn, _, _ => by omega
  | n + 1, sts, p, hn, hs, hp => by
    have n8 := h.n8
    show fnD 7 (b_first_packing (f_first_packing n)) _ = _
    cases sts with
    | nil =>
      unfold b_first_packing fnD
      simp [isD, fp, optP]
    | cons s ss =>
      have hs1 := hs s List.mem_cons_self
      have il : (b.ls.map tupI)[s]? = some (tupI (lst b s)) := by
        rw [List.getElem?_map]
        unfold lst
        rw [List.getD_eq_getElem?_getD, List.getElem?_eq_getElem hs1]
        rfl
      have i0 : ixD (encB b) (.int 0) = some (.tuple (b.ls.map tupI)) := rfl
      have i1 : ixD (tupN (s :: ss)) (.int 0) = some (.int (s : Int)) := (ixD_tup0 _).trans rfl
      have i2 : sliceD (tupN (s :: ss)) (some 1) none = some (tupN ss) := by
        show some (PyData.tuple (cutL _ _ _)) = _
        rw [cutL_1]
        rfl
      -- the loop over the channels
      have loop := forS_find (enc := PyData.int) (b := nmB 4)
        (body := seqS (outG (callG 3 f_put [] (consG (varG 3) (consG (opG ixD (varG 1) (cG (.int 0))) (consG (varG 4) nilG)))) (setS 5))
          (ifS (andT (boolT (opG inTD (varG 4) (varG 2))) (notT (truT (callG 2 f_faults_of [] (consG (varG 0) (consG (varG 5) nilG)))))) (seqS (outG (callG 4 (f_first_packing n) [] (consG (varG 0) (consG (sliceG (varG 1) (partG (cG (.int 1))) (cG none)) (consG (varG 2) (consG (varG 5) nilG))))) (setS 6))
          (ifS (boolT (opG isntD (varG 6) (cG .none))) (outG (varG 6) fun d ρ => .rt d ρ) (fun ρ => .nx ρ))) (fun ρ => .nx ρ)))
        (R := fun ρ => ∃ x y z : Option D, ρ = [some (.dat (encB b)), some (.dat (tupN (s :: ss))), some (.dat (.list (A.map PyData.int))), some (.dat (tupI p)), x.map E.dat, y.map E.dat, z.map E.dat])
        (f := fun c => (if c ∈ A ∧ right b (p.set s c) then fp b A ss (p.set s c) else none).map tupI) (xs := lst b s) (ρ := [some (.dat (encB b)), some (.dat (tupN (s :: ss))), some (.dat (.list (A.map PyData.int))), some (.dat (tupI p)), none, none, none]) ⟨none, none, none, rfl⟩ fun c hc ρ ⟨x, y, z, hρ⟩ => by
          subst hρ
          have pl : (p.set s c).length = b.ls.length := by rw [List.length_set]; exact hp
          have ih := e_fp h (A := A) (n := n) (sts := ss) (p := p.set s c) (by simpa using hn) (fun t ht => hs t (List.mem_cons_of_mem _ ht)) pl
          have e1 := e_put (p := p) (s := s) (c := c) (by omega) (by omega)
          have e2 := e_faults_of h pl
          have e3 := inTD_list c A
          have e4 : truD (.list (fl b (p.set s c))) = some (!decide (right b (p.set s c))) := by
            show some (!(fl b (p.set s c)).isEmpty) = _
            rw [fl_nil]
          refine ⟨[some (.dat (encB b)), some (.dat (tupN (s :: ss))), some (.dat (.list (A.map PyData.int))), some (.dat (tupI p)), some (.dat (.int c)), y.map E.dat, z.map E.dat], (if c ∈ A ∧ right b (p.set s c) then [some (.dat (encB b)), some (.dat (tupN (s :: ss))), some (.dat (.list (A.map PyData.int))), some (.dat (tupI p)), some (.dat (.int c)), some (.dat (tupI (p.set s c))), some (.dat (optP (fp b A ss (p.set s c))))] else [some (.dat (encB b)), some (.dat (tupN (s :: ss))), some (.dat (.list (A.map PyData.int))), some (.dat (tupI p)), some (.dat (.int c)), some (.dat (tupI (p.set s c))), z.map E.dat]), by cases x <;> rfl, ?_⟩
          by_cases g : c ∈ A ∧ right b (p.set s c)
          · rw [if_pos g, if_pos g]
            cases q : fp b A ss (p.set s c) with
            | some r =>
              refine .inl ⟨tupI r, rfl, ?_⟩
              rw [q] at ih
              cases y <;> cases z <;> simp [-truD, i1, i2, e1, e2, e3, e4, g.1, g.2, ih, optP, isntD, isD]
            | none =>
              refine .inr ⟨rfl, ?_, some (.int c), some (tupI (p.set s c)), some .none, rfl⟩
              rw [q] at ih
              cases y <;> cases z <;> simp [-truD, i1, i2, e1, e2, e3, e4, g.1, g.2, ih, optP, isntD, isD]
          · rw [if_neg g, if_neg g]
            refine .inr ⟨rfl, ?_, some (.int c), some (tupI (p.set s c)), z, rfl⟩
            by_cases g1 : c ∈ A
            · have g2 : ¬ right b (p.set s c) := fun w => g ⟨g1, w⟩
              cases y <;> cases z <;> simp [-truD, i1, i2, e1, e2, e3, e4, g1, g2]
            · cases y <;> cases z <;> simp [-truD, i1, i2, e1, e2, e3, e4, g1]
      obtain ⟨ρ', loop⟩ := loop
      have ef : (lst b s).findSome? (fun c => (if c ∈ A ∧ right b (p.set s c) then fp b A ss (p.set s c) else none).map tupI) = (fp b A (s :: ss) p).map tupI := by
        exact findSome_map _ _ _
      rw [ef] at loop
      have t1 : truD (tupN (s :: ss)) = some true := rfl
      unfold b_first_packing fnD
      rcases loop with ⟨d, h1, h2⟩ | ⟨h1, h2, _⟩
      · obtain ⟨r, h3, rfl⟩ := Option.map_eq_some_iff.mp h1
        simp [-truD, -List.getElem?_map, isD, t1, i0, i1, il, h2, h3, optP]
      · have h3 := Option.map_eq_none_iff.mp h1
        simp [-truD, -List.getElem?_map, isD, t1, i0, i1, il, h2, h3, optP]
end K01
/-! M9: first_packing without a plan, band_of, packing, is_packable, least_band. -/
namespace K01
open PySem PySem.Spec PyProof.Rows L2 DL BK

theorem e_fp0 {b : Bk} (h : Vb b) {A : List Int} {n : Nat} {sts : List Nat} (hn : sts.length < n) (hs : ∀ s ∈ sts, s < b.ls.length) : f_first_packing n [encB b, tupN sts, .list (A.map PyData.int), .none] = .ok (optP (fp b A sts (sil b.ls.length))) := by
  have e := e_fp h (A := A) hn hs (p := sil b.ls.length) (by simp [sil])
  rw [← e]
  obtain ⟨n, rfl⟩ : ∃ k, n = k + 1 := ⟨n - 1, by omega⟩
  show fnD 7 (b_first_packing (f_first_packing n)) _ = fnD 7 (b_first_packing (f_first_packing n)) _
  have hb : ([.int (-1)] : List D).length ≤ sizeLine := big (by show 1 ≤ 5000; omega)
  have i0 : ixD (encB b) (.int 0) = some (.tuple (b.ls.map tupI)) := rfl
  have m := mul_sil h.n1 h.n8
  unfold b_first_packing
  generalize (seqS (ifS (notT (truT (varG 1))) (outG (varG 3) fun d ρ => .rt d ρ) (fun ρ => .nx ρ)) _) = rest
  simp [isD, tupD_ok hb, i0, m]
/-! ### band_of -/
theorem fold_keys : ∀ (cs : List Int) (l0 : List Int), l0.Nodup → ∃ l : List Int, (cs.map fun c => PyData.tuple [.int c, .bool true]).foldl putQ (l0.map fun c => (PyData.int c, PyData.bool true)) = l.map (fun c => (PyData.int c, PyData.bool true)) ∧ l.Nodup ∧ ∀ c, c ∈ l ↔ c ∈ l0 ∨ c ∈ cs
  | [], l0, h => ⟨l0, rfl, h, fun c => by simp⟩
  | c :: cs, l0, h => by
    rw [List.map_cons, List.foldl_cons]
    have e : putQ (l0.map fun c => (PyData.int c, PyData.bool true)) (.tuple [.int c, .bool true]) = (if c ∈ l0 then l0 else l0 ++ [c]).map fun c => (PyData.int c, PyData.bool true) := by
      show putP _ (.inl c) (.bool true) = _
      unfold putP
      have ea : ((l0.map fun c => (PyData.int c, PyData.bool true)).any fun p => decide (keyD p.1 = some (.inl c))) = decide (c ∈ l0) := by
        rw [List.any_map]
        induction l0 with
        | nil => rfl
        | cons x l ih =>
          rw [List.any_cons, ih (List.nodup_cons.mp h).2]
          by_cases hx : x = c
          · subst hx
            simp [keyD]
          · simp [keyD, hx, Ne.symm hx]
      by_cases hc : c ∈ l0
      · rw [if_pos (by rw [ea]; exact decide_eq_true hc), if_pos hc, List.map_map]
        refine List.map_congr_left fun x _ => ?_
        show (if keyD (PyData.int x) = some (.inl c) then (PyData.int x, PyData.bool true) else (PyData.int x, PyData.bool true)) = _
        split <;> rfl
      · rw [if_neg (by rw [ea, decide_eq_false hc]; simp), if_neg hc, List.map_append]
        rfl
    rw [e]
    have nd : (if c ∈ l0 then l0 else l0 ++ [c]).Nodup := by
      split
      · exact h
      · rename_i hc
        exact List.nodup_append.mpr ⟨h, by simp, fun a ha b hb => by rw [List.mem_singleton.mp hb]; exact fun z => hc (z ▸ ha)⟩
    obtain ⟨l, h1, h2, h3⟩ := fold_keys cs _ nd
    refine ⟨l, h1, h2, fun x => ?_⟩
    rw [h3 x]
    split
    · rename_i hc
      simp only [List.mem_cons]
      constructor
      · rintro (z | z)
        · exact .inl z
        · exact .inr (.inr z)
      · rintro (z | rfl | z)
        · exact .inl z
        · exact .inl hc
        · exact .inr z
    · simp [or_assoc]
theorem mapR_ok {α β : Type} {f : α → Rs β} {g : α → β} : ∀ {xs : List α}, (∀ x ∈ xs, f x = .ok (g x)) → mapR f xs = .ok (xs.map g)
  | [], _ => rfl
  | x :: xs, h => by
    unfold mapR
    rw [h x List.mem_cons_self, Rs.bind_ok, mapR_ok fun y hy => h y (List.mem_cons_of_mem _ hy)]
    rfl
theorem mapR_enc {α β γ : Type} {enc : γ → α} {f : α → Rs β} {g : γ → β} {xs : List γ} (h : ∀ x ∈ xs, f (enc x) = .ok (g x)) : mapR f (xs.map enc) = .ok (xs.map g) := by
  induction xs with
  | nil => rfl
  | cons x xs ih =>
    rw [List.map_cons]
    unfold mapR
    rw [h x List.mem_cons_self, Rs.bind_ok, ih fun y hy => h y (List.mem_cons_of_mem _ hy)]
    rfl
theorem e_band {b : Bk} (h : Vb b) : ∃ bd, f_band_of [encB b] = .ok (.list (bd.map PyData.int)) ∧ Band b bd := by
  obtain ⟨l, k1, k2, k3⟩ := fold_keys b.ls.flatten [] List.nodup_nil
  have ll : b.ls.flatten.length ≤ 64 := by
    have : ∀ ls : List (List Int), (∀ l ∈ ls, l.length ≤ 8) → ls.flatten.length ≤ 8 * ls.length := fun ls => by
      induction ls with
      | nil => intro _; simp
      | cons x xs ih =>
        intro hx
        have h1 := hx x List.mem_cons_self
        have h2 := ih fun y hy => hx y (List.mem_cons_of_mem _ hy)
        rw [List.flatten_cons, List.length_append, List.length_cons]
        omega
    have h1 := this b.ls fun l hl => (h.l l hl).len
    have := h.n8
    omega
  have mem : ∀ c, c ∈ l ↔ ∃ x ∈ b.ls, c ∈ x := fun c => by
    rw [k3 c]
    simp [List.mem_flatten]
  have l8 : l.length ≤ 8 := by
    have p := srtI_perm l
    have nd : (srtI l).Nodup := p.nodup_iff.mpr k2
    have hlt : (srtI l).Pairwise (· < ·) := lt_of_le_nodup _ (srtI_pw l) nd
    have := asc_len (n := 8) (k := 0) hlt (fun c hc => by
      obtain ⟨x, hx, hcx⟩ := (mem c).mp (p.mem_iff.mp hc)
      have := (h.l x hx).2.2 c hcx
      omega) (by omega)
    rw [p.length_eq] at this
    omega
  refine ⟨srtI l, ?_, srtI_pw l, fun c => by rw [(srtI_perm l).mem_iff, mem c]⟩
  have i0 : ixD (encB b) (.int 0) = some (.tuple (b.ls.map tupI)) := rfl
  have hd : dcG2 (appG walkD (opG ixD (varG 0) (cG (.int 0)))) (nmB 1) (appG walkD (varG 1)) (nmB 2) (varG 2) (cG (.bool true)) [1, 2] [2] [some (.dat (encB b)), none, none] = .ok (.d (l.map fun c => (PyData.int c, PyData.bool true))) := by
    unfold dcG2
    simp only [appG, opG, varG, cG, List.getElem?_cons_zero, Rs.bind_ok, Rs.of_some, i0, walkD, wipeE, setE, List.getElem?_cons_succ, List.set_cons_zero, List.set_cons_succ, Option.bind_some]
    rw [mapR_enc (enc := tupI) (g := fun x => x.map fun c => PyData.tuple [.int c, .bool true]) fun x hx => ?_]
    · show okO (.ok (b.ls.map fun x => x.map fun c => PyData.tuple [.int c, .bool true]).flatten) = _
      have ef : (b.ls.map fun x => x.map fun c => PyData.tuple [.int c, .bool true]).flatten = b.ls.flatten.map fun c => PyData.tuple [.int c, .bool true] := (List.map_flatten).symm
      rw [ef]
      unfold okO
      simp only
      rw [if_pos (by rw [List.length_map, sizeLine_eq]; omega)]
      unfold foldP
      rw [show ([] : List (D × D)) = ([] : List Int).map fun c => (PyData.int c, PyData.bool true) from rfl, k1]
    · unfold pairsB
      simp only [nmB, setE, List.getElem?_cons_zero, List.getElem?_cons_succ, List.set_cons_zero, List.set_cons_succ, appG, varG, Rs.bind_ok, Rs.of_some, walkD, wipeE, Option.bind_some]
      refine mapR_enc fun c _ => ?_
      simp [pairB, keyD]
  have ek : intsD ((l.map fun c => (PyData.int c, PyData.bool true)).map (·.1)) = some l := by
    rw [List.map_map]
    exact intsD_map l
  have hs : sortAO [.dict (l.map fun c => (PyData.int c, PyData.bool true))] = some (.l ((srtI l).map PyData.int)) := by
    show ((intsD _).bind fun ns => if ns.length < 64 then _ else _) = _
    rw [ek, Option.bind_some, if_pos (by omega)]
  unfold f_band_of b_band_of fnD
  simp [-List.map_map, hd, hs]
end K01
/-! M10: packing, is_packable, least_band. -/
namespace K01
open PySem PySem.Spec PyProof.Rows L2 DL BK

theorem Vb.pos {b : Bk} (h : Vb b) : posG b := fun s hs g hg => ((h.s s hs).2.2.2.2.2 g hg).1
theorem Vb.nn {b : Bk} (h : Vb b) : nnL b := fun l hl c hc => ((h.l l hl).2.2 c hc).1
theorem Vb.len {b : Bk} (h : Vb b) : lenG b b.ls.length := fun s hs => (h.s s hs).2.2.2.1
theorem band_all {b : Bk} {bd : List Int} (hd : Band b bd) : ∀ s, ∀ c ∈ lst b s, c ∈ bd := fun s c hc => (hd.2 c).mpr (by
  by_cases hs : s < b.ls.length
  · exact ⟨_, lst_mem hs, hc⟩
  · unfold lst at hc
    rw [List.getD_eq_getElem?_getD, List.getElem?_eq_none (by omega)] at hc
    cases hc)
theorem filt_all {b : Bk} {A : List Int} (hA : ∀ s, ∀ c ∈ lst b s, c ∈ A) : (fun s => (lst b s).filter (· ∈ A)) = lst b := funext fun s => List.filter_eq_self.mpr fun c hc => by simpa using hA s c hc
theorem fp_R {b : Bk} (h : Vb b) {bd : List Int} (hd : Band b bd) {sts : List Nat} (st : Stn sts b.ls.length) : (fp b bd sts (sil b.ls.length)).isSome = decide (R b sts (sil b.ls.length) ≠ []) := by
  have st' : Stn sts (sil b.ls.length).length := by simpa [sil] using st
  have e := fp_some (A := bd) h.pos st' (fun s _ => ch_sil) (right_sil fun i => ch_sil)
  rw [filt_all (band_all hd)] at e
  rw [Bool.eq_iff_iff, e, decide_eq_true_iff]
  constructor
  · rintro ⟨q, h1, h2⟩ z
    have : q ∈ R b sts (sil b.ls.length) := List.mem_filter.mpr ⟨h1, by simpa using h2⟩
    rw [z] at this
    cases this
  · intro hne
    obtain ⟨q, hq⟩ := List.exists_mem_of_ne_nil _ hne
    obtain ⟨h1, h2⟩ := List.mem_filter.mp hq
    exact ⟨q, h1, by simpa using h2⟩
theorem isnt_opt (o : Option (List Int)) : isntD (optP o) .none = some (.bool o.isSome) := by cases o <;> rfl
theorem e_packing {b : Bk} (h : Vb b) {sts : List Nat} (hs : Vs b sts) (h5 : sts.length ≤ 5) : ∃ bd, Band b bd ∧ f_packing [encB b, tupN sts] = .ok (optP (fp b bd sts (sil b.ls.length))) := by
  obtain ⟨bd, e1, hd⟩ := e_band h
  refine ⟨bd, hd, ?_⟩
  have e2 := e_fp0 h (A := bd) (n := 6) (sts := sts) (by omega) hs.2
  unfold f_packing b_packing f_packing_of b_packing_of fnD
  simp [e_check_stations h hs, e1, e2]
theorem e_is_packable {b : Bk} (h : Vb b) {sts : List Nat} (hs : Vs b sts) (h5 : sts.length ≤ 5) : f_is_packable [encB b, tupN sts] = .ok (.bool (decide (R b sts (sil b.ls.length) ≠ []))) := by
  obtain ⟨bd, hd, e⟩ := e_packing h hs h5
  have e2 := fp_R h hd hs.stn
  unfold f_is_packable b_is_packable fnD
  simp [-isntD, e, isnt_opt, e2]
/-! ### least_band -/
def optI : Option Int → D
  | some x => .int x
  | none => .none
theorem upto_range (m : Int) (h : 0 ≤ m) : rangeL 0 (m + 1).toNat = (upto m).map PyData.int := by
  unfold rangeL upto
  rw [List.map_map]
  refine List.map_congr_left fun k _ => ?_
  show PyData.int (0 + (k : Int)) = PyData.int (k : Int)
  rw [Int.zero_add]
theorem e_least_band {b : Bk} (h : Vb b) {sts : List Nat} (hs : Vs b sts) (h5 : sts.length ≤ 5) : ∃ bd, Band b bd ∧ f_least_band [encB b, tupN sts] = .ok (optI (lb b bd sts)) := by
  obtain ⟨bd, e1, hd⟩ := e_band h
  refine ⟨bd, hd, ?_⟩
  have ec := e_check_stations h hs
  by_cases h0 : sts = []
  · subst h0
    unfold f_least_band b_least_band fnD lb
    simp [ec, optI]
  · have hne : sts.isEmpty = false := by cases sts with | nil => exact absurd rfl h0 | cons _ _ => rfl
    have loop := forS_find (enc := PyData.int) (b := nmB 2)
      (body := ifS (boolT (opG isntD (callG 4 (f_first_packing 6) [.none] (consG (varG 0) (consG (varG 1) (consG (frzG (rgD .l (opG addD (varG 2) (cG (.int 1))))) nilG)))) (cG .none))) (outG (opG addD (varG 2) (cG (.int 1))) fun d ρ => .rt d ρ) (fun ρ => .nx ρ))
      (R := fun ρ => ∃ x : Option D, ρ = [some (.dat (encB b)), some (.dat (tupN sts)), x.map E.dat])
      (f := fun m => (if (fp b (upto m) sts (sil b.ls.length)).isSome then some (m + 1) else none).map PyData.int) (xs := bd) (ρ := [some (.dat (encB b)), some (.dat (tupN sts)), none]) ⟨none, rfl⟩ fun m hm ρ ⟨x, hρ⟩ => by
        subst hρ
        obtain ⟨l, hl, hml⟩ := (hd.2 m).mp hm
        have hm7 := (h.l l hl).2.2 m hml
        have e2 := e_fp0 h (A := upto m) (n := 6) (sts := sts) (by omega) hs.2
        have e3 : rgD O.l (opG addD (varG 2) (cG (.int 1))) [some (.dat (encB b)), some (.dat (tupN sts)), some (.dat (.int m))] = .ok (.l ((upto m).map PyData.int)) := by
          unfold rgD
          simp only [opG, varG, cG, addD, List.getElem?_cons_zero, List.getElem?_cons_succ, Rs.bind_ok, Rs.of_some]
          rw [if_pos (by omega), upto_range m hm7.1]
        refine ⟨[some (.dat (encB b)), some (.dat (tupN sts)), some (.dat (.int m))], [some (.dat (encB b)), some (.dat (tupN sts)), some (.dat (.int m))], by cases x <;> rfl, ?_⟩
        cases q : (fp b (upto m) sts (sil b.ls.length)).isSome with
        | true =>
          refine .inl ⟨.int (m + 1), rfl, ?_⟩
          simp [-isntD, e2, e3, isnt_opt, q]
        | false =>
          refine .inr ⟨rfl, ?_, some (.int m), rfl⟩
          simp [-isntD, e2, e3, isnt_opt, q]
    obtain ⟨ρ', loop⟩ := loop
    rw [findSome_map] at loop
    unfold f_least_band b_least_band fnD lb
    rw [if_neg h0]
    rcases loop with ⟨d, h1, h2⟩ | ⟨h1, h2, _⟩
    · obtain ⟨r, h3, rfl⟩ := Option.map_eq_some_iff.mp h1
      simp [-List.isEmpty_map, ec, e1, h2, h3, optI, h0]
    · have h3 := Option.map_eq_none_iff.mp h1
      simp [ec, e1, h2, h3, optI, h0]
end K01
/-! M11: packings_of, packings. -/
namespace K01
open PySem PySem.Spec PyProof.Rows L2 DL BK

theorem compM_lift {α : Type} {enc : α → D} {body : D → Ev → Rs (Option D × Ev)} {h : α → Option D} {ρ : Ev} : ∀ {xs : List α}, (∀ x ∈ xs, body (enc x) ρ = .ok (h x, ρ)) → compM body (xs.map enc) ρ = .ok (xs.filterMap h, ρ)
  | [], _ => rfl
  | x :: xs, e => by
    rw [List.map_cons, compM_cons, e x List.mem_cons_self, mbind_ok, compM_lift fun y hy => e y (List.mem_cons_of_mem _ hy), mbind_ok, List.filterMap_cons]
    cases h x <;> rfl
theorem lcM_lift {α : Type} {enc : α → D} {fi : Ev → Rs (List D × Ev)} {b : D → Ev → Option Ev} {tt : Ev → Rs (Bool × Ev)} {te : Ev → Rs (D × Ev)} {vs : List Nat} {h : α → Option D} {xs : List α} {ρ ρ1 ρ0 : Ev} (hi : fi ρ = .ok (xs.map enc, ρ1)) (hw : wipeE vs ρ1 = some ρ0)
    (e : ∀ x ∈ xs, lcBodyM b tt te vs (enc x) ρ0 = .ok (h x, ρ0)) : lcM fi b tt te vs ρ = .ok (.l (xs.filterMap h), ρ0) := by
  unfold lcM
  rw [hi, mbind_ok, hw]
  simp only
  rw [compM_lift e]
  rfl
theorem il_lst {b : Bk} {s : Nat} (hs : s < b.ls.length) : (b.ls.map tupI)[s]? = some (tupI (lst b s)) := by
  rw [List.getElem?_map]
  unfold lst
  rw [List.getD_eq_getElem?_getD, List.getElem?_eq_getElem hs]
  rfl
theorem truD_fl (b : Bk) (p : List Int) : truD (.list (fl b p)) = some (!decide (right b p)) := by
  show some (!(fl b p).isEmpty) = _
  rw [fl_nil]
abbrev ownL (rows : List (List Int)) : DL.E := .own false (.l (rows.map tupI))
/-- a channel's turn -/
def kid (b : Bk) (s : Nat) (p : List Int) (c : Int) : Option (List Int) := if right b (p.set s c) then some (p.set s c) else none
def bIn : Ev → Out := seqS (outG (callG 3 f_put [] (consG (varG 7) (consG (varG 5) (consG (varG 8) nilG)))) (setS 9))
  (ifS (notT (truT (callG 2 f_faults_of [] (consG (varG 0) (consG (varG 9) nilG))))) (outM (mthM "list" 6 appendO (consM (lift (varG 9)) nilM)) fun _ ρ => .nx ρ) (fun ρ => .nx ρ))
theorem e_inner {b : Bk} (h : Vb b) {p : List Int} {s : Nat} (hp : p.length = b.ls.length) (hs : s < b.ls.length) {A B C D4 : DL.E} {acc : List (List Int)} (hacc : acc.length ≤ 10000) (x9 x8 : Option D) :
    ∃ x y : Option D, forS (nmB 8) bIn [] ((lst b s).map PyData.int) [some (.dat (encB b)), some A, some B, some C, some D4, some (.dat (.int (s : Int))), some (ownL acc), some (.dat (tupI p)), x8.map E.dat, x9.map E.dat] =
      .nx [some (.dat (encB b)), some A, some B, some C, some D4, some (.dat (.int (s : Int))), some (ownL (acc ++ (lst b s).filterMap (kid b s p))), some (.dat (tupI p)), x.map E.dat, y.map E.dat] := by
  have n8 := h.n8
  have l8 : (lst b s).length ≤ 8 := (h.l _ (lst_mem hs)).len
  obtain ⟨ρ', h1, h2, x, y, h3⟩ := forS_ix (enc := PyData.int) (b := nmB 8) (body := bIn) (R := fun k (a : List (List Int)) ρ => a.length ≤ acc.length + k ∧ ∃ x y : Option D, ρ = [some (.dat (encB b)), some A, some B, some C, some D4, some (.dat (.int (s : Int))), some (ownL a), some (.dat (tupI p)), x.map E.dat, y.map E.dat])
    (step := fun a c => psh a (kid b s p c)) (xs := lst b s) (k := 0) (s := acc) (ρ := [some (.dat (encB b)), some A, some B, some C, some D4, some (.dat (.int (s : Int))), some (ownL acc), some (.dat (tupI p)), x8.map E.dat, x9.map E.dat]) ⟨Nat.le_refl _, x8, x9, rfl⟩ fun i a ρ c hc ⟨hk, x, y, hρ⟩ => by
      subst hρ
      have hil := (List.getElem?_eq_some_iff.mp hc).1
      have pl : (p.set s c).length = b.ls.length := by rw [List.length_set]; exact hp
      have e1 := e_put (p := p) (s := s) (c := c) (by omega) (by omega)
      have e2 := e_faults_of h pl
      have ha : (a.map tupI).length < sizeLine := by rw [List.length_map, sizeLine_eq]; omega
      refine ⟨[some (.dat (encB b)), some A, some B, some C, some D4, some (.dat (.int (s : Int))), some (ownL a), some (.dat (tupI p)), some (.dat (.int c)), y.map E.dat],
        [some (.dat (encB b)), some A, some B, some C, some D4, some (.dat (.int (s : Int))), some (ownL (psh a (kid b s p c))), some (.dat (tupI p)), some (.dat (.int c)), some (.dat (tupI (p.set s c)))], by cases x <;> rfl, .inl ?_, ?_, some (.int c), some (tupI (p.set s c)), rfl⟩
      · unfold bIn kid
        by_cases g : right b (p.set s c)
        · cases y <;> simp [-truD, e1, e2, truD_fl, g, psh] <;> (rw [if_pos (by simpa using ha)]; simp)
        · cases y <;> simp [-truD, e1, e2, truD_fl, g, psh]
      · unfold kid
        split
        · show (a ++ [_]).length ≤ _
          rw [List.length_append, List.length_singleton]
          omega
        · exact Nat.le_succ_of_le hk
  rw [fold_filter] at h3
  subst h3
  exact ⟨x, y, h1⟩
def bMid : Ev → Out := outG (appG walkD (opG ixD (opG ixD (varG 0) (cG (.int 0))) (varG 5))) (forS (nmB 8) bIn [])
theorem kids_fold (b : Bk) (s : Nat) : ∀ (rows acc : List (List Int)), rows.foldl (fun a p => a ++ (lst b s).filterMap (kid b s p)) acc = acc ++ kids b s rows
  | [], acc => by simp [kids]
  | p :: rows, acc => by
    rw [List.foldl_cons, kids_fold b s rows, List.append_assoc]
    congr 1
theorem e_middle {b : Bk} (h : Vb b) {s : Nat} (hs : s < b.ls.length) {A B C D4 : DL.E} {rows : List (List Int)} (hrows : ∀ p ∈ rows, p.length = b.ls.length) (hr : rows.length ≤ 1024) (x7 x8 x9 : Option D) :
    ∃ x y z : Option D, forS (nmB 7) bMid [] (rows.map tupI) [some (.dat (encB b)), some A, some B, some C, some D4, some (.dat (.int (s : Int))), some (ownL []), x7.map E.dat, x8.map E.dat, x9.map E.dat] =
      .nx [some (.dat (encB b)), some A, some B, some C, some D4, some (.dat (.int (s : Int))), some (ownL (kids b s rows)), x.map E.dat, y.map E.dat, z.map E.dat] := by
  have l8 : (lst b s).length ≤ 8 := (h.l _ (lst_mem hs)).len
  obtain ⟨ρ', h1, h2, x, y, z, h3⟩ := forS_ix (enc := tupI) (b := nmB 7) (body := bMid) (R := fun k (a : List (List Int)) ρ => a.length ≤ 8 * k ∧ ∃ x y z : Option D, ρ = [some (.dat (encB b)), some A, some B, some C, some D4, some (.dat (.int (s : Int))), some (ownL a), x.map E.dat, y.map E.dat, z.map E.dat])
    (step := fun a p => a ++ (lst b s).filterMap (kid b s p)) (xs := rows) (k := 0) (s := []) (ρ := [some (.dat (encB b)), some A, some B, some C, some D4, some (.dat (.int (s : Int))), some (ownL []), x7.map E.dat, x8.map E.dat, x9.map E.dat]) ⟨Nat.zero_le _, x7, x8, x9, rfl⟩ fun i a ρ p hp ⟨hk, x, y, z, hρ⟩ => by
      subst hρ
      have hil := (List.getElem?_eq_some_iff.mp hp).1
      obtain ⟨u, v, e1⟩ := e_inner h (hrows p (List.mem_of_getElem? hp)) hs (A := A) (B := B) (C := C) (D4 := D4) (acc := a) (by omega) z y
      have i0 : ixD (encB b) (.int 0) = some (.tuple (b.ls.map tupI)) := rfl
      refine ⟨[some (.dat (encB b)), some A, some B, some C, some D4, some (.dat (.int (s : Int))), some (ownL a), some (.dat (tupI p)), y.map E.dat, z.map E.dat],
        [some (.dat (encB b)), some A, some B, some C, some D4, some (.dat (.int (s : Int))), some (ownL (a ++ (lst b s).filterMap (kid b s p))), some (.dat (tupI p)), u.map E.dat, v.map E.dat], by cases x <;> rfl, .inl ?_, ?_, some (tupI p), u, v, rfl⟩
      · unfold bMid
        simp [-List.getElem?_map, i0, il_lst hs, e1]
      · have := List.length_filterMap_le (kid b s p) (lst b s)
        rw [List.length_append]
        omega
  rw [kids_fold, List.nil_append] at h3
  subst h3
  exact ⟨x, y, z, h1⟩
end K01
/-! M12: packings_of, packings. -/
namespace K01
open PySem PySem.Spec PyProof.Rows L2 DL BK

def bFil : Ev → Rs (O × Ev) := lcM (appM walkD (frzV 6)) (nmB 7) (lift (boolT (opG isntD (callG 4 (f_first_packing 6) [] (consG (varG 0) (consG (sliceG (varG 1) (partG (opG addD (varG 4) (cG (.int 1)))) (cG none)) (consG (callG 1 f_band_of [] (consG (varG 0) nilG)) (consG (varG 7) nilG))))) (cG .none)))) (lift (varG 7)) [7]
def bOut : Ev → Out := seqS (outM (lift (appG lstO nilG)) (setOS 6)) (seqS (outG (appG walkD (varG 3)) (forS (nmB 7) bMid [])) (seqS (outM bFil fun o => setS 3 o.dat) (ifS (boolT (opG gtD (appG lenD (consG (varG 3) nilG)) (varG 2))) (fun _ => .bad) (fun ρ => .nx ρ))))
def encE (x : Nat × Nat) : D := .tuple [.int (x.2 : Int), .int (x.1 : Int)]
/-- a station's turn -/
def turn (b : Bk) (bd : List Int) (sts : List Nat) (rows : List (List Int)) (x : Nat × Nat) : List (List Int) := (kids b x.1 rows).filter fun o => (fp b bd (sts.drop (x.2 + 1)) o).isSome
theorem turn_PR (b : Bk) (bd : List Int) : ∀ (suf pre : List Nat) (rows : List (List Int)), (suf.zipIdx pre.length).foldl (turn b bd (pre ++ suf)) rows = PR b bd suf rows
  | [], pre, rows => rfl
  | s :: ss, pre, rows => by
    rw [List.zipIdx_cons, List.foldl_cons]
    have ih := turn_PR b bd ss (pre ++ [s]) ((kids b s rows).filter fun o => (fp b bd ss o).isSome)
    rw [List.length_append, List.length_singleton, List.append_assoc, List.singleton_append] at ih
    have e : turn b bd (pre ++ s :: ss) rows (s, pre.length) = (kids b s rows).filter fun o => (fp b bd ss o).isSome := by
      unfold turn
      simp
    rw [e, ih]
    rfl
theorem enum_sts (sts : List Nat) : enumL (sts.map nI) = (sts.zipIdx).map encE := by
  unfold enumL
  rw [List.zipIdx_map, List.map_map]
  rfl
theorem kids_len {b : Bk} {s : Nat} {rows : List (List Int)} (h : (lst b s).length ≤ 4) : (kids b s rows).length ≤ 4 * rows.length := by
  induction rows with
  | nil => simp [kids]
  | cons p rows ih =>
    have h1 := List.length_filterMap_le (kid b s p) (lst b s)
    show ((lst b s).filterMap (kid b s p) ++ kids b s rows).length ≤ _
    rw [List.length_append, List.length_cons]
    omega
theorem kids_width {b : Bk} {s m : Nat} {rows : List (List Int)} (h : ∀ p ∈ rows, p.length = m) : ∀ p ∈ kids b s rows, p.length = m := fun o ho => by
  obtain ⟨_, p, hp, c, _, rfl⟩ := kids_mem ho
  rw [List.length_set]
  exact h p hp
theorem e_filter {b : Bk} (h : Vb b) {bd : List Int} (hb : f_band_of [encB b] = .ok (.list (bd.map PyData.int))) {sts : List Nat} (hs : ∀ s ∈ sts, s < b.ls.length) (h5 : sts.length ≤ 5) {i : Nat} {C A D5 : DL.E} {x7 x8 x9 : Option D} {rows : List (List Int)} (hrows : ∀ p ∈ rows, p.length = b.ls.length) :
    bFil [some (.dat (encB b)), some (.dat (tupN sts)), some C, some A, some (.dat (.int (i : Int))), some D5, some (ownL rows), x7.map E.dat, x8.map E.dat, x9.map E.dat] =
      .ok (.l ((rows.filter fun o => (fp b bd (sts.drop (i + 1)) o).isSome).map tupI), [some (.dat (encB b)), some (.dat (tupN sts)), some C, some A, some (.dat (.int (i : Int))), some D5, some (.dat (.list (rows.map tupI))), none, x8.map E.dat, x9.map E.dat]) := by
  unfold bFil
  have e : ((rows.filter fun o => (fp b bd (sts.drop (i + 1)) o).isSome).map tupI) = rows.filterMap fun o => if (fp b bd (sts.drop (i + 1)) o).isSome then some (tupI o) else none := by
    clear hrows
    induction rows with
    | nil => rfl
    | cons o rows ih =>
      rw [List.filter_cons, List.filterMap_cons]
      split
      · rw [List.map_cons, ih]
      · exact ih
  rw [e]
  have sl : sliceD (tupN sts) (some ((i : Int) + 1)) none = some (tupN (sts.drop (i + 1))) := by
    show some (PyData.tuple (cutL _ _ _)) = _
    rw [show (i : Int) + 1 = ((i + 1 : Nat) : Int) by omega, cutL_from, drop_enc, drop_enc]
  refine lcM_lift (enc := tupI) (ρ1 := [some (.dat (encB b)), some (.dat (tupN sts)), some C, some A, some (.dat (.int (i : Int))), some D5, some (.dat (.list (rows.map tupI))), x7.map E.dat, x8.map E.dat, x9.map E.dat]) ?_ (by cases x7 <;> rfl) fun o ho => ?_
  · simp
  · have e1 := e_fp h (A := bd) (n := 6) (sts := sts.drop (i + 1)) (p := o) (by rw [List.length_drop]; omega) (fun s hm => hs s (List.mem_of_mem_drop hm)) (hrows o ho)
    unfold lcBodyM
    simp [-truD, -isntD, sl, hb, e1, isnt_opt, wipeM, wipeE, truD]
    cases (fp b bd (sts.drop (i + 1)) o) <;> simp [optP, truD, wipeE]
theorem e_turn {b : Bk} (h : Vb b) {bd : List Int} (hb : f_band_of [encB b] = .ok (.list (bd.map PyData.int))) {sts : List Nat} (hs : ∀ s ∈ sts, s < b.ls.length) (h5 : sts.length ≤ 5) {i s : Nat} (his : sts[i]? = some s) {rows : List (List Int)} (hr : rows.length ≤ 1024) (hk : (kids b s rows).length ≤ 1024) (hrows : ∀ p ∈ rows, p.length = b.ls.length) (x6 x7 x8 x9 : Option D) :
    ∃ x y z : Option D, bOut [some (.dat (encB b)), some (.dat (tupN sts)), some (.dat (.int 2000)), some (.dat (.list (rows.map tupI))), some (.dat (.int (i : Int))), some (.dat (.int (s : Int))), x6.map E.dat, x7.map E.dat, x8.map E.dat, x9.map E.dat] =
      .nx [some (.dat (encB b)), some (.dat (tupN sts)), some (.dat (.int 2000)), some (.dat (.list ((turn b bd sts rows (s, i)).map tupI))), some (.dat (.int (i : Int))), some (.dat (.int (s : Int))), x.map E.dat, none, y.map E.dat, z.map E.dat] := by
  have hs1 : s < b.ls.length := hs s (List.mem_of_getElem? his)
  obtain ⟨x, y, z, e1⟩ := e_middle h hs1 (A := .dat (tupN sts)) (B := .dat (.int 2000)) (C := .dat (.list (rows.map tupI))) (D4 := .dat (.int (i : Int))) hrows hr x7 x8 x9
  have e2 := e_filter h hb hs h5 (i := i) (C := .dat (.int 2000)) (A := .dat (.list (rows.map tupI))) (D5 := .dat (.int (s : Int))) (x7 := x) (x8 := y) (x9 := z) (rows := kids b s rows) (kids_width (s := s) hrows)
  have hl : (turn b bd sts rows (s, i)).length ≤ 1024 := Nat.le_trans (List.length_filter_le _ _) hk
  refine ⟨some (.list ((kids b s rows).map tupI)), y, z, ?_⟩
  have hb0 : ([] : List D).length ≤ sizeLine := Nat.zero_le _
  rw [show ownL [] = E.own false (.l []) from rfl] at e1
  unfold bOut
  cases x6 <;> simp [lstO_ok hb0, e1, e2] <;> (unfold turn at hl ⊢; simp at hl ⊢; omega)
end K01
/-! M13: packings_of, packings. -/
namespace K01
open PySem PySem.Spec PyProof.Rows L2 DL BK

theorem allT_map : ∀ {rows : List (List Int)}, (∀ p ∈ rows, p ≠ []) → allM asT (rows.map tupI) = some rows
  | [], _ => rfl
  | p :: rows, h => by
    have h1 := h p List.mem_cons_self
    rw [List.map_cons]
    unfold allM
    have e : asT (tupI p) = some p := by
      cases p with
      | nil => exact absurd rfl h1
      | cons x p =>
        show (match intsD ((x :: p).map PyData.int) with | some [] => none | r => r) = _
        rw [intsD_map]
    rw [e, allT_map fun q hq => h q (List.mem_cons_of_mem _ hq)]
    rfl
theorem sortA_rows {rows : List (List Int)} (h : ∀ p ∈ rows, p ≠ []) : sortAO [.list (rows.map tupI)] = some (.l ((srtT rows).map tupI)) := by
  show sortTO [.list (rows.map tupI)] = _
  unfold sortTO
  simp only
  cases rows with
  | nil => rfl
  | cons p rows =>
    have e : intsD ((p :: rows).map tupI) = none := by
      rw [List.map_cons]
      unfold intsD allM
      rfl
    rw [e]
    simp only
    rw [allT_map h]
    rfl
def L4 (b : Bk) : Prop := ∀ l ∈ b.ls, l.length ≤ 4
theorem lst4 {b : Bk} (h : L4 b) (s : Nat) : (lst b s).length ≤ 4 := by
  by_cases hs : s < b.ls.length
  · exact h _ (lst_mem hs)
  · unfold lst
    rw [List.getD_eq_getElem?_getD, List.getElem?_eq_none (by omega)]
    simp
theorem pow4 {k : Nat} (h : k ≤ 5) : 4 ^ k ≤ 1024 := Nat.le_trans (Nat.pow_le_pow_right (by decide) h) (by decide)
theorem e_rows {b : Bk} (h : Vb b) (h4 : L4 b) {bd : List Int} (hb : f_band_of [encB b] = .ok (.list (bd.map PyData.int))) {sts : List Nat} (hs : ∀ s ∈ sts, s < b.ls.length) (h5 : sts.length ≤ 5) :
    ∃ ρ', forS (tupB 2 (consB (nmB 4) (consB (nmB 5) nilB))) bOut [] (enumL (sts.map nI)) [some (.dat (encB b)), some (.dat (tupN sts)), some (.dat (.int 2000)), some (.dat (.list ([sil b.ls.length].map tupI))), none, none, none, none, none, none] = .nx ρ' ∧
      ∃ x4 x5 x6 x7 x8 x9 : Option D, ρ' = [some (.dat (encB b)), some (.dat (tupN sts)), some (.dat (.int 2000)), some (.dat (.list ((PR b bd sts [sil b.ls.length]).map tupI))), x4.map E.dat, x5.map E.dat, x6.map E.dat, x7.map E.dat, x8.map E.dat, x9.map E.dat] ∧
        (PR b bd sts [sil b.ls.length]).length ≤ 1024 ∧ ∀ p ∈ PR b bd sts [sil b.ls.length], p.length = b.ls.length := by
  rw [enum_sts]
  obtain ⟨ρ', h1, h2, h3, x4, x5, x6, x7, x8, x9, h6⟩ := forS_ix (enc := encE) (b := tupB 2 (consB (nmB 4) (consB (nmB 5) nilB))) (body := bOut)
    (R := fun k (rows : List (List Int)) ρ => rows.length ≤ 4 ^ k ∧ (∀ p ∈ rows, p.length = b.ls.length) ∧ ∃ x4 x5 x6 x7 x8 x9 : Option D, ρ = [some (.dat (encB b)), some (.dat (tupN sts)), some (.dat (.int 2000)), some (.dat (.list (rows.map tupI))), x4.map E.dat, x5.map E.dat, x6.map E.dat, x7.map E.dat, x8.map E.dat, x9.map E.dat])
    (step := turn b bd sts) (xs := sts.zipIdx) (k := 0) (s := [sil b.ls.length]) (ρ := [some (.dat (encB b)), some (.dat (tupN sts)), some (.dat (.int 2000)), some (.dat (.list ([sil b.ls.length].map tupI))), none, none, none, none, none, none])
    ⟨by simp, fun p hp => by rw [List.mem_singleton.mp hp]; simp [sil], none, none, none, none, none, none, rfl⟩ fun i rows ρ x hx ⟨a1, a2, x4, x5, x6, x7, x8, x9, hρ⟩ => by
      subst hρ
      rw [List.getElem?_zipIdx] at hx
      obtain ⟨s, his, rfl⟩ := Option.map_eq_some_iff.mp hx
      have hi := (List.getElem?_eq_some_iff.mp his).1
      rw [Nat.zero_add] at a1 ⊢
      have hr : rows.length ≤ 1024 := Nat.le_trans a1 (pow4 (by omega))
      have hk0 : (kids b s rows).length ≤ 4 ^ (i + 1) := Nat.le_trans (kids_len (lst4 h4 s)) (by rw [Nat.pow_succ]; omega)
      have hk : (kids b s rows).length ≤ 1024 := Nat.le_trans hk0 (pow4 (by omega))
      obtain ⟨x, y, z, e⟩ := e_turn h hb hs h5 his hr hk a2 x6 x7 x8 x9
      refine ⟨[some (.dat (encB b)), some (.dat (tupN sts)), some (.dat (.int 2000)), some (.dat (.list (rows.map tupI))), some (.dat (.int (i : Int))), some (.dat (.int (s : Int))), x6.map E.dat, x7.map E.dat, x8.map E.dat, x9.map E.dat], _, ?_, .inl e, ?_, fun p hp => kids_width a2 p (List.mem_filter.mp hp).1, some (.int (i : Int)), some (.int (s : Int)), x, none, y, z, ?_⟩
      · cases x4 <;> cases x5 <;> simp [encE]
      · exact Nat.le_trans (List.length_filter_le _ _) hk0
      · rfl
  have e := turn_PR b bd sts [] [sil b.ls.length]
  rw [List.length_nil, List.nil_append] at e
  rw [e] at h2 h3 h6
  refine ⟨ρ', h1, x4, x5, x6, x7, x8, x9, h6, Nat.le_trans h2 (pow4 (by rw [List.length_zipIdx]; omega)), h3⟩
theorem e_packings_of {b : Bk} (h : Vb b) (h4 : L4 b) {sts : List Nat} (hs : Vs b sts) (h5 : sts.length ≤ 5) : f_packings_of [encB b, tupN sts, .int 2000] = .ok (.list ((srtT (R b sts (sil b.ls.length))).map tupI)) := by
  obtain ⟨bd, hb, hB⟩ := e_band h
  obtain ⟨ρ', h1, x4, x5, x6, x7, x8, x9, h6, h7, h8⟩ := e_rows h h4 hb hs.2 h5
  have hR : PR b bd sts [sil b.ls.length] = R b sts (sil b.ls.length) := by
    rw [PR_eq h.pos (band_all hB) (m := b.ls.length) hs.stn, List.flatMap_singleton]
    intro p hp
    rw [List.mem_singleton.mp hp]
    exact ⟨by simp [sil], fun s _ => ch_sil, right_sil fun i => ch_sil⟩
  rw [hR] at h6 h7 h8
  subst h6
  have n1 := h.n1
  have hne : ∀ p ∈ R b sts (sil b.ls.length), p ≠ [] := fun p hp e => by
    have := h8 p hp
    rw [e] at this
    simp at this
    omega
  have i0 : ixD (encB b) (.int 0) = some (.tuple (b.ls.map tupI)) := rfl
  have m := mul_sil h.n1 h.n8
  have hb1 : ([.int (-1)] : List D).length ≤ sizeLine := big (by show 1 ≤ 5000; omega)
  have hb2 : ([tupI (sil b.ls.length)] : List D).length ≤ sizeLine := big (by show 1 ≤ 5000; omega)
  have es : enumD [tupN sts] = some (enumL (sts.map nI)) := by
    show some (enumL _) = _
    congr 2
    simp [nI]
  show fnD 10 (seqS _ (seqS (outG (appG enumD (consG (varG 1) nilG)) (forS (tupB 2 (consB (nmB 4) (consB (nmB 5) nilB))) bOut [])) _)) _ = _
  unfold fnD
  have hs3 : sortAO [.list ((R b sts (sil b.ls.length)).map tupI)] = some (.l ((srtT (R b sts (sil b.ls.length))).map tupI)) := sortA_rows hne
  have h1' : forS (tupB 2 (consB (nmB 4) (consB (nmB 5) nilB))) bOut [] (enumL (sts.map nI)) [some (.dat (encB b)), some (.dat (tupN sts)), some (.dat (.int 2000)), some (.dat (.list [tupI (sil b.ls.length)])), none, none, none, none, none, none] = _ := h1
  simp [tupD_ok hb1, lstO_ok hb2, i0, m, es, h1', hs3]
theorem e_packings {b : Bk} (h : Vb b) (h4 : L4 b) {sts : List Nat} (hs : Vs b sts) (h5 : sts.length ≤ 5) : f_packings [encB b, tupN sts] = .ok (.list ((srtT (R b sts (sil b.ls.length))).map tupI)) := by
  have e1 := e_check_stations h hs
  have e2 := e_packings_of h h4 hs h5
  unfold f_packings b_packings fnD
  simp [e1, e2]
end K01
/-! M14: with_stations. -/
namespace K01
open PySem PySem.Spec PyProof.Rows L2 DL BK

theorem foldP_new : ∀ (ps acc : List (Int × D)), ((acc ++ ps).map (·.1)).Nodup → (ps.map fun p => PyData.tuple [.int p.1, p.2]).foldl putQ (acc.map fun p => (PyData.int p.1, p.2)) = (acc ++ ps).map fun p => (PyData.int p.1, p.2)
  | [], acc, _ => by rw [List.append_nil]; rfl
  | p :: ps, acc, h => by
    rw [List.map_cons, List.foldl_cons]
    have e : putQ (acc.map fun p => (PyData.int p.1, p.2)) (.tuple [.int p.1, p.2]) = (acc ++ [p]).map fun p => (PyData.int p.1, p.2) := by
      show putP _ (.inl p.1) p.2 = _
      unfold putP
      have ea : ((acc.map fun p => (PyData.int p.1, p.2)).any fun q => decide (keyD q.1 = some (.inl p.1))) = false := by
        rw [List.any_map, List.any_eq_false]
        intro q hq hc
        have hc : q.1 = p.1 := by simpa [keyD] using hc
        rw [List.map_append, List.nodup_append] at h
        exact h.2.2 q.1 (List.mem_map.mpr ⟨q, hq, rfl⟩) p.1 (by simp) hc
      rw [if_neg (by rw [ea]; simp), List.map_append]
      rfl
    rw [e, foldP_new ps (acc ++ [p]) (by rw [List.append_assoc, List.singleton_append]; exact h), List.append_assoc, List.singleton_append]
/-- stations with their places -/
def plc (sts : List Nat) (k : Nat) : List (D × D) := (sts.zipIdx k).map fun x => (PyData.int (x.1 : Int), PyData.int (x.2 : Int))
theorem look_plc (s : Nat) : ∀ (sts : List Nat) (k : Nat), lookD (.inl (s : Int)) (plc sts k) = if s ∈ sts then some (.int ((k + sts.idxOf s : Nat) : Int)) else none
  | [], k => rfl
  | t :: sts, k => by
    unfold plc
    rw [List.zipIdx_cons, List.map_cons]
    unfold lookD
    by_cases e : t = s
    · subst e
      rw [if_pos (by rfl), if_pos List.mem_cons_self, List.idxOf_cons_self]
      rfl
    · rw [if_neg (by simp only [keyD, Option.some.injEq, Sum.inl.injEq]; omega)]
      show lookD _ (plc sts (k + 1)) = _
      rw [look_plc s sts (k + 1)]
      by_cases hm : s ∈ sts
      · rw [if_pos hm, if_pos (List.mem_cons_of_mem _ hm), List.idxOf_cons, show (t == s) = false by simpa using e, cond_false]
        congr 3
        omega
      · rw [if_neg hm, if_neg (by simp only [List.mem_cons, not_or]; exact ⟨Ne.symm e, hm⟩)]
theorem mark_plc (sts : List Nat) (k : Nat) : markD (plc sts k) = false := by
  cases sts <;> rfl
theorem in_plc (s : Nat) (sts : List Nat) : inTD (.int (s : Int)) (.dict (plc sts 0)) = some (.bool (decide (s ∈ sts))) := by
  show (if markD (plc sts 0) = true then none else (keyD (.int (s : Int))).map fun k => PyData.bool (lookD k (plc sts 0)).isSome) = _
  rw [mark_plc, if_neg (by simp)]
  show some (PyData.bool (lookD (.inl (s : Int)) (plc sts 0)).isSome) = _
  rw [look_plc]
  by_cases h : s ∈ sts <;> simp [h]
theorem get_plc {s : Nat} {sts : List Nat} (h : s ∈ sts) : dgetD (.dict (plc sts 0)) (.int (s : Int)) = some (.int (sts.idxOf s : Int)) := by
  show lookD (.inl (s : Int)) (plc sts 0) = _
  rw [look_plc, if_pos h, Nat.zero_add]
def eDict : Ev → Rs D := frzG (dcG1 (appG enumD (consG (varG 1) nilG)) (tupB 2 (consB (nmB 11) (consB (nmB 12) nilB))) (varG 12) (varG 11) [11, 12])
theorem e_dict {A : Option DL.E} {B C G : Option DL.E} {sts : List Nat} (hn : sts.Nodup) (h8 : sts.length ≤ 8) : eDict [A, some (.dat (tupN sts)), none, none, none, B, C, G, none, none, none, none, none, none, none] = .ok (.dict (plc sts 0)) := by
  have es : enumD [tupN sts] = some ((sts.zipIdx).map encE) := by
    rw [← enum_sts]
    show some (enumL _) = _
    congr 2
    simp [nI]
  have hm : mapR (pairB (tupB 2 (consB (nmB 11) (consB (nmB 12) nilB))) (varG 12) (varG 11) [A, some (.dat (tupN sts)), none, none, none, B, C, G, none, none, none, none, none, none, none]) ((sts.zipIdx).map encE) = .ok ((sts.zipIdx.map fun x => ((x.1 : Int), PyData.int (x.2 : Int))).map fun p => PyData.tuple [.int p.1, p.2]) := by
    rw [mapR_enc (enc := encE) (g := fun x : Nat × Nat => PyData.tuple [.int (x.1 : Int), .int (x.2 : Int)]) fun x _ => ?_, List.map_map]
    · rfl
    · simp [pairB, encE, keyD]
  have hf : foldP ((sts.zipIdx.map fun x => ((x.1 : Int), PyData.int (x.2 : Int))).map fun p => PyData.tuple [.int p.1, p.2]) = plc sts 0 := by
    have := foldP_new (sts.zipIdx.map fun x => ((x.1 : Int), PyData.int (x.2 : Int))) [] (by
      rw [List.nil_append, List.map_map]
      have : (sts.zipIdx.map ((fun x : Int × D => x.1) ∘ fun x : Nat × Nat => ((x.1 : Int), PyData.int (x.2 : Int)))) = (sts.zipIdx.map Prod.fst).map fun n : Nat => (n : Int) := by rw [List.map_map]; rfl
      rw [this, List.zipIdx_map_fst]
      refine List.pairwise_map.mpr (hn.imp fun {a b} x y => x (by omega)))
    rw [List.nil_append] at this
    unfold foldP
    rw [List.map_nil] at this
    rw [this]
    unfold plc
    rw [List.map_map]
    rfl
  unfold eDict dcG1
  simp only [frzG, appG, consG, nilG, varG, List.getElem?_cons_zero, List.getElem?_cons_succ, Rs.bind_ok, Rs.of_some, es, wipeE, setE, List.set_cons_zero, List.set_cons_succ, Option.bind_some, hm]
  unfold okO
  simp only
  rw [if_pos (by rw [List.length_map, List.length_map, List.length_zipIdx, sizeLine_eq]; omega), hf]
  rfl
/-- the book's clashes between the stations -/
def cPart (sts : List Nat) (c : Nat × Nat × List Int) : Option (Nat × Nat × List Int) := if c.1 ∈ sts ∧ c.2.1 ∈ sts then some (sts.idxOf c.1, sts.idxOf c.2.1, c.2.2) else none
def sPart (sts : List Nat) (s : Nat × Int × List Int) : Option (Nat × Int × List Int) := if s.1 ∈ sts then some (sts.idxOf s.1, s.2.1, sts.map (s.2.2.getD · 0)) else none
theorem part_eq (b : Bk) (sts : List Nat) : part b sts = ⟨sts.map (lst b), b.cl.filterMap (cPart sts), b.su.filterMap (sPart sts)⟩ := rfl
def eCla : Ev → Rs O := lcG (appG walkD (varG 6)) (tupB 3 (consB (nmB 13) (consB (nmB 8) (consB (nmB 14) nilB)))) (andT (boolT (opG inTD (varG 13) (varG 2))) (boolT (opG inTD (varG 8) (varG 2)))) (appG tupD (consG (opG dgetD (varG 2) (varG 13)) (consG (opG dgetD (varG 2) (varG 8)) (consG (varG 14) nilG)))) [13, 8, 14]
theorem e_cla {b : Bk} {sts : List Nat} {A B C G : Option DL.E} : eCla [A, B, some (.dat (.dict (plc sts 0))), none, none, C, some (.dat (.tuple (b.cl.map encC))), G, none, none, none, none, none, none, none] = .ok (.l ((b.cl.filterMap (cPart sts)).map encC)) := by
  unfold eCla lcG
  simp only [appG, varG, List.getElem?_cons_zero, List.getElem?_cons_succ, Rs.bind_ok, Rs.of_some, walkD, wipeE, setE, List.set_cons_zero, List.set_cons_succ, Option.bind_some]
  rw [compL_map (enc := encC) (h := fun c => (cPart sts c).map encC) fun c _ => ?_, Rs.bind_ok, List.map_filterMap]
  have hb : ∀ x y z : D, ([x, y, z] : List D).length ≤ sizeLine := fun x y z => big (by show 3 ≤ 5000; omega)
  unfold cPart
  by_cases h1 : c.1 ∈ sts
  · by_cases h2 : c.2.1 ∈ sts
    · simp [lcBody, encC, in_plc, get_plc h1, get_plc h2, h1, h2, tupD_ok (hb _ _ _)]
    · simp [lcBody, encC, in_plc, get_plc h1, h1, h2]
  · simp [lcBody, encC, in_plc, h1]
theorem gain_at {gs : List Int} {k : Nat} (h : k < gs.length) : (gs.map PyData.int)[k]? = some (.int (gs.getD k 0)) := by
  rw [List.getElem?_map, List.getElem?_eq_getElem h, List.getD_eq_getElem?_getD, List.getElem?_eq_getElem h]
  rfl
def bSum : Ev → Out := ifS (boolT (opG inTD (varG 8) (varG 2))) (outM (mthM "list" 4 appendO (consM (lift (appG tupD (consG (opG dgetD (varG 2) (varG 8)) (consG (varG 9) (consG (appG tupleD (consG (frzG (lcG (appG walkD (varG 1)) (nmB 12) (cG true) (opG ixD (varG 10) (varG 12)) [12])) nilG)) nilG))))) nilM)) fun _ ρ => .nx ρ) (fun ρ => .nx ρ)
theorem e_suml {b : Bk} (h : Vb b) {sts : List Nat} (hs : ∀ s ∈ sts, s < b.ls.length) {A C D5 D6 D7 : DL.E} :
    ∃ x y z : Option D, forS (tupB 3 (consB (nmB 8) (consB (nmB 9) (consB (nmB 10) nilB)))) bSum [] (b.su.map encS) [some A, some (.dat (tupN sts)), some (.dat (.dict (plc sts 0))), some C, some (.own false (.l [])), some D5, some D6, some D7, none, none, none, none, none, none, none] =
      .nx [some A, some (.dat (tupN sts)), some (.dat (.dict (plc sts 0))), some C, some (.own false (.l ((b.su.filterMap (sPart sts)).map encS))), some D5, some D6, some D7, x.map E.dat, y.map E.dat, z.map E.dat, none, none, none, none] := by
  have su8 := h.su_len
  obtain ⟨ρ', h1, h2, x, y, z, h3⟩ := forS_ix (enc := encS) (b := tupB 3 (consB (nmB 8) (consB (nmB 9) (consB (nmB 10) nilB)))) (body := bSum) (R := fun k (a : List (Nat × Int × List Int)) ρ => a.length ≤ k ∧ ∃ x y z : Option D, ρ = [some A, some (.dat (tupN sts)), some (.dat (.dict (plc sts 0))), some C, some (.own false (.l (a.map encS))), some D5, some D6, some D7, x.map E.dat, y.map E.dat, z.map E.dat, none, none, none, none])
    (step := fun a s => psh a (sPart sts s)) (xs := b.su) (k := 0) (s := []) (ρ := [some A, some (.dat (tupN sts)), some (.dat (.dict (plc sts 0))), some C, some (.own false (.l [])), some D5, some D6, some D7, none, none, none, none, none, none, none]) ⟨Nat.zero_le _, none, none, none, rfl⟩ fun i a ρ s hc ⟨hk, x, y, z, hρ⟩ => by
      subst hρ
      obtain ⟨hil, hm⟩ := List.getElem?_eq_some_iff.mp hc
      obtain ⟨s1, s2, s3, s4, s5, s6⟩ := h.s s (List.mem_of_getElem? hc)
      have hb : ∀ x y z : D, ([x, y, z] : List D).length ≤ sizeLine := fun x y z => big (by show 3 ≤ 5000; omega)
      have ha : (a.map encS).length < sizeLine := by rw [List.length_map, sizeLine_eq]; omega
      have hl : lcG (appG walkD (varG 1)) (nmB 12) (cG true) (opG ixD (varG 10) (varG 12)) [12] [some A, some (.dat (tupN sts)), some (.dat (.dict (plc sts 0))), some C, some (.own false (.l (a.map encS))), some D5, some D6, some D7, some (.dat (.int (s.1 : Int))), some (.dat (.int s.2.1)), some (.dat (tupI s.2.2)), none, none, none, none] = .ok (.l ((sts.map (s.2.2.getD · 0)).map PyData.int)) := by
        unfold lcG
        simp only [appG, varG, List.getElem?_cons_zero, List.getElem?_cons_succ, Rs.bind_ok, Rs.of_some, walkD, wipeE, setE, List.set_cons_zero, List.set_cons_succ, Option.bind_some]
        rw [List.map_map, compL_all (enc := PyData.int ∘ fun (n : Nat) => (n : Int)) (h := fun k => PyData.int (s.2.2.getD k 0)) fun k hk => ?_, Rs.bind_ok, List.map_map]
        · rfl
        · have := gain_at (gs := s.2.2) (k := k) (by rw [s4]; exact hs k hk)
          simp [-List.getElem?_map, lcBody, this]
      refine ⟨[some A, some (.dat (tupN sts)), some (.dat (.dict (plc sts 0))), some C, some (.own false (.l (a.map encS))), some D5, some D6, some D7, some (.dat (.int (s.1 : Int))), some (.dat (.int s.2.1)), some (.dat (tupI s.2.2)), none, none, none, none], [some A, some (.dat (tupN sts)), some (.dat (.dict (plc sts 0))), some C, some (.own false (.l ((psh a (sPart sts s)).map encS))), some D5, some D6, some D7, some (.dat (.int (s.1 : Int))), some (.dat (.int s.2.1)), some (.dat (tupI s.2.2)), none, none, none, none], ?_, .inl ?_, ?_, some (.int (s.1 : Int)), some (.int s.2.1), some (tupI s.2.2), rfl⟩
      · cases x <;> cases y <;> cases z <;> simp [encS]
      · unfold bSum sPart
        by_cases g : s.1 ∈ sts
        · simp [-List.map_map, in_plc, get_plc g, g, hl, tupD_ok (hb _ _ _), psh, encS]
          rw [if_pos (by simpa using ha)]
        · simp [in_plc, g, psh]
      · unfold sPart
        split
        · show (a ++ [_]).length ≤ _
          rw [List.length_append, List.length_singleton]
          omega
        · exact Nat.le_succ_of_le hk
  rw [fold_filter, List.nil_append] at h3
  subst h3
  exact ⟨x, y, z, h1⟩
theorem e_lsts {b : Bk} {sts : List Nat} (hs : ∀ s ∈ sts, s < b.ls.length) {A C D4 E5 D6 D7 D8 D9 F10 : Option DL.E} : lcG (appG walkD (varG 1)) (nmB 12) (cG true) (opG ixD (varG 5) (varG 12)) [12] [A, some (.dat (tupN sts)), C, D4, E5, some (.dat (.tuple (b.ls.map tupI))), D6, D7, D8, D9, F10, none, none, none, none] = .ok (.l ((sts.map (lst b)).map tupI)) := by
  unfold lcG
  simp only [appG, varG, List.getElem?_cons_zero, List.getElem?_cons_succ, Rs.bind_ok, Rs.of_some, walkD, wipeE, setE, List.set_cons_zero, List.set_cons_succ, Option.bind_some]
  rw [List.map_map, compL_all (enc := PyData.int ∘ fun (n : Nat) => (n : Int)) (h := fun k => tupI (lst b k)) fun k hk => ?_, Rs.bind_ok, List.map_map]
  · rfl
  · have := il_lst (hs k hk)
    simp [-List.getElem?_map, lcBody, this]
theorem e_with {b : Bk} (h : Vb b) {sts : List Nat} (hs : Vs b sts) (hne : sts ≠ []) (h8 : sts.length ≤ 8) : f_with_stations [encB b, tupN sts] = .ok (encB (part b sts)) := by
  have e1 := e_check_stations h hs
  have t1 : truD (tupN sts) = some true := by
    cases sts with
    | nil => exact absurd rfl hne
    | cons s ss => rfl
  have e2 : eDict [some (.dat (encB b)), some (.dat (tupN sts)), none, none, none, some (.dat (.tuple (b.ls.map tupI))), some (.dat (.tuple (b.cl.map encC))), some (.dat (.tuple (b.su.map encS))), none, none, none, none, none, none, none] = _ := e_dict hs.stn.1 h8
  have e3 : eCla [some (.dat (encB b)), some (.dat (tupN sts)), some (.dat (.dict (plc sts 0))), none, none, some (.dat (.tuple (b.ls.map tupI))), some (.dat (.tuple (b.cl.map encC))), some (.dat (.tuple (b.su.map encS))), none, none, none, none, none, none, none] = _ := e_cla
  obtain ⟨x, y, z, e4⟩ := e_suml h hs.2 (A := .dat (encB b)) (C := .dat (.list ((b.cl.filterMap (cPart sts)).map encC))) (D5 := .dat (.tuple (b.ls.map tupI))) (D6 := .dat (.tuple (b.cl.map encC))) (D7 := .dat (.tuple (b.su.map encS)))
  have e5 := e_lsts hs.2 (A := some (.dat (encB b))) (C := some (.dat (.dict (plc sts 0)))) (D4 := some (.dat (.list ((b.cl.filterMap (cPart sts)).map encC)))) (E5 := some (.own false (.l ((b.su.filterMap (sPart sts)).map encS)))) (D6 := some (.dat (.tuple (b.cl.map encC)))) (D7 := some (.dat (.tuple (b.su.map encS)))) (D8 := x.map E.dat) (D9 := y.map E.dat) (F10 := z.map E.dat)
  have hb0 : ([] : List D).length ≤ sizeLine := Nat.zero_le _
  have hb : ∀ x y z : D, ([x, y, z] : List D).length ≤ sizeLine := fun x y z => big (by show 3 ≤ 5000; omega)
  have u : f_with_stations = fnD 15 (seqS (outG (callG 2 f_check_stations [] (consG (varG 0) (consG (varG 1) nilG))) fun _ ρ => .nx ρ)
    (seqS (ifS (notT (truT (varG 1))) (fun _ => .bad) (fun ρ => .nx ρ))
    (seqS (outG (varG 0) fun d ρ => optO ((tupB 3 (consB (nmB 5) (consB (nmB 6) (consB (nmB 7) nilB)))) d ρ) .nx)
    (seqS (outG eDict (setS 2))
    (seqS (outG eCla fun o => setS 3 o.dat)
    (seqS (outM (lift (appG lstO nilG)) (setOS 4))
    (seqS (outG (appG walkD (varG 7)) (forS (tupB 3 (consB (nmB 8) (consB (nmB 9) (consB (nmB 10) nilB)))) bSum []))
    (outM (appM tupD (consM (lift (appG tupleD (consG (frzG (lcG (appG walkD (varG 1)) (nmB 12) (cG true) (opG ixD (varG 5) (varG 12)) [12])) nilG))) (consM (lift (appG tupleD (consG (varG 3) nilG))) (consM (appM tupleD (consM (frzV 4) nilM)) nilM)))) fun d ρ => .rt d ρ)))))))) := rfl
  have eb : encB b = .tuple [.tuple (b.ls.map tupI), .tuple (b.cl.map encC), .tuple (b.su.map encS)] := rfl
  rw [eb] at e1 e2 e3 e4 e5
  rw [u, part_eq, eb]
  unfold fnD
  simp [-List.map_map, -truD, e1, t1, e2, e3, lstO_ok hb0, e4, e5, tupD_ok (hb _ _ _), encB]
end K01
/-! M15: the part of a book is a book; its packings. -/
namespace K01
open PySem PySem.Spec PyProof.Rows L2 DL BK

theorem idx_lt {sts : List Nat} (h : sts.Pairwise (· < ·)) {s t : Nat} (hs : s ∈ sts) (ht : t ∈ sts) (hst : s < t) : sts.idxOf s < sts.idxOf t := by
  have h1 := List.idxOf_lt_length_iff.mpr hs
  have h2 := List.idxOf_lt_length_iff.mpr ht
  have e1 : sts[sts.idxOf s] = s := List.getElem_idxOf h1
  have e2 : sts[sts.idxOf t] = t := List.getElem_idxOf h2
  rcases Nat.lt_trichotomy (sts.idxOf s) (sts.idxOf t) with g | g | g
  · exact g
  · simp only [g] at e1
    omega
  · have := List.pairwise_iff_getElem.mp h _ _ h2 h1 g
    omega
theorem getD_mem {gs : List Int} {k : Nat} (h : k < gs.length) : gs.getD k 0 ∈ gs := by
  rw [List.getD_eq_getElem?_getD, List.getElem?_eq_getElem h]
  exact List.getElem_mem h
theorem Vb.part {b : Bk} (h : Vb b) {sts : List Nat} (hs : Vs b sts) (hne : sts ≠ []) (h8 : sts.length ≤ 8) : Vb (part b sts) := by
  have hl : (BK.part b sts).ls.length = sts.length := by rw [part_eq]; simp
  have hc : ∀ c c', cPart sts c = some c' → c.1 ∈ sts ∧ c.2.1 ∈ sts ∧ c' = (sts.idxOf c.1, sts.idxOf c.2.1, c.2.2) := fun c c' e => by
    unfold cPart at e
    split at e
    · rename_i g
      exact ⟨g.1, g.2, (Option.some.inj e).symm⟩
    · cases e
  have hs' : ∀ s s', sPart sts s = some s' → s.1 ∈ sts ∧ s' = (sts.idxOf s.1, s.2.1, sts.map (s.2.2.getD · 0)) := fun s s' e => by
    unfold sPart at e
    split at e
    · rename_i g
      exact ⟨g, (Option.some.inj e).symm⟩
    · cases e
  refine ⟨?_, ?_, fun l hm => ?_, fun c hm => ?_, ?_, fun s hm => ?_, ?_⟩
  · rw [hl]
    exact List.length_pos_iff.mpr hne
  · rw [hl]
    exact h8
  · rw [part_eq] at hm
    obtain ⟨s, h1, rfl⟩ := List.mem_map.mp hm
    exact h.l _ (lst_mem (hs.2 s h1))
  · rw [hl]
    rw [part_eq] at hm
    obtain ⟨c0, h1, h2⟩ := List.mem_filterMap.mp hm
    obtain ⟨m1, m2, rfl⟩ := hc _ _ h2
    obtain ⟨c1, c2, c3⟩ := h.c c0 h1
    exact ⟨idx_lt hs.1 m1 m2 c1, List.idxOf_lt_length_iff.mpr m2, c3⟩
  · rw [part_eq]
    refine List.Pairwise.filterMap (cPart sts) (fun a a' r x hx y hy => ?_) h.ca
    obtain ⟨m1, m2, rfl⟩ := hc _ _ hx
    obtain ⟨n1, n2, rfl⟩ := hc _ _ hy
    rcases r with r | ⟨r1, r2⟩
    · exact .inl (idx_lt hs.1 m1 n1 r)
    · exact .inr ⟨by simp only; rw [r1], idx_lt hs.1 m2 n2 r2⟩
  · rw [hl]
    rw [part_eq] at hm
    obtain ⟨s0, h1, h2⟩ := List.mem_filterMap.mp hm
    obtain ⟨m1, rfl⟩ := hs' _ _ h2
    obtain ⟨s1, s2, s3, s4, s5, s6⟩ := h.s s0 h1
    have hi := List.idxOf_lt_length_iff.mpr m1
    refine ⟨hi, s2, s3, by simp, ?_, fun g hg => ?_⟩
    · show (sts.map _)[_]? = _
      rw [List.getElem?_map, List.getElem?_eq_getElem hi, List.getElem_idxOf]
      show some (s0.2.2.getD s0.1 0) = _
      rw [List.getD_eq_getElem?_getD, s5]
      rfl
    · obtain ⟨k, hk, rfl⟩ := List.mem_map.mp hg
      exact s6 _ (getD_mem (by rw [s4]; exact hs.2 k hk))
  · rw [part_eq]
    refine List.Pairwise.filterMap (sPart sts) (fun a a' r x hx y hy => ?_) h.sa
    obtain ⟨m1, rfl⟩ := hs' _ _ hx
    obtain ⟨n1, rfl⟩ := hs' _ _ hy
    exact idx_lt hs.1 m1 n1 r
theorem L4.part {b : Bk} (h4 : L4 b) {sts : List Nat} : L4 (BK.part b sts) := fun l hm => by
  rw [part_eq] at hm
  obtain ⟨s, h1, rfl⟩ := List.mem_map.mp hm
  exact lst4 h4 s
theorem Vs_range {b : Bk} {sts : List Nat} : Vs (BK.part b sts) (List.range sts.length) := ⟨List.pairwise_lt_range, fun s hs => by rw [part_eq]; simpa using hs⟩
/-- the packings of the part, from those of the book -/
theorem e_part_packings {b : Bk} (h : Vb b) (h4 : L4 b) {sts : List Nat} (hs : Vs b sts) (hne : sts ≠ []) (h5 : sts.length ≤ 5) :
    f_packings [encB (BK.part b sts), tupN (List.range sts.length)] = .ok (.list (((srtT (R b sts (sil b.ls.length))).map (proj sts)).map tupI)) := by
  rw [e_packings (h.part hs hne (by omega)) h4.part Vs_range (by rw [List.length_range]; exact h5)]
  have hl : (BK.part b sts).ls.length = sts.length := by rw [part_eq]; simp
  rw [hl, R_part h.len hs.1 hs.2, srtT_map (f := proj sts) fun p hp q hq => R_lex hs.1 hs.2 p hp q hq]
end K01
/-! M16: the law's own faults. -/
namespace K01
open PySem PySem.Spec PyProof.Rows L2 DL BK

theorem rng1 {n : Nat} (h : n ≤ 5000) : range1D [.int (n : Int)] = some ((List.range n).map nI) := by
  have e : rgOk 0 (n : Int) = true := by
    unfold rgOk
    have := big h
    simp only [Bool.and_eq_true, decide_eq_true_eq]
    exact ⟨⟨by decide, by omega⟩, by simpa using this⟩
  show (if rgOk 0 (n : Int) = true then some (rangeL 0 (n : Int).toNat) else none) = _
  rw [if_pos e]
  unfold rangeL
  rw [Int.toNat_natCast]
  exact congrArg some (List.map_congr_left fun k _ => congrArg PyData.int (Int.zero_add _))
theorem fm_sum (P : Nat → Bool) (f : Nat → Int) : ∀ l : List Nat, (l.filterMap fun k => if P k = true then some (f k) else none).sum = (l.map fun k => if P k = true then f k else 0).sum
  | [] => rfl
  | k :: l => by
    rw [List.filterMap_cons, List.map_cons, List.sum_cons, ← fm_sum P f l]
    by_cases h : P k = true
    · simp [h]
    · simp [h]
theorem lfA {b : Bk} {p : List Int} (h : Vb b) (hp : p.length = b.ls.length) (hn : ∀ i, -1 ≤ ch p i) : lcM (lift (appG range1D (consG (appG lenD (consG (varG 1) nilG)) nilG))) (nmB 11) (lift (andT (boolT (opG geD (opG ixD (varG 1) (varG 11)) (cG (.int 0)))) (boolT (opG ninTD (opG ixD (varG 1) (varG 11)) (opG ixD (varG 3) (varG 11)))))) (lift (appG tupD (consG (cG (.str "list")) (consG (varG 11) nilG)))) [11]
      [some (.dat (encB b)), some (.dat (tupI p)), none, some (.dat (.tuple (b.ls.map tupI))), some (.dat (.tuple (b.cl.map encC))), some (.dat (.tuple (b.su.map encS))), none, none, none, none, none, none] = .ok (.l ((List.range p.length).filterMap (fA b p)), [some (.dat (encB b)), some (.dat (tupI p)), none, some (.dat (.tuple (b.ls.map tupI))), some (.dat (.tuple (b.cl.map encC))), some (.dat (.tuple (b.su.map encS))), none, none, none, none, none, none]) := by
  have n8 := h.n8
  have c64 := h.cl_len
  have s8 := h.su_len
  have hr : range1D [.int (p.length : Int)] = some ((List.range p.length).map nI) := rng1 (by omega)
  have ge0 : ∀ i, decide (0 ≤ ch p i) = !decide (ch p i = -1) := fun i => by
    have := hn i
    by_cases e : ch p i = -1
    · simp [e]
    · simp [e]; omega
  have hlen : ∀ {q : List Int}, lenD [tupI q] = some (.int (q.length : Int)) := fun {q} => by simp
  have hb2 : ∀ x y : D, ([x, y] : List D).length ≤ sizeLine := fun x y => big (by show 2 ≤ 5000; omega)
  have hb3 : ∀ x y z : D, ([x, y, z] : List D).length ≤ sizeLine := fun x y z => big (by show 3 ≤ 5000; omega)
  refine lcM_lift (enc := nI) (xs := List.range p.length) (ρ1 := [some (.dat (encB b)), some (.dat (tupI p)), none, some (.dat (.tuple (b.ls.map tupI))), some (.dat (.tuple (b.cl.map encC))), some (.dat (.tuple (b.su.map encS))), none, none, none, none, none, none]) ?_ rfl fun i hi => ?_
  · simp [-List.map_map, hr]
  · have hi : i < p.length := List.mem_range.mp hi
    have il := il_lst (b := b) (s := i) (by omega)
    have ci := chD hi
    unfold lcBodyM fA
    by_cases h1 : ch p i = -1
    · simp [-List.getElem?_map, nI, ci, ge0, h1, wipeM, wipeE]
    · by_cases h2 : ch p i ∈ lst b i
      · simp [-List.getElem?_map, nI, ci, ge0, h1, h2, il, wipeM, wipeE]
      · simp [-List.getElem?_map, nI, ci, ge0, h1, h2, il, wipeM, wipeE, tupD_ok (hb2 _ _), fS]
theorem lfB {b : Bk} {p : List Int} (h : Vb b) (hp : p.length = b.ls.length) (hn : ∀ i, -1 ≤ ch p i) : ∃ x y z : Option D, forS (tupB 3 (consB (nmB 6) (consB (nmB 7) (consB (nmB 8) nilB)))) (ifS (andT (boolT (opG geD (opG ixD (varG 1) (varG 6)) (cG (.int 0)))) (andT (boolT (opG geD (opG ixD (varG 1) (varG 7)) (cG (.int 0)))) (boolT (opG inTD (appG absD (consG (opG subD (opG ixD (varG 1) (varG 6)) (opG ixD (varG 1) (varG 7))) nilG)) (varG 8))))) (outM (mthM "list" 2 appendO (consM (lift (appG tupD (consG (cG (.str "clash")) (consG (varG 6) (consG (varG 7) nilG))))) nilM)) fun _ ρ => .nx ρ) (fun ρ => .nx ρ)) [] (b.cl.map encC) [some (.dat (encB b)), some (.dat (tupI p)), some (.own false (.l ((List.range p.length).filterMap (fA b p)))), some (.dat (.tuple (b.ls.map tupI))), some (.dat (.tuple (b.cl.map encC))), some (.dat (.tuple (b.su.map encS))), none, none, none, none, none, none] = .nx [some (.dat (encB b)), some (.dat (tupI p)), some (.own false (.l ((List.range p.length).filterMap (fA b p) ++ b.cl.filterMap (fB p)))), some (.dat (.tuple (b.ls.map tupI))), some (.dat (.tuple (b.cl.map encC))), some (.dat (.tuple (b.su.map encS))), x.map E.dat, y.map E.dat, z.map E.dat, none, none, none] ∧ ((List.range p.length).filterMap (fA b p) ++ b.cl.filterMap (fB p)).length ≤ 80 := by
  have n8 := h.n8
  have c64 := h.cl_len
  have s8 := h.su_len
  have hr : range1D [.int (p.length : Int)] = some ((List.range p.length).map nI) := rng1 (by omega)
  have ge0 : ∀ i, decide (0 ≤ ch p i) = !decide (ch p i = -1) := fun i => by
    have := hn i
    by_cases e : ch p i = -1
    · simp [e]
    · simp [e]; omega
  have hlen : ∀ {q : List Int}, lenD [tupI q] = some (.int (q.length : Int)) := fun {q} => by simp
  have hb2 : ∀ x y : D, ([x, y] : List D).length ≤ sizeLine := fun x y => big (by show 2 ≤ 5000; omega)
  have hb3 : ∀ x y z : D, ([x, y, z] : List D).length ≤ sizeLine := fun x y z => big (by show 3 ≤ 5000; omega)
  -- the clashes
  have hB := forS_ix (enc := encC) (b := tupB 3 (consB (nmB 6) (consB (nmB 7) (consB (nmB 8) nilB))))
    (body := ifS (andT (boolT (opG geD (opG ixD (varG 1) (varG 6)) (cG (.int 0)))) (andT (boolT (opG geD (opG ixD (varG 1) (varG 7)) (cG (.int 0)))) (boolT (opG inTD (appG absD (consG (opG subD (opG ixD (varG 1) (varG 6)) (opG ixD (varG 1) (varG 7))) nilG)) (varG 8))))) (outM (mthM "list" 2 appendO (consM (lift (appG tupD (consG (cG (.str "clash")) (consG (varG 6) (consG (varG 7) nilG))))) nilM)) fun _ ρ => .nx ρ) (fun ρ => .nx ρ))
    (R := fun k (fs : List D) ρ => fs.length ≤ 8 + k ∧ ∃ x y z : Option D, ρ = [some (.dat (encB b)), some (.dat (tupI p)), some (.own false (.l fs)), some (.dat (.tuple (b.ls.map tupI))), some (.dat (.tuple (b.cl.map encC))), some (.dat (.tuple (b.su.map encS))), x.map E.dat, y.map E.dat, z.map E.dat, none, none, none])
    (step := fun fs c => psh fs (fB p c)) (xs := b.cl) (k := 0) (s := (List.range p.length).filterMap (fA b p))
    (ρ := [some (.dat (encB b)), some (.dat (tupI p)), some (.own false (.l ((List.range p.length).filterMap (fA b p)))), some (.dat (.tuple (b.ls.map tupI))), some (.dat (.tuple (b.cl.map encC))), some (.dat (.tuple (b.su.map encS))), none, none, none, none, none, none])
    ⟨Nat.le_trans (List.length_filterMap_le _ _) (by rw [List.length_range]; omega), none, none, none, rfl⟩ fun i fs ρ c hc ⟨hk, x, y, z, hρ⟩ => by
      subst hρ
      have hil := (List.getElem?_eq_some_iff.mp hc).1
      obtain ⟨c1, c2, _⟩ := h.c c (List.mem_of_getElem? hc)
      have i1 := chD (p := p) (i := c.1) (by omega)
      have i2 := chD (p := p) (i := c.2.1) (by omega)
      have hfs : fs.length < sizeLine := by rw [sizeLine_eq]; omega
      refine ⟨[some (.dat (encB b)), some (.dat (tupI p)), some (.own false (.l fs)), some (.dat (.tuple (b.ls.map tupI))), some (.dat (.tuple (b.cl.map encC))), some (.dat (.tuple (b.su.map encS))), some (.dat (.int (c.1 : Int))), some (.dat (.int (c.2.1 : Int))), some (.dat (tupI c.2.2)), none, none, none],
        [some (.dat (encB b)), some (.dat (tupI p)), some (.own false (.l (psh fs (fB p c)))), some (.dat (.tuple (b.ls.map tupI))), some (.dat (.tuple (b.cl.map encC))), some (.dat (.tuple (b.su.map encS))), some (.dat (.int (c.1 : Int))), some (.dat (.int (c.2.1 : Int))), some (.dat (tupI c.2.2)), none, none, none], by cases x <;> cases y <;> cases z <;> simp [encC], .inl ?_, ?_, some (.int (c.1 : Int)), some (.int (c.2.1 : Int)), some (tupI c.2.2), rfl⟩
      · unfold fB okC
        by_cases h1 : ch p c.1 = -1
        · simp [-List.getElem?_map, i1, ge0, h1, psh]
        · by_cases h2 : ch p c.2.1 = -1
          · simp [-List.getElem?_map, i1, i2, ge0, h1, h2, psh]
          · by_cases h3 : absI (ch p c.1 - ch p c.2.1) ∈ c.2.2
            · have h3' := h3
              unfold absI at h3'
              simp [-List.getElem?_map, i1, i2, ge0, h1, h2, h3, h3', tupD_ok (hb3 _ _ _), hfs, psh, fS, nI]
            · have h3' := h3
              unfold absI at h3'
              simp [-List.getElem?_map, i1, i2, ge0, h1, h2, h3, h3', psh]
      · cases fB p c with
        | none => exact Nat.le_succ_of_le hk
        | some y =>
          show (fs ++ [y]).length ≤ _
          rw [List.length_append, List.length_singleton]
          omega
  obtain ⟨ρ1, hB1, hB2, x, y, z, hB3⟩ := hB
  rw [fold_filter] at hB2 hB3
  subst hB3
  exact ⟨x, y, z, hB1, by omega⟩
theorem lfC {b : Bk} {p : List Int} (h : Vb b) (hp : p.length = b.ls.length) (hn : ∀ i, -1 ≤ ch p i) {x y z : Option D} (h80 : ((List.range p.length).filterMap (fA b p) ++ b.cl.filterMap (fB p)).length ≤ 80) : ∃ y' u v : Option D, forS (tupB 3 (consB (nmB 7) (consB (nmB 9) (consB (nmB 10) nilB)))) (ifS (andT (boolT (opG geD (opG ixD (varG 1) (varG 7)) (cG (.int 0)))) (boolT (opG gtD (appG sumD (consG (frzG (lcG (appG range1D (consG (appG lenD (consG (varG 1) nilG)) nilG)) (nmB 11) (boolT (opG eqD (opG ixD (varG 1) (varG 11)) (opG ixD (varG 1) (varG 7)))) (opG ixD (varG 10) (varG 11)) [11])) nilG)) (varG 9)))) (outM (mthM "list" 2 appendO (consM (lift (appG tupD (consG (cG (.str "sum")) (consG (varG 7) nilG)))) nilM)) fun _ ρ => .nx ρ) (fun ρ => .nx ρ)) [] (b.su.map encS) [some (.dat (encB b)), some (.dat (tupI p)), some (.own false (.l ((List.range p.length).filterMap (fA b p) ++ b.cl.filterMap (fB p)))), some (.dat (.tuple (b.ls.map tupI))), some (.dat (.tuple (b.cl.map encC))), some (.dat (.tuple (b.su.map encS))), x.map E.dat, y.map E.dat, z.map E.dat, none, none, none] = .nx [some (.dat (encB b)), some (.dat (tupI p)), some (.own false (.l ((List.range p.length).filterMap (fA b p) ++ b.cl.filterMap (fB p) ++ b.su.filterMap (fC p)))), some (.dat (.tuple (b.ls.map tupI))), some (.dat (.tuple (b.cl.map encC))), some (.dat (.tuple (b.su.map encS))), x.map E.dat, y'.map E.dat, z.map E.dat, u.map E.dat, v.map E.dat, none] := by
  have n8 := h.n8
  have c64 := h.cl_len
  have s8 := h.su_len
  have hr : range1D [.int (p.length : Int)] = some ((List.range p.length).map nI) := rng1 (by omega)
  have ge0 : ∀ i, decide (0 ≤ ch p i) = !decide (ch p i = -1) := fun i => by
    have := hn i
    by_cases e : ch p i = -1
    · simp [e]
    · simp [e]; omega
  have hlen : ∀ {q : List Int}, lenD [tupI q] = some (.int (q.length : Int)) := fun {q} => by simp
  have hb2 : ∀ x y : D, ([x, y] : List D).length ≤ sizeLine := fun x y => big (by show 2 ≤ 5000; omega)
  have hb3 : ∀ x y z : D, ([x, y, z] : List D).length ≤ sizeLine := fun x y z => big (by show 3 ≤ 5000; omega)
  -- the sums
  have hC := forS_ix (enc := encS) (b := tupB 3 (consB (nmB 7) (consB (nmB 9) (consB (nmB 10) nilB))))
    (body := ifS (andT (boolT (opG geD (opG ixD (varG 1) (varG 7)) (cG (.int 0)))) (boolT (opG gtD (appG sumD (consG (frzG (lcG (appG range1D (consG (appG lenD (consG (varG 1) nilG)) nilG)) (nmB 11) (boolT (opG eqD (opG ixD (varG 1) (varG 11)) (opG ixD (varG 1) (varG 7)))) (opG ixD (varG 10) (varG 11)) [11])) nilG)) (varG 9)))) (outM (mthM "list" 2 appendO (consM (lift (appG tupD (consG (cG (.str "sum")) (consG (varG 7) nilG)))) nilM)) fun _ ρ => .nx ρ) (fun ρ => .nx ρ))
    (R := fun k (fs : List D) ρ => fs.length ≤ 80 + k ∧ ∃ y u v : Option D, ρ = [some (.dat (encB b)), some (.dat (tupI p)), some (.own false (.l fs)), some (.dat (.tuple (b.ls.map tupI))), some (.dat (.tuple (b.cl.map encC))), some (.dat (.tuple (b.su.map encS))), x.map E.dat, y.map E.dat, z.map E.dat, u.map E.dat, v.map E.dat, none])
    (step := fun fs c => psh fs (fC p c)) (xs := b.su) (k := 0) (s := (List.range p.length).filterMap (fA b p) ++ b.cl.filterMap (fB p))
    (ρ := [some (.dat (encB b)), some (.dat (tupI p)), some (.own false (.l ((List.range p.length).filterMap (fA b p) ++ b.cl.filterMap (fB p)))), some (.dat (.tuple (b.ls.map tupI))), some (.dat (.tuple (b.cl.map encC))), some (.dat (.tuple (b.su.map encS))), x.map E.dat, y.map E.dat, z.map E.dat, none, none, none])
    ⟨h80, y, none, none, rfl⟩ fun i fs ρ s hc ⟨hk, y, u, v, hρ⟩ => by
      subst hρ
      have hil := (List.getElem?_eq_some_iff.mp hc).1
      obtain ⟨s1, s2, s3, s4, s5, s6⟩ := h.s s (List.mem_of_getElem? hc)
      have i1 := chD (p := p) (i := s.1) (by omega)
      have hfs : fs.length < sizeLine := by rw [sizeLine_eq]; omega
      have hl : lcG (appG range1D (consG (appG lenD (consG (varG 1) nilG)) nilG)) (nmB 11) (boolT (opG eqD (opG ixD (varG 1) (varG 11)) (opG ixD (varG 1) (varG 7)))) (opG ixD (varG 10) (varG 11)) [11] [some (.dat (encB b)), some (.dat (tupI p)), some (.own false (.l fs)), some (.dat (.tuple (b.ls.map tupI))), some (.dat (.tuple (b.cl.map encC))), some (.dat (.tuple (b.su.map encS))), x.map E.dat, some (.dat (.int (s.1 : Int))), z.map E.dat, some (.dat (.int s.2.1)), some (.dat (tupI s.2.2)), none] =
          .ok (.l (((List.range p.length).filterMap fun k => if decide (ch p k = ch p s.1) = true then some (s.2.2.getD k 0) else none).map PyData.int)) := by
        unfold lcG
        simp only [appG, consG, nilG, varG, List.getElem?_cons_zero, List.getElem?_cons_succ, Rs.bind_ok, Rs.of_some, hlen, hr, wipeE, setE, List.set_cons_zero, List.set_cons_succ, Option.bind_some]
        rw [compL_map (enc := nI) (h := fun k => (if decide (ch p k = ch p s.1) = true then some (s.2.2.getD k 0) else none).map PyData.int) fun k hk => ?_, Rs.bind_ok, List.map_filterMap]
        have hk : k < p.length := List.mem_range.mp hk
        have e1 := chD hk
        have e2 := gain_at (gs := s.2.2) (k := k) (by omega)
        by_cases g : ch p k = ch p s.1
        · simp [-List.getElem?_map, lcBody, nI, i1, e1, e2, g]
        · simp [-List.getElem?_map, lcBody, nI, i1, e1, g]
      have hsum : ((List.range p.length).filterMap fun k => if decide (ch p k = ch p s.1) = true then some (s.2.2.getD k 0) else none).sum = load s.2.2 p (ch p s.1) := by
        rw [fm_sum, load_range (by omega)]
        refine congrArg List.sum (List.map_congr_left fun k _ => ?_)
        by_cases g : ch p k = ch p s.1
        · rw [if_pos (decide_eq_true g), if_pos g]
        · rw [if_neg (by rw [decide_eq_false g]; simp), if_neg g]
      have hS := sumD_map ((List.range p.length).filterMap fun k => if decide (ch p k = ch p s.1) = true then some (s.2.2.getD k 0) else none)
      rw [hsum] at hS
      refine ⟨[some (.dat (encB b)), some (.dat (tupI p)), some (.own false (.l fs)), some (.dat (.tuple (b.ls.map tupI))), some (.dat (.tuple (b.cl.map encC))), some (.dat (.tuple (b.su.map encS))), x.map E.dat, some (.dat (.int (s.1 : Int))), z.map E.dat, some (.dat (.int s.2.1)), some (.dat (tupI s.2.2)), none],
        [some (.dat (encB b)), some (.dat (tupI p)), some (.own false (.l (psh fs (fC p s)))), some (.dat (.tuple (b.ls.map tupI))), some (.dat (.tuple (b.cl.map encC))), some (.dat (.tuple (b.su.map encS))), x.map E.dat, some (.dat (.int (s.1 : Int))), z.map E.dat, some (.dat (.int s.2.1)), some (.dat (tupI s.2.2)), none], by cases y <;> cases u <;> cases v <;> simp [encS], .inl ?_, ?_, some (.int (s.1 : Int)), some (.int s.2.1), some (tupI s.2.2), rfl⟩
      · generalize hq : ((List.range p.length).filterMap fun k => if decide (ch p k = ch p s.1) = true then some (s.2.2.getD k 0) else none) = q at hl hS
        unfold fC okS
        by_cases h1 : ch p s.1 = -1
        · simp [-List.getElem?_map, i1, ge0, h1, psh]
        · by_cases h2 : load s.2.2 p (ch p s.1) ≤ s.2.1
          · simp [-List.getElem?_map, i1, ge0, h1, hl, hS, h2, Int.not_lt.mpr h2, psh]
          · simp [-List.getElem?_map, i1, ge0, h1, hl, hS, h2, Int.not_le.mp h2, tupD_ok (hb2 _ _), hfs, psh, fS, nI]
      · cases fC p s with
        | none => exact Nat.le_succ_of_le hk
        | some y =>
          show (fs ++ [y]).length ≤ _
          rw [List.length_append, List.length_singleton]
          omega
  obtain ⟨ρ2, hC1, hC2, y', u, v, hC3⟩ := hC
  rw [fold_filter] at hC3
  subst hC3
  exact ⟨y', u, v, hC1⟩
theorem e_law_faults {b : Bk} {p : List Int} (h : Vb b) (hp : p.length = b.ls.length) (hn : ∀ i, -1 ≤ ch p i) : f__law_faults [encB b, tupI p] = .ok (.list (fl b p)) := by
  have hA := lfA h hp hn
  obtain ⟨x, y, z, hB1, h80⟩ := lfB h hp hn
  obtain ⟨y', u, v, hC1⟩ := lfC h hp hn (x := x) (y := y) (z := z) h80
  unfold f__law_faults b__law_faults fnD
  rw [show encB b = .tuple [.tuple (b.ls.map tupI), .tuple (b.cl.map encC), .tuple (b.su.map encS)] from rfl] at hA hB1 hC1 ⊢
  simp [-List.map_map, -List.getElem?_map, hA, hB1, hC1, fl]
end K01
/-! T1: typed readings of the pure functions: values, environments that are known in part. -/
namespace TL
open PySem PySem.Spec PyProof.Rows L2 DL

/-! ### at most -/
def Le {α : Type} (x y : Rs α) : Prop := match x with
  | .ok a => y = .ok a
  | .xc _ _ => False
  | .bad => True
def Gd {α : Type} (c : Prop) [Decidable c] (x : Rs α) : Rs α := if c then x else .bad
def bnd2 {α β γ : Type} (x : Rs (α × β)) (k : α → β → Rs γ) : Rs γ := x.bind fun r => k r.1 r.2
section
variable {α β γ δ : Type} {x y z : Rs α} {k k' : α → Rs β}
theorem Gd_pos {c : Prop} [Decidable c] (h : c) : Gd c x = x := if_pos h
@[simp] theorem Gd_true : Gd True x = x := if_pos trivial
@[simp] theorem bnd2_ok (a : α) (b : β) (k : α → β → Rs γ) : bnd2 (.ok (a, b)) k = k a b := rfl
theorem Le.refl_ok {a : α} : Le (.ok a) (.ok a) := rfl
theorem Le.bad : Le .bad y := trivial
theorem Le.of_ok (h : Le x y) {a : α} (e : x = .ok a) : y = .ok a := by subst e; exact h
theorem Le.trans (h : Le x y) (g : Le y z) : Le x z := by
  cases x with
  | ok a => have h : y = .ok a := h; subst h; exact g
  | xc n as => exact h.elim
  | bad => exact trivial
theorem Le.mapBind {e : α → δ} {w : Rs δ} {K : δ → Rs β} (h : Le (x.map e) w) (hk : ∀ a, Le (k a) (K (e a))) : Le (x.bind k) (w.bind K) := by
  cases x with
  | ok a => have h : w = .ok (e a) := h; subst h; exact hk a
  | xc n as => exact h.elim
  | bad => exact trivial
theorem map_bind {e : β → δ} : (x.bind k).map e = x.bind fun a => (k a).map e := by cases x <;> rfl
@[simp] theorem map_map {f : α → β} {e : β → δ} : (x.map f).map e = x.map fun a => e (f a) := by cases x <;> rfl
theorem map_id' : x.map id = x := by cases x <;> rfl
@[simp] theorem bind_bind {k2 : β → Rs γ} : (x.bind k).bind k2 = x.bind fun a => (k a).bind k2 := by cases x <;> rfl
@[simp] theorem map_bind' {f : α → β} {k2 : β → Rs γ} : (x.map f).bind k2 = x.bind fun a => k2 (f a) := by cases x <;> rfl
theorem bind_ok_map {f : α → β} : (x.bind fun a => .ok (f a)) = x.map f := by cases x <;> rfl
theorem Le.gd {c : Prop} [Decidable c] (h : c → Le x y) : Le (Gd c x) y := by
  unfold Gd
  split
  · rename_i h1; exact h h1
  · trivial
theorem map_gd {c : Prop} [Decidable c] {e : α → β} : (Gd c x).map e = Gd c (x.map e) := by
  unfold Gd
  split <;> rfl
theorem map_ite {c : Prop} [Decidable c] {e : α → β} : (if c then x else y).map e = if c then x.map e else y.map e := by split <;> rfl
end

/-! ### environments known in part -/
inductive Ag : Ev → Ev → Prop
  | nil : Ag [] []
  | un {x : Option E} {sp ρ : Ev} : (∀ o, x ≠ some (.own true o)) → Ag sp ρ → Ag (none :: sp) (x :: ρ)
  | kn {e : E} {sp ρ : Ev} : Ag sp ρ → Ag (some e :: sp) (some e :: ρ)
theorem Ag.refl : ∀ sp : Ev, Ag sp sp
  | [] => .nil
  | none :: sp => .un (fun _ z => by cases z) (Ag.refl sp)
  | some e :: sp => .kn (Ag.refl sp)
theorem Ag.len : ∀ {sp ρ : Ev}, Ag sp ρ → ρ.length = sp.length
  | _, _, .nil => rfl
  | _, _, .un _ h => congrArg (· + 1) h.len
  | _, _, .kn h => congrArg (· + 1) h.len
theorem Ag.get : ∀ {sp ρ : Ev} {i : Nat} {e : E}, Ag sp ρ → sp[i]? = some (some e) → ρ[i]? = some (some e)
  | _, _, _, _, .nil, z => by simp at z
  | _, _, 0, _, .un _ h, z => by simp at z
  | _, _, 0, _, .kn h, z => by simpa using z
  | _, _, i + 1, _, .un _ h, z => by simpa using h.get (i := i) (by simpa using z)
  | _, _, i + 1, _, .kn h, z => by simpa using h.get (i := i) (by simpa using z)
theorem Ag.free : ∀ {sp ρ : Ev} {i : Nat}, Ag sp ρ → sp[i]? = some none → ∃ x, ρ[i]? = some x ∧ ∀ o, x ≠ some (.own true o)
  | _, _, _, .nil, z => by simp at z
  | _, _, 0, .un n h, z => ⟨_, rfl, n⟩
  | _, _, 0, .kn h, z => by simp at z
  | _, _, i + 1, .un _ h, z => by simpa using h.free (i := i) (by simpa using z)
  | _, _, i + 1, .kn h, z => by simpa using h.free (i := i) (by simpa using z)
theorem Ag.set : ∀ {sp ρ : Ev} {i : Nat} {e : E}, Ag sp ρ → Ag (sp.set i (some e)) (ρ.set i (some e))
  | _, _, _, _, .nil => .nil
  | _, _, 0, _, .un _ h => .kn h
  | _, _, 0, _, .kn h => .kn h
  | _, _, i + 1, _, .un n h => .un n h.set
  | _, _, i + 1, _, .kn h => .kn h.set
theorem Ag.clr : ∀ {sp ρ : Ev} {i : Nat}, Ag sp ρ → Ag (sp.set i none) (ρ.set i none)
  | _, _, _, .nil => .nil
  | _, _, 0, .un _ h => .un (fun _ z => by cases z) h
  | _, _, 0, .kn h => .un (fun _ z => by cases z) h
  | _, _, i + 1, .un n h => .un n h.clr
  | _, _, i + 1, .kn h => .kn h.clr
theorem Ag.setE {sp ρ sp' : Ev} {i : Nat} {x : Option E} (h : Ag sp ρ) (e : DL.setE i x sp = some sp') : ∃ ρ', DL.setE i x ρ = some ρ' ∧ Ag sp' ρ' := by
  have key : sp' = sp.set i x ∧ DL.setE i x ρ = some (ρ.set i x) := by
    unfold DL.setE at e ⊢
    cases q : sp[i]? with
    | none => rw [q] at e; cases e
    | some y =>
      rw [q] at e
      cases y with
      | none =>
        obtain ⟨z, h1, h2⟩ := h.free q
        cases e
        refine ⟨rfl, ?_⟩
        rw [h1]
        cases z with
        | none => rfl
        | some z =>
          cases z with
          | dat d => rfl
          | own b o =>
            cases b with
            | true => exact absurd rfl (h2 o)
            | false => rfl
      | some y =>
        rw [h.get q]
        cases y with
        | dat d => cases e; exact ⟨rfl, rfl⟩
        | own b o =>
          cases b with
          | true => cases e
          | false => cases e; exact ⟨rfl, rfl⟩
  obtain ⟨rfl, h2⟩ := key
  exact ⟨_, h2, by cases x with | none => exact h.clr | some x => exact h.set⟩
theorem Ag.wipe : ∀ {vs : List Nat} {sp ρ sp' : Ev}, Ag sp ρ → wipeE vs sp = some sp' → ∃ ρ', wipeE vs ρ = some ρ' ∧ Ag sp' ρ'
  | [], _, _, _, h, e => by cases e; exact ⟨_, rfl, h⟩
  | v :: vs, sp, ρ, sp', h, e => by
    unfold wipeE at e ⊢
    cases q : wipeE vs sp with
    | none => rw [q] at e; cases e
    | some sp1 =>
      rw [q] at e
      obtain ⟨ρ1, h1, h2⟩ := Ag.wipe h q
      rw [h1]
      exact h2.setE e
/-- less is known -/
inductive Wk : Ev → Ev → Prop
  | nil : Wk [] []
  | f {x : Option E} {a b : Ev} : (match x with | some (.own true _) => False | _ => True) → Wk a b → Wk (none :: a) (x :: b)
  | k {e : Option E} {a b : Ev} : Wk a b → Wk (e :: a) (e :: b)
theorem Wk.ag : ∀ {a b ρ : Ev}, Wk a b → Ag b ρ → Ag a ρ
  | _, _, _, .nil, h => h
  | _, _, _, .f (x := none) n w, .un n' h => .un n' (w.ag h)
  | _, _, _, .f (x := some e) n w, .kn h => .un (fun o z => by cases z; exact n) (w.ag h)
  | _, _, _, .k (e := none) w, .un n h => .un n (w.ag h)
  | _, _, _, .k (e := some _) w, .kn h => .kn (w.ag h)
theorem Wk.refl : ∀ a : Ev, Wk a a
  | [] => .nil
  | _ :: a => .k (Wk.refl a)

/-! ### targets -/
def Mono (b : D → Ev → Option Ev) : Prop := ∀ (d : D) (sp ρ sp' : Ev), Ag sp ρ → b d sp = some sp' → ∃ ρ', b d ρ = some ρ' ∧ Ag sp' ρ'
def Monos (b : List D → Ev → Option Ev) : Prop := ∀ (d : List D) (sp ρ sp' : Ev), Ag sp ρ → b d sp = some sp' → ∃ ρ', b d ρ = some ρ' ∧ Ag sp' ρ'
theorem mo_nm {i : Nat} : Mono (nmB i) := fun _ _ _ _ h e => h.setE e
theorem mos_nil : Monos nilB := fun d _ _ _ h e => by
  cases d with
  | nil => cases e; exact ⟨_, rfl, h⟩
  | cons _ _ => cases e
theorem mos_cons {b : D → Ev → Option Ev} {bs : List D → Ev → Option Ev} (h1 : Mono b) (h2 : Monos bs) : Monos (consB b bs) := fun d sp ρ sp' h e => by
  cases d with
  | nil => cases e
  | cons x xs =>
    change (b x sp).bind (bs xs) = some sp' at e
    show ∃ ρ', (b x ρ).bind (bs xs) = some ρ' ∧ _
    cases q : b x sp with
    | none => rw [q] at e; cases e
    | some sp1 =>
      rw [q] at e
      obtain ⟨ρ1, a1, a2⟩ := h1 x sp ρ sp1 h q
      rw [a1]
      exact h2 xs sp1 ρ1 sp' a2 e
theorem mo_tup {n : Nat} {bs : List D → Ev → Option Ev} (h2 : Monos bs) : Mono (tupB n bs) := fun d sp ρ sp' h e => by
  cases d <;> (first | (cases e; done) | skip)
  all_goals
    change (if _ = n then bs _ sp else none) = some sp' at e
    show ∃ ρ', (if _ = n then bs _ ρ else none) = some ρ' ∧ _
    split at e
    · rename_i hn
      rw [if_pos hn]
      exact h2 _ sp ρ sp' h e
    · cases e

/-! ### the readings -/
section
variable {δ α β γ ε S : Type}
/-- a value that is known -/
def TV (sp : Ev) (g : Ev → Rs δ) (d : δ) : Prop := ∀ ρ, Ag sp ρ → g ρ = .ok d
/-- a value of a kind -/
def TE (sp : Ev) (g : Ev → Rs δ) (e : α → δ) (x : Rs α) : Prop := ∀ ρ, Ag sp ρ → Le (x.map e) (g ρ)
variable {sp : Ev} {g ga : Ev → Rs δ} {gb : Ev → Rs ε} {e : α → δ} {x : Rs α} {d : δ}
theorem te_ok {e : α → δ} {a : α} (h : TV sp g (e a)) : TE sp g e (.ok a) := fun ρ H => h ρ H
theorem te_bad : TE sp g e .bad := fun ρ H => trivial
theorem tv_cast {d' : δ} (h : TV sp g d) (q : d = d') : TV sp g d' := q ▸ h
/-- another kind -/
theorem te_conv {e' : β → δ} {c : α → β} (h : TE sp g e x) (q : ∀ a, e a = e' (c a)) : TE sp g e' (x.map c) := fun ρ H => by
  have := h ρ H
  rw [map_map]
  have z : (fun a => e' (c a)) = e := funext fun a => (q a).symm
  rw [z]
  exact this
theorem te_convP {e' : β → δ} {c : α → Rs β} (h : TE sp g e x) (q : ∀ a, Le ((c a).map e') (.ok (e a))) : TE sp g e' (x.bind c) := fun ρ H => by
  have h1 := h ρ H
  rw [map_bind]
  cases x with
  | ok a => have h1 : g ρ = .ok (e a) := h1; rw [h1]; exact q a
  | xc n as => exact h1.elim
  | bad => trivial
theorem tv_convP {e' : β → δ} {c : Rs β} (h : TV sp g d) (q : Le (c.map e') (.ok d)) : TE sp g e' c := fun ρ H => by
  rw [h ρ H]
  exact q
theorem te_bind {K : δ → Ev → Rs ε} {e' : β → ε} {k : α → Rs β} (h : TE sp g e x) (hk : ∀ a, TE sp (K (e a)) e' (k a)) : TE sp (fun ρ => (g ρ).bind fun d => K d ρ) e' (x.bind k) := fun ρ H => by
  rw [map_bind]
  exact (h ρ H).mapBind fun a => hk a ρ H
theorem te_bindV {K : δ → Ev → Rs ε} {e' : β → ε} {y : Rs β} (h : TV sp g d) (hk : TE sp (K d) e' y) : TE sp (fun ρ => (g ρ).bind fun d => K d ρ) e' y := fun ρ H => by
  show Le _ ((g ρ).bind _)
  rw [h ρ H]
  exact hk ρ H
theorem tv_bind {K : δ → Ev → Rs ε} {c : ε} (h : TV sp g d) (hk : TV sp (K d) c) : TV sp (fun ρ => (g ρ).bind fun d => K d ρ) c := fun ρ H => by
  show (g ρ).bind _ = _
  rw [h ρ H]
  exact hk ρ H
theorem te_of {o : Option ε} {e' : β → ε} {y : Rs β} (h : Le (y.map e') (Rs.of o)) : TE sp (fun _ => Rs.of o) e' y := fun ρ H => h
theorem tv_of {o : Option ε} {c : ε} (h : o = some c) : TV sp (fun _ => Rs.of o) c := fun ρ H => by rw [h]; rfl
/-- an operation that is total on a kind -/
theorem ok_of {o : Option ε} {e' : β → ε} {c : β} (h : o = some (e' c)) : Le ((Rs.ok c).map e') (Rs.of o) := by rw [h]; rfl
theorem gd_of {c : Prop} [Decidable c] {o : Option ε} {e' : β → ε} {y : Rs β} (h : c → Le (y.map e') (Rs.of o)) : Le ((Gd c y).map e') (Rs.of o) := by
  rw [map_gd]
  exact Le.gd h
end

/-! ### names, constants -/
section
variable {sp : Ev} {α β γ S : Type}
theorem tv_var {i : Nat} {d : D} (h : sp[i]? = some (some (.dat d))) : TV sp (varG i) d := fun ρ H => by
  unfold varG
  rw [H.get h]
theorem tv_c {δ : Type} {d : δ} : TV sp (cG d) d := fun ρ H => rfl
theorem tv_brw {δ : Type} {i : Nat} {b : Bool} {o : O} {chk : δ → Bool} {g : Ev → Rs δ} {d : δ} (h : sp[i]? = some (some (.own b o))) (hg : TV (sp.set i (some (.dat o.dat))) g d) (hc : chk d = true) : TV sp (brwG i chk g) d := fun ρ H => by
  unfold brwG
  rw [H.get h]
  show (match g (ρ.set i (some (.dat o.dat))) with | .ok a => if chk a = true then Rs.ok a else .bad | _ => .bad) = _
  rw [hg _ H.set]
  exact if_pos hc
theorem te_brw {δ : Type} {i : Nat} {b : Bool} {o : O} {chk : δ → Bool} {g : Ev → Rs δ} {e : α → δ} {x : Rs α} (h : sp[i]? = some (some (.own b o))) (hg : TE (sp.set i (some (.dat o.dat))) g e x) (hc : ∀ a, chk (e a) = true) : TE sp (brwG i chk g) e x := fun ρ H => by
  unfold brwG
  rw [H.get h]
  have := hg _ (H.set (i := i) (e := .dat o.dat))
  cases x with
  | ok a =>
    have h1 : g (ρ.set i (some (.dat o.dat))) = .ok (e a) := this
    show (match g (ρ.set i (some (.dat o.dat))) with | .ok a => if chk a = true then Rs.ok a else .bad | _ => .bad) = .ok (e a)
    rw [h1]
    exact if_pos (hc a)
  | xc n as => exact this.elim
  | bad => trivial
theorem tv_brwD {δ : Type} {i : Nat} {d0 : D} {chk : δ → Bool} {g : Ev → Rs δ} {d : δ} (h : sp[i]? = some (some (.dat d0))) (hg : TV sp g d) : TV sp (brwG i chk g) d := fun ρ H => by
  unfold brwG
  rw [H.get h]
  exact hg _ H
theorem te_brwD {δ : Type} {i : Nat} {d0 : D} {chk : δ → Bool} {g : Ev → Rs δ} {e : α → δ} {x : Rs α} (h : sp[i]? = some (some (.dat d0))) (hg : TE sp g e x) : TE sp (brwG i chk g) e x := fun ρ H => by
  unfold brwG
  rw [H.get h]
  exact hg _ H

/-! ### frozen results, operators -/
theorem tv_frz {g : Ev → Rs O} {o : O} (h : TV sp g o) : TV sp (frzG g) o.dat := fun ρ H => by
  unfold frzG
  rw [h ρ H]
  rfl
theorem te_frz {g : Ev → Rs O} {e : α → O} {x : Rs α} (h : TE sp g e x) : TE sp (frzG g) (fun a => (e a).dat) x := fun ρ H => by
  unfold frzG
  have := h ρ H
  cases x with
  | ok a => have h1 : g ρ = .ok (e a) := this; rw [h1]; rfl
  | xc n as => exact this.elim
  | bad => trivial
variable {h : D → D → Option D} {u : D → Option D} {ga gb : Ev → Rs D} {d1 d2 d3 : D} {e1 : α → D} {e2 : β → D} {e3 : γ → D} {x : Rs α} {y : Rs β}
theorem tv_op (hA : TV sp ga d1) (hB : TV sp gb d2) (q : h d1 d2 = some d3) : TV sp (opG h ga gb) d3 := tv_bind hA (tv_bind (K := fun e _ => Rs.of (h d1 e)) hB (tv_of q))
theorem te_op_vv {z : Rs γ} (hA : TV sp ga d1) (hB : TV sp gb d2) (q : Le (z.map e3) (Rs.of (h d1 d2))) : TE sp (opG h ga gb) e3 z := te_bindV hA (te_bindV (K := fun e _ => Rs.of (h d1 e)) hB (te_of q))
theorem te_op_mv {p : α → Rs γ} (hA : TE sp ga e1 x) (hB : TV sp gb d2) (q : ∀ a, Le ((p a).map e3) (Rs.of (h (e1 a) d2))) : TE sp (opG h ga gb) e3 (x.bind p) := te_bind hA fun a => te_bindV (K := fun e _ => Rs.of (h (e1 a) e)) hB (te_of (q a))
theorem te_op_vm {p : β → Rs γ} (hA : TV sp ga d1) (hB : TE sp gb e2 y) (q : ∀ b, Le ((p b).map e3) (Rs.of (h d1 (e2 b)))) : TE sp (opG h ga gb) e3 (y.bind p) := te_bindV hA (te_bind (K := fun e _ => Rs.of (h d1 e)) hB fun b => te_of (q b))
theorem te_op_mm {p : α → β → Rs γ} (hA : TE sp ga e1 x) (hB : TE sp gb e2 y) (q : ∀ a b, Le ((p a b).map e3) (Rs.of (h (e1 a) (e2 b)))) : TE sp (opG h ga gb) e3 (x.bind fun a => y.bind fun b => p a b) := te_bind hA fun a => te_bind (K := fun e _ => Rs.of (h (e1 a) e)) hB fun b => te_of (q a b)
theorem tv_un (hA : TV sp ga d1) (q : u d1 = some d3) : TV sp (unG u ga) d3 := tv_bind (K := fun d _ => Rs.of (u d)) hA (tv_of q)
theorem te_un {p : α → Rs γ} (hA : TE sp ga e1 x) (q : ∀ a, Le ((p a).map e3) (Rs.of (u (e1 a)))) : TE sp (unG u ga) e3 (x.bind p) := te_bind (K := fun d _ => Rs.of (u d)) hA fun a => te_of (q a)
/-- list + list and its like, own results -/
theorem tv_opO {h : D → D → Option O} {o : O} (hA : TV sp ga d1) (hB : TV sp gb d2) (q : h d1 d2 = some o) : TV sp (opO h ga gb) o := tv_bind hA (tv_bind (K := fun e _ => Rs.of (h d1 e)) hB (tv_of q))
theorem te_opO_vv {h : D → D → Option O} {e3 : γ → O} {z : Rs γ} (hA : TV sp ga d1) (hB : TV sp gb d2) (q : Le (z.map e3) (Rs.of (h d1 d2))) : TE sp (opO h ga gb) e3 z := te_bindV hA (te_bindV (K := fun e _ => Rs.of (h d1 e)) hB (te_of q))

/-! ### arguments, displays, built-ins -/
theorem tv_nil : TV sp nilG [] := fun ρ H => rfl
variable {gs : Ev → Rs (List D)} {ds : List D} {es : β → List D}
theorem tv_cons (hA : TV sp ga d1) (hS : TV sp gs ds) : TV sp (consG ga gs) (d1 :: ds) := tv_bind hA (tv_bind (K := fun ds _ => .ok (d1 :: ds)) hS fun ρ H => rfl)
theorem te_cons_mv (hA : TE sp ga e1 x) (hS : TV sp gs ds) : TE sp (consG ga gs) (fun a => e1 a :: ds) x := fun ρ H => by
  have := hA ρ H
  unfold consG
  cases x with
  | ok a =>
    have h1 : ga ρ = .ok (e1 a) := this
    rw [h1, Rs.bind_ok, hS ρ H]
    rfl
  | xc n as => exact this.elim
  | bad => trivial
theorem te_cons_vm (hA : TV sp ga d1) (hS : TE sp gs es y) : TE sp (consG ga gs) (fun b => d1 :: es b) y := fun ρ H => by
  have := hS ρ H
  unfold consG
  rw [hA ρ H, Rs.bind_ok]
  cases y with
  | ok a =>
    have h1 : gs ρ = .ok (es a) := this
    rw [h1]
    rfl
  | xc n as => exact this.elim
  | bad => trivial
theorem te_cons_mm (hA : TE sp ga e1 x) (hS : TE sp gs es y) : TE sp (consG ga gs) (fun p : α × β => e1 p.1 :: es p.2) (x.bind fun a => y.bind fun b => .ok (a, b)) := te_bind hA fun a => te_bind (K := fun ds _ => .ok (e1 a :: ds)) hS fun b ρ H => rfl
theorem tv_star {xs : List D} (hA : TV sp ga d1) (q : itemsD d1 = some xs) (hS : TV sp gs ds) : TV sp (starG ga gs) (xs ++ ds) := fun ρ H => by
  unfold starG
  rw [hA ρ H, Rs.bind_ok, q, Rs.of_some, Rs.bind_ok, hS ρ H]
  rfl
theorem tv_app {ω ω' : Type} {f : ω → Option ω'} {gs : Ev → Rs ω} {ds : ω} {c : ω'} (hS : TV sp gs ds) (q : f ds = some c) : TV sp (appG f gs) c := tv_bind (K := fun ds _ => Rs.of (f ds)) hS (tv_of q)
theorem te_app_v {ω ω' : Type} {f : ω → Option ω'} {gs : Ev → Rs ω} {ds : ω} {e3 : γ → ω'} {z : Rs γ} (hS : TV sp gs ds) (q : Le (z.map e3) (Rs.of (f ds))) : TE sp (appG f gs) e3 z := te_bindV (K := fun ds _ => Rs.of (f ds)) hS (te_of q)
theorem te_app_m {ω ω' : Type} {f : ω → Option ω'} {gs : Ev → Rs ω} {es : β → ω} {e3 : γ → ω'} {p : β → Rs γ} (hS : TE sp gs es y) (q : ∀ b, Le ((p b).map e3) (Rs.of (f (es b)))) : TE sp (appG f gs) e3 (y.bind p) := te_bind (K := fun ds _ => Rs.of (f ds)) hS fun b => te_of (q b)
/-- calls of defs -/
theorem te_call_v {ω : Type} {m : Nat} {f : List D → Rs ω} {dds : List D} {e3 : γ → ω} {z : Rs γ} (hS : TV sp gs ds) (q : Le (z.map e3) (f (ds ++ dds))) (hl : ds.length + dds.length = m := by rfl) : TE sp (callG m f dds gs) e3 z := te_bindV (K := fun (ds : List D) _ => if ds.length + dds.length = m then noX (f (ds ++ dds)) else .bad) hS fun ρ H => by
  rw [if_pos hl]
  cases z with
  | ok a => have h1 : f (ds ++ dds) = .ok (e3 a) := q; rw [h1]; rfl
  | xc n as => exact q.elim
  | bad => trivial
theorem te_call_m {ω : Type} {m : Nat} {f : List D → Rs ω} {dds : List D} {e3 : γ → ω} {p : β → Rs γ} (hS : TE sp gs es y) (q : ∀ b, Le ((p b).map e3) (f (es b ++ dds))) (hl : ∀ b, (es b).length + dds.length = m := by intro b; rfl) : TE sp (callG m f dds gs) e3 (y.bind p) := te_bind (K := fun (ds : List D) _ => if ds.length + dds.length = m then noX (f (ds ++ dds)) else .bad) hS fun b ρ H => by
  rw [if_pos (hl b)]
  have q := q b
  cases z : p b with
  | ok a => rw [z] at q; have h1 : f (es b ++ dds) = .ok (e3 a) := q; rw [h1]; rfl
  | xc n as => rw [z] at q; exact q.elim
  | bad => trivial

/-! ### slices -/
theorem tv_part {i : Int} (hA : TV sp ga (.int i)) : TV sp (partG ga) (some i) := fun ρ H => by
  unfold partG
  rw [hA ρ H]
  rfl
theorem te_part {x : Rs Int} (hA : TE sp ga PyData.int x) : TE sp (partG ga) some x := fun ρ H => by
  have := hA ρ H
  unfold partG
  cases x with
  | ok a => have h1 : ga ρ = .ok (.int a) := this; rw [h1]; rfl
  | xc n as => exact this.elim
  | bad => trivial
variable {gl gh : Ev → Rs (Option Int)} {lo hi : Option Int} {el : β → Option Int} {eh : γ → Option Int}
theorem tv_slice (hA : TV sp ga d1) (hl : TV sp gl lo) (hh : TV sp gh hi) (q : sliceD d1 lo hi = some d3) : TV sp (sliceG ga gl gh) d3 := fun ρ H => by
  unfold sliceG
  rw [hA ρ H, Rs.bind_ok, hl ρ H, Rs.bind_ok, hh ρ H, Rs.bind_ok, q]
  rfl
theorem te_slice {ε : Type} {e3 : ε → D} {z : Rs γ} {v : α → β → γ → ε} (hA : TE sp ga e1 x) (hl : TE sp gl el y) (hh : TE sp gh eh z) (q : ∀ a l h, sliceD (e1 a) (el l) (eh h) = some (e3 (v a l h))) : TE sp (sliceG ga gl gh) e3 (x.bind fun a => y.bind fun l => z.bind fun h => .ok (v a l h)) :=
  te_bind hA fun a => te_bind (K := fun l ρ => (gh ρ).bind fun h => Rs.of (sliceD (e1 a) l h)) hl fun l => te_bind (K := fun h ρ => Rs.of (sliceD (e1 a) (el l) h)) hh fun h => te_of (ok_of (q a l h))

/-! ### tests -/
section
variable {gc ta tb : Ev → Rs Bool} {a b : Bool} {u v : Rs Bool}
theorem tv_bool (hA : TV sp ga (.bool a)) : TV sp (boolT ga) a := fun ρ H => by
  unfold boolT
  rw [hA ρ H]
  rfl
theorem te_bool (hA : TE sp ga PyData.bool u) : TE sp (boolT ga) id u := fun ρ H => by
  have := hA ρ H
  unfold boolT
  cases u with
  | ok a => have h1 : ga ρ = .ok (.bool a) := this; rw [h1]; rfl
  | xc n as => exact this.elim
  | bad => trivial
theorem tv_tru (hA : TV sp ga d1) (q : truD d1 = some a) : TV sp (truT ga) a := fun ρ H => by
  unfold truT
  rw [hA ρ H, Rs.bind_ok, q]
  rfl
theorem te_tru {t : α → Bool} (hA : TE sp ga e1 x) (q : ∀ a, truD (e1 a) = some (t a)) : TE sp (truT ga) id (x.map t) := fun ρ H => by
  have := hA ρ H
  unfold truT
  cases x with
  | ok a => have h1 : ga ρ = .ok (e1 a) := this; rw [h1, Rs.bind_ok, q]; rfl
  | xc n as => exact this.elim
  | bad => trivial
theorem tv_not (hA : TV sp ta a) : TV sp (notT ta) (!a) := fun ρ H => by
  unfold notT
  rw [hA ρ H]
  rfl
theorem te_not (hA : TE sp ta id u) : TE sp (notT ta) id (u.map fun b => !b) := fun ρ H => by
  have := hA ρ H
  unfold notT
  cases u with
  | ok a => have h1 : ta ρ = .ok a := this; rw [h1]; rfl
  | xc n as => exact this.elim
  | bad => trivial
theorem tv_and (hA : TV sp ta a) (hB : TV sp tb b) : TV sp (andT ta tb) (a && b) := fun ρ H => by
  unfold andT
  rw [hA ρ H, Rs.bind_ok]
  cases a
  · rfl
  · exact hB ρ H
theorem tv_or (hA : TV sp ta a) (hB : TV sp tb b) : TV sp (orT ta tb) (a || b) := fun ρ H => by
  unfold orT
  rw [hA ρ H, Rs.bind_ok]
  cases a
  · exact hB ρ H
  · rfl
theorem te_and_v (hA : TV sp ta a) (hB : TE sp tb id v) : TE sp (andT ta tb) id (if a = true then v else .ok false) := fun ρ H => by
  unfold andT
  rw [hA ρ H, Rs.bind_ok]
  cases a
  · rfl
  · exact hB ρ H
theorem te_or_v (hA : TV sp ta a) (hB : TE sp tb id v) : TE sp (orT ta tb) id (if a = true then .ok true else v) := fun ρ H => by
  unfold orT
  rw [hA ρ H, Rs.bind_ok]
  cases a
  · exact hB ρ H
  · rfl
theorem te_and (hA : TE sp ta id u) (hB : TE sp tb id v) : TE sp (andT ta tb) id (u.bind fun a => if a = true then v else .ok false) := te_bind (K := fun k ρ => if k = true then tb ρ else .ok false) hA fun a ρ H => by
  cases a
  · rfl
  · exact hB ρ H
theorem te_or (hA : TE sp ta id u) (hB : TE sp tb id v) : TE sp (orT ta tb) id (u.bind fun a => if a = true then .ok true else v) := te_bind (K := fun k ρ => if k = true then .ok true else tb ρ) hA fun a ρ H => by
  cases a
  · exact hB ρ H
  · rfl
theorem tv_notG (hA : TV sp ga d1) (q : truD d1 = some a) : TV sp (notG ga) (.bool (!a)) := fun ρ H => by
  unfold notG
  rw [hA ρ H, Rs.bind_ok, q]
  rfl
theorem te_notG {t : α → Bool} (hA : TE sp ga e1 x) (q : ∀ a, truD (e1 a) = some (t a)) : TE sp (notG ga) PyData.bool (x.map fun a => !t a) := fun ρ H => by
  have := hA ρ H
  unfold notG
  cases x with
  | ok a => have h1 : ga ρ = .ok (e1 a) := this; rw [h1, Rs.bind_ok, q]; rfl
  | xc n as => exact this.elim
  | bad => trivial
theorem tv_andG (hA : TV sp ga (.bool a)) (hB : TV sp gb (.bool b)) : TV sp (andG ga gb) (.bool (a && b)) := fun ρ H => by
  unfold andG
  rw [hA ρ H]
  cases a
  · rfl
  · exact hB ρ H
theorem tv_orG (hA : TV sp ga (.bool a)) (hB : TV sp gb (.bool b)) : TV sp (orG ga gb) (.bool (a || b)) := fun ρ H => by
  unfold orG
  rw [hA ρ H]
  cases a
  · exact hB ρ H
  · rfl
theorem te_andG_v (hA : TV sp ga (.bool a)) (hB : TE sp gb PyData.bool v) : TE sp (andG ga gb) PyData.bool (if a = true then v else .ok false) := fun ρ H => by
  unfold andG
  rw [hA ρ H]
  cases a
  · rfl
  · exact hB ρ H
theorem te_orG_v (hA : TV sp ga (.bool a)) (hB : TE sp gb PyData.bool v) : TE sp (orG ga gb) PyData.bool (if a = true then .ok true else v) := fun ρ H => by
  unfold orG
  rw [hA ρ H]
  cases a
  · exact hB ρ H
  · rfl
theorem te_andG (hA : TE sp ga PyData.bool u) (hB : TE sp gb PyData.bool v) : TE sp (andG ga gb) PyData.bool (u.bind fun a => if a = true then v else .ok false) := te_bind (K := fun d ρ => (Rs.of (truD d)).bind fun k => if k = true then gb ρ else .ok d) hA fun a ρ H => by
  cases a
  · rfl
  · exact hB ρ H
theorem te_orG (hA : TE sp ga PyData.bool u) (hB : TE sp gb PyData.bool v) : TE sp (orG ga gb) PyData.bool (u.bind fun a => if a = true then .ok true else v) := te_bind (K := fun d ρ => (Rs.of (truD d)).bind fun k => if k = true then .ok d else gb ρ) hA fun a ρ H => by
  cases a
  · exact hB ρ H
  · rfl
theorem tv_if {ω : Type} {ga gb : Ev → Rs ω} {e : α → ω} {v w : α} (hC : TV sp gc a) (hA : TV sp ga (e v)) (hB : TV sp gb (e w)) : TV sp (ifG gc ga gb) (e (if a = true then v else w)) := fun ρ H => by
  unfold ifG
  rw [hC ρ H, Rs.bind_ok]
  cases a
  · exact hB ρ H
  · exact hA ρ H
theorem te_if_v {ω : Type} {ga gb : Ev → Rs ω} {e : α → ω} {y : Rs α} (hC : TV sp gc a) (hA : TE sp ga e x) (hB : TE sp gb e y) : TE sp (ifG gc ga gb) e (if a = true then x else y) := fun ρ H => by
  unfold ifG
  rw [hC ρ H, Rs.bind_ok]
  cases a
  · exact hB ρ H
  · exact hA ρ H
theorem te_if {ω : Type} {ga gb : Ev → Rs ω} {e : α → ω} {y : Rs α} (hC : TE sp gc id u) (hA : TE sp ga e x) (hB : TE sp gb e y) : TE sp (ifG gc ga gb) e (u.bind fun a => if a = true then x else y) := te_bind (K := fun k ρ => if k = true then ga ρ else gb ρ) hC fun a ρ H => by
  cases a
  · exact hB ρ H
  · exact hA ρ H
end

/-! ### chains -/
section
variable {ω : Type} {k : D → Ev → Rs ω} {c : Bool} {v : Rs Bool}
theorem tv_ch {d' : ω} (hA : TV sp ga d1) (hk : TV sp (k d1) d') : TV sp (chG ga k) d' := tv_bind hA hk
theorem te_ch_v {e : γ → ω} {z : Rs γ} (hA : TV sp ga d1) (hk : TE sp (k d1) e z) : TE sp (chG ga k) e z := te_bindV hA hk
theorem te_ch {e : γ → ω} {p : α → Rs γ} (hA : TE sp ga e1 x) (hk : ∀ a, TE sp (k (e1 a)) e (p a)) : TE sp (chG ga k) e (x.bind p) := te_bind hA hk
theorem tv_last (hB : TV sp gb d2) (q : h d1 d2 = some d3) : TV sp (lastG h gb d1) d3 := tv_bind (K := fun e _ => Rs.of (h d1 e)) hB (tv_of q)
theorem te_last {p : β → Bool} (hB : TE sp gb e2 y) (q : ∀ b, h d1 (e2 b) = some (.bool (p b))) : TE sp (lastG h gb d1) PyData.bool (y.map p) := fun ρ H => by
  have := hB ρ H
  unfold lastG
  cases y with
  | ok a => have h1 : gb ρ = .ok (e2 a) := this; rw [h1, Rs.bind_ok, q]; rfl
  | xc n as => exact this.elim
  | bad => trivial
theorem tv_lastT (hB : TV sp gb d2) (q : h d1 d2 = some (.bool c)) : TV sp (lastT h gb d1) c := fun ρ H => by
  unfold lastT
  rw [hB ρ H, Rs.bind_ok, q]
  rfl
theorem te_lastT {p : β → Bool} (hB : TE sp gb e2 y) (q : ∀ b, h d1 (e2 b) = some (.bool (p b))) : TE sp (lastT h gb d1) id (y.map p) := fun ρ H => by
  have := hB ρ H
  unfold lastT
  cases y with
  | ok a => have h1 : gb ρ = .ok (e2 a) := this; rw [h1, Rs.bind_ok, q]; rfl
  | xc n as => exact this.elim
  | bad => trivial
theorem tv_link {k : D → Ev → Rs D} {c' : Bool} (hB : TV sp gb d2) (q : h d1 d2 = some (.bool c)) (hk : TV sp (k d2) (.bool c')) : TV sp (linkG h gb k d1) (.bool (c && c')) := fun ρ H => by
  unfold linkG
  rw [hB ρ H, Rs.bind_ok, q, Rs.of_some, Rs.bind_ok]
  cases c
  · rfl
  · exact hk ρ H
theorem te_link_v {k : D → Ev → Rs D} (hB : TV sp gb d2) (q : h d1 d2 = some (.bool c)) (hk : TE sp (k d2) PyData.bool v) : TE sp (linkG h gb k d1) PyData.bool (if c = true then v else .ok false) := fun ρ H => by
  unfold linkG
  rw [hB ρ H, Rs.bind_ok, q, Rs.of_some, Rs.bind_ok]
  cases c
  · rfl
  · exact hk ρ H
theorem te_link {k : D → Ev → Rs D} {p : β → Bool} {w : β → Rs Bool} (hB : TE sp gb e2 y) (q : ∀ b, h d1 (e2 b) = some (.bool (p b))) (hk : ∀ b, TE sp (k (e2 b)) PyData.bool (w b)) : TE sp (linkG h gb k d1) PyData.bool (y.bind fun b => if p b = true then w b else .ok false) :=
  te_bind (K := fun e ρ => (Rs.of (h d1 e)).bind fun c => match c with | .bool true => k e ρ | .bool false => .ok (.bool false) | _ => .bad) hB fun b ρ H => by
    show Le _ ((Rs.of (h d1 (e2 b))).bind _)
    rw [q, Rs.of_some, Rs.bind_ok]
    cases p b
    · rfl
    · exact hk b ρ H
theorem tv_linkT {k : D → Ev → Rs Bool} {c' : Bool} (hB : TV sp gb d2) (q : h d1 d2 = some (.bool c)) (hk : TV sp (k d2) c') : TV sp (linkT h gb k d1) (c && c') := fun ρ H => by
  unfold linkT
  rw [hB ρ H, Rs.bind_ok, q, Rs.of_some, Rs.bind_ok]
  cases c
  · rfl
  · exact hk ρ H
theorem te_linkT_v {k : D → Ev → Rs Bool} (hB : TV sp gb d2) (q : h d1 d2 = some (.bool c)) (hk : TE sp (k d2) id v) : TE sp (linkT h gb k d1) id (if c = true then v else .ok false) := fun ρ H => by
  unfold linkT
  rw [hB ρ H, Rs.bind_ok, q, Rs.of_some, Rs.bind_ok]
  cases c
  · rfl
  · exact hk ρ H
theorem te_linkT {k : D → Ev → Rs Bool} {p : β → Bool} {w : β → Rs Bool} (hB : TE sp gb e2 y) (q : ∀ b, h d1 (e2 b) = some (.bool (p b))) (hk : ∀ b, TE sp (k (e2 b)) id (w b)) : TE sp (linkT h gb k d1) id (y.bind fun b => if p b = true then w b else .ok false) :=
  te_bind (K := fun e ρ => (Rs.of (h d1 e)).bind fun c => match c with | .bool true => k e ρ | .bool false => .ok false | _ => .bad) hB fun b ρ H => by
    show Le _ ((Rs.of (h d1 (e2 b))).bind _)
    rw [q, Rs.of_some, Rs.bind_ok]
    cases p b
    · rfl
    · exact hk b ρ H
end
end
end TL
/-! T2: comprehensions, readings that change, statements, loops, defs. -/
namespace TL
open PySem PySem.Spec PyProof.Rows L2 DL

/-! ### comprehensions -/
def oL {α : Type} (e : α → D) (xs : List α) : O := .l (xs.map e)
def mapT {α β : Type} (f : α → Rs β) : List α → Rs (List β)
  | [] => .ok []
  | x :: xs => (f x).bind fun y => (mapT f xs).bind fun ys => .ok (y :: ys)
def compT {α β : Type} (f : α → Rs (Option β)) : List α → Rs (List β)
  | [] => .ok []
  | x :: xs => (f x).bind fun o => (compT f xs).bind fun ys => .ok (o.toList ++ ys)
def tst {β : Type} (c : Rs Bool) (y : Rs β) : Rs (Option β) := c.bind fun b => if b = true then y.map some else .ok none
def lcI (b : D → Ev → Option Ev) (tt : Ev → Rs Bool) (te : Ev → Rs D) (vs : List Nat) (xs : List D) (ρ : Ev) : Rs O := match wipeE vs ρ with
  | none => .bad
  | some ρ0 => (compL (lcBody b tt te ρ0) xs).bind fun ys => .ok (.l ys)
section
variable {α β γ S : Type} {sp spw : Ev} {b : D → Ev → Option Ev} {tt : Ev → Rs Bool} {te : Ev → Rs D} {vs : List Nat} {xs : List α} {e1 : α → D} {e2 : β → D} {sx : α → Ev} {gi : Ev → Rs (List D)}
theorem compL_le {body : D → Rs (Option D)} {f : α → Rs (Option β)} (h : ∀ x, Le ((f x).map fun o => o.map e2) (body (e1 x))) : ∀ xs : List α, Le ((compT f xs).map fun ys => ys.map e2) (compL body (xs.map e1))
  | [] => rfl
  | x :: xs => by
    rw [List.map_cons]
    unfold compT compL
    rw [map_bind]
    refine (h x).mapBind (e := fun o => o.map e2) fun o => ?_
    rw [map_bind]
    refine (compL_le h xs).mapBind (e := fun ys => ys.map e2) fun ys => ?_
    show Rs.ok _ = Rs.ok _
    cases o <;> simp
theorem lcBody_le {x : α} {c : Rs Bool} {y : Rs β} {spx ρ0 : Ev} (hm : Mono b) (hb : b (e1 x) spw = some spx) (H : Ag spw ρ0) (ht : TE spx tt id c) (he : TE spx te e2 y) : Le ((tst c y).map fun o => o.map e2) (lcBody b tt te ρ0 (e1 x)) := by
  obtain ⟨ρ1, h1, h2⟩ := hm _ _ _ _ H hb
  unfold lcBody tst
  rw [h1, map_bind]
  have ht := ht ρ1 h2
  have he := he ρ1 h2
  cases c with
  | ok k =>
    have ht : tt ρ1 = .ok k := ht
    simp only [ht]
    cases k with
    | false => rfl
    | true =>
      cases y with
      | ok a => have he : te ρ1 = .ok (e2 a) := he; rw [he]; rfl
      | xc n as => exact he.elim
      | bad => trivial
  | xc n as => exact ht.elim
  | bad => trivial
theorem lc_mm {c : α → Rs Bool} {y : α → Rs β} (hm : Mono b) (hw : wipeE vs sp = some spw) (hb : ∀ x, b (e1 x) spw = some (sx x)) (ht : ∀ x, TE (sx x) tt id (c x)) (he : ∀ x, TE (sx x) te e2 (y x)) : TE sp (lcI b tt te vs (xs.map e1)) (oL e2) (compT (fun x => tst (c x) (y x)) xs) := fun ρ H => by
  obtain ⟨ρ0, h1, h2⟩ := H.wipe hw
  unfold lcI
  rw [h1]
  have := compL_le (e1 := e1) (e2 := e2) (body := lcBody b tt te ρ0) (f := fun x => tst (c x) (y x)) (fun x => lcBody_le hm (hb x) h2 (ht x) (he x)) xs
  show Le _ ((compL (lcBody b tt te ρ0) (xs.map e1)).bind fun ys => Rs.ok (O.l ys))
  rw [show (compT (fun x => tst (c x) (y x)) xs).map (oL e2) = (compT (fun x => tst (c x) (y x)) xs).bind fun ys => .ok (oL e2 ys) from rfl]
  exact this.mapBind fun ys => rfl
theorem compT_ok {f : α → Rs (Option β)} {h : α → Option β} : ∀ {xs : List α}, (∀ x ∈ xs, f x = .ok (h x)) → compT f xs = .ok (xs.filterMap h)
  | [], _ => rfl
  | x :: xs, q => by
    unfold compT
    rw [q x List.mem_cons_self, Rs.bind_ok, compT_ok fun y hy => q y (List.mem_cons_of_mem _ hy), Rs.bind_ok, List.filterMap_cons]
    cases h x <;> rfl
theorem mapT_ok {f : α → Rs β} {h : α → β} : ∀ {xs : List α}, (∀ x ∈ xs, f x = .ok (h x)) → mapT f xs = .ok (xs.map h)
  | [], _ => rfl
  | x :: xs, q => by
    unfold mapT
    rw [q x List.mem_cons_self, Rs.bind_ok, mapT_ok fun y hy => q y (List.mem_cons_of_mem _ hy), Rs.bind_ok, List.map_cons]
theorem compT_map {y : α → Rs β} : ∀ xs : List α, compT (fun x => tst (.ok true) (y x)) xs = mapT y xs
  | [] => rfl
  | x :: xs => by
    unfold compT mapT
    rw [compT_map xs]
    show ((y x).map some).bind _ = _
    rw [map_bind']
    rfl
theorem compT_fil {c : α → Bool} {y : α → Rs β} : ∀ xs : List α, compT (fun x => tst (.ok (c x)) (y x)) xs = mapT y (xs.filter c)
  | [] => rfl
  | x :: xs => by
    unfold compT
    rw [compT_fil xs]
    cases e : c x with
    | true =>
      rw [List.filter_cons_of_pos e]
      show ((y x).map some).bind _ = _
      rw [map_bind']
      rfl
    | false =>
      rw [List.filter_cons_of_neg (by rw [e]; simp)]
      show (Rs.ok (none : Option β)).bind _ = _
      rw [Rs.bind_ok]
      cases mapT y (xs.filter c) <;> rfl
theorem lc_mt {y : α → Rs β} (hm : Mono b) (hw : wipeE vs sp = some spw) (hb : ∀ x, b (e1 x) spw = some (sx x)) (he : ∀ x, TE (sx x) te e2 (y x)) : TE sp (lcI b (cG true) te vs (xs.map e1)) (oL e2) (mapT y xs) := by
  rw [← compT_map]
  exact lc_mm hm hw hb (fun x => te_ok (e := id) tv_c) he
theorem lc_mf {c : α → Bool} {y : α → Rs β} (hm : Mono b) (hw : wipeE vs sp = some spw) (hb : ∀ x, b (e1 x) spw = some (sx x)) (ht : ∀ x, TV (sx x) tt (c x)) (he : ∀ x, TE (sx x) te e2 (y x)) : TE sp (lcI b tt te vs (xs.map e1)) (oL e2) (mapT y (xs.filter c)) := by
  rw [← compT_fil]
  exact lc_mm hm hw hb (fun x => te_ok (e := id) (ht x)) he
theorem tv_of_te {δ : Type} {g : Ev → Rs δ} {e : α → δ} {a : α} (h : TE sp g e (.ok a)) : TV sp g (e a) := fun ρ H => h ρ H
theorem lc_vt {v : α → β} (hm : Mono b) (hw : wipeE vs sp = some spw) (hb : ∀ x, b (e1 x) spw = some (sx x)) (he : ∀ x, TV (sx x) te (e2 (v x))) : TV sp (lcI b (cG true) te vs (xs.map e1)) (oL e2 (xs.map v)) := by
  refine tv_of_te ?_
  rw [← mapT_ok (f := fun x => .ok (v x)) (h := v) fun x _ => rfl]
  exact lc_mt hm hw hb fun x => te_ok (he x)
theorem lc_vf {c : α → Bool} {v : α → β} (hm : Mono b) (hw : wipeE vs sp = some spw) (hb : ∀ x, b (e1 x) spw = some (sx x)) (ht : ∀ x, TV (sx x) tt (c x)) (he : ∀ x, TV (sx x) te (e2 (v x))) : TV sp (lcI b tt te vs (xs.map e1)) (oL e2 ((xs.filter c).map v)) := by
  refine tv_of_te ?_
  rw [← mapT_ok (f := fun x => .ok (v x)) (h := v) fun x _ => rfl]
  exact lc_mf hm hw hb ht fun x => te_ok (he x)
theorem tv_lc {o : O} (hi : TV sp gi (xs.map e1)) (h : TV sp (lcI b tt te vs (xs.map e1)) o) : TV sp (lcG gi b tt te vs) o := fun ρ H => by
  have := h ρ H
  unfold lcI at this
  unfold lcG
  rw [hi ρ H]
  exact this
theorem te_lc_v {eo : β → O} {y : Rs β} (hi : TV sp gi (xs.map e1)) (h : TE sp (lcI b tt te vs (xs.map e1)) eo y) : TE sp (lcG gi b tt te vs) eo y := fun ρ H => by
  have := h ρ H
  unfold lcI at this
  unfold lcG
  rw [hi ρ H]
  exact this
theorem te_lc_m {eo : β → O} {x : Rs (List α)} {Y : List α → Rs β} (hi : TE sp gi (fun xs => xs.map e1) x) (h : ∀ xs, TE sp (lcI b tt te vs (xs.map e1)) eo (Y xs)) : TE sp (lcG gi b tt te vs) eo (x.bind Y) :=
  te_bind (K := fun xs ρ => lcI b tt te vs xs ρ) hi h
end

/-! ### readings that change one list -/
def mapS {α β S : Type} (v : α → β) (x : Rs (α × S)) : Rs (β × S) := x.map fun r => (v r.1, r.2)
def withS {α S : Type} (s : S) (x : Rs α) : Rs (α × S) := x.map fun a => (a, s)
section
variable {α β γ S : Type}
@[simp] theorem mapS_ok {v : α → β} {r : α × S} : mapS v (.ok r) = .ok (v r.1, r.2) := rfl
@[simp] theorem withS_ok {s : S} {a : α} : withS s (.ok a) = .ok (a, s) := rfl
@[simp] theorem bnd2_map {v : α → β} {x : Rs (α × S)} {k : β → S → Rs γ} : bnd2 (mapS v x) k = bnd2 x fun a s => k (v a) s := by cases x <;> rfl
variable {δ ε : Type} {mk : S → Ev} {s : S}
def TM (mk : S → Ev) (s : S) (f : Ev → Rs (δ × Ev)) (e : α → δ) (x : Rs (α × S)) : Prop := ∀ ρ, Ag (mk s) ρ → match x with
  | .ok r => ∃ ρ', f ρ = .ok (e r.1, ρ') ∧ Ag (mk r.2) ρ'
  | .xc _ _ => False
  | .bad => True
theorem tm_bind {f : Ev → Rs (δ × Ev)} {K : δ → Ev → Rs (ε × Ev)} {e : α → δ} {e' : β → ε} {x : Rs (α × S)} {k : α → S → Rs (β × S)} (h : TM mk s f e x) (hk : ∀ a s, TM mk s (K (e a)) e' (k a s)) : TM mk s (fun ρ => mbind (f ρ) fun d ρ1 => K d ρ1) e' (bnd2 x k) := fun ρ H => by
  have := h ρ H
  cases x with
  | ok r =>
    obtain ⟨ρ1, h1, h2⟩ := this
    have h3 := hk r.1 r.2 ρ1 h2
    show match k r.1 r.2 with | .ok r => _ | .xc _ _ => False | .bad => True
    cases e : k r.1 r.2 with
    | ok q =>
      rw [e] at h3
      obtain ⟨ρ2, h4, h5⟩ := h3
      exact ⟨ρ2, by show mbind (f ρ) _ = _; rw [h1]; exact h4, h5⟩
    | xc n as => rw [e] at h3; exact h3
    | bad => trivial
  | xc n as => exact this.elim
  | bad => trivial
theorem tm_lift {g : Ev → Rs δ} {e : α → δ} {a : α} (h : TV (mk s) g (e a)) : TM mk s (lift g) e (.ok (a, s)) := fun ρ H => ⟨ρ, by show (g ρ).bind _ = _; rw [h ρ H]; rfl, H⟩
theorem tm_liftE {g : Ev → Rs δ} {e : α → δ} {x : Rs α} (h : TE (mk s) g e x) : TM mk s (lift g) e (withS s x) := fun ρ H => by
  have := h ρ H
  cases x with
  | ok a => exact ⟨ρ, by show (g ρ).bind _ = _; have h1 : g ρ = .ok (e a) := this; rw [h1]; rfl, H⟩
  | xc n as => exact this.elim
  | bad => trivial
theorem tm_map {f : Ev → Rs (δ × Ev)} {K : δ → Rs ε} {e : α → δ} {e' : β → ε} {x : Rs (α × S)} {v : α → β} (h : TM mk s f e x) (hk : ∀ a, K (e a) = .ok (e' (v a))) : TM mk s (fun ρ => mbind (f ρ) fun d ρ1 => (K d).bind fun c => .ok (c, ρ1)) e' (mapS v x) := fun ρ H => by
  have := h ρ H
  cases x with
  | ok r =>
    obtain ⟨ρ1, h1, h2⟩ := this
    exact ⟨ρ1, by show mbind (f ρ) _ = _; rw [h1, mbind_ok, hk]; rfl, h2⟩
  | xc n as => exact this.elim
  | bad => trivial
theorem tm_ret {K : Rs ε} {e' : β → ε} {y : Rs β} (h : Le (y.map e') K) : TM mk s (fun ρ => K.bind fun c => .ok (c, ρ)) e' (withS s y) := fun ρ H => by
  cases y with
  | ok b => exact ⟨ρ, by have h : K = .ok (e' b) := h; show K.bind _ = _; rw [h]; rfl, H⟩
  | xc n as => exact h.elim
  | bad => trivial
variable {h : D → D → Option D} {u : D → Option D} {fa fb : Ev → Rs (D × Ev)} {ga gb : Ev → Rs D} {d1 d2 : D} {e1 : α → D} {e2 : β → D} {e3 : γ → D} {x : Rs (α × S)} {y : S → Rs (β × S)}
/-- changing op value -/
theorem tm_op_v {v : α → γ} (hA : TM mk s fa e1 x) (hB : ∀ s, TV (mk s) gb d2) (q : ∀ a, h (e1 a) d2 = some (e3 (v a))) : TM mk s (opM h fa (lift gb)) e3 (mapS v x) := fun ρ H => by
  have := hA ρ H
  cases x with
  | ok r =>
    obtain ⟨ρ1, h1, h2⟩ := this
    refine ⟨ρ1, ?_, h2⟩
    unfold opM
    rw [h1, mbind_ok]
    show mbind ((gb ρ1).bind _) _ = _
    rw [hB r.2 ρ1 h2, Rs.bind_ok, mbind_ok, q]
    rfl
  | xc n as => exact this.elim
  | bad => trivial
theorem tm_op_vp {p : α → Rs γ} (hA : TM mk s fa e1 x) (hB : ∀ s, TV (mk s) gb d2) (q : ∀ a, Le ((p a).map e3) (Rs.of (h (e1 a) d2))) : TM mk s (opM h fa (lift gb)) e3 (bnd2 x fun a s => withS s (p a)) := tm_bind (K := fun d ρ1 => mbind (lift gb ρ1) fun e ρ2 => (Rs.of (h d e)).bind fun c => .ok (c, ρ2)) hA fun a s ρ H => by
  show match withS s (p a) with | .ok r => ∃ ρ', mbind (lift gb ρ) _ = _ ∧ _ | .xc _ _ => False | .bad => True
  have e : lift gb ρ = .ok (d2, ρ) := by show (gb ρ).bind _ = _; rw [hB s ρ H]; rfl
  rw [e]
  exact tm_ret (mk := mk) (q a) ρ H
/-- value op changing -/
theorem tm_op_w {v : β → γ} {y : Rs (β × S)} (hA : TV (mk s) ga d1) (hB : TM mk s fb e2 y) (q : ∀ b, h d1 (e2 b) = some (e3 (v b))) : TM mk s (opM h (lift ga) fb) e3 (mapS v y) := fun ρ H => by
  have := hB ρ H
  cases y with
  | ok r =>
    obtain ⟨ρ1, h1, h2⟩ := this
    refine ⟨ρ1, ?_, h2⟩
    unfold opM
    show mbind ((ga ρ).bind _) _ = _
    rw [hA ρ H, Rs.bind_ok, mbind_ok, h1, mbind_ok, q]
    rfl
  | xc n as => exact this.elim
  | bad => trivial
theorem tm_op_wp {p : β → Rs γ} {y : Rs (β × S)} (hA : TV (mk s) ga d1) (hB : TM mk s fb e2 y) (q : ∀ b, Le ((p b).map e3) (Rs.of (h d1 (e2 b)))) : TM mk s (opM h (lift ga) fb) e3 (bnd2 y fun b s => withS s (p b)) := fun ρ H => by
  have e : lift ga ρ = .ok (d1, ρ) := by show (ga ρ).bind _ = _; rw [hA ρ H]; rfl
  unfold opM
  rw [e, mbind_ok]
  exact tm_bind (K := fun e ρ2 => (Rs.of (h d1 e)).bind fun c => .ok (c, ρ2)) hB (fun b s => tm_ret (q b)) ρ H
theorem tm_op {p : α → β → Rs γ} (hA : TM mk s fa e1 x) (hB : ∀ s, TM mk s fb e2 (y s)) (q : ∀ a b, Le ((p a b).map e3) (Rs.of (h (e1 a) (e2 b)))) : TM mk s (opM h fa fb) e3 (bnd2 x fun a s => bnd2 (y s) fun b s => withS s (p a b)) :=
  tm_bind (K := fun d ρ1 => mbind (fb ρ1) fun e ρ2 => (Rs.of (h d e)).bind fun c => .ok (c, ρ2)) hA fun a s => tm_bind (K := fun e ρ2 => (Rs.of (h (e1 a) e)).bind fun c => .ok (c, ρ2)) (hB s) fun b s => tm_ret (q a b)
theorem tm_un {p : α → Rs γ} (hA : TM mk s fa e1 x) (q : ∀ a, Le ((p a).map e3) (Rs.of (u (e1 a)))) : TM mk s (unM u fa) e3 (bnd2 x fun a s => withS s (p a)) := tm_bind (K := fun d ρ1 => (Rs.of (u d)).bind fun c => .ok (c, ρ1)) hA fun a s => tm_ret (q a)
theorem tm_app {ω ω' : Type} {f : ω → Option ω'} {fs : Ev → Rs (ω × Ev)} {es : α → ω} {e3 : γ → ω'} {v : α → γ} (hS : TM mk s fs es x) (q : ∀ a, f (es a) = some (e3 (v a))) : TM mk s (appM f fs) e3 (mapS v x) := tm_map (K := fun d => Rs.of (f d)) hS fun a => by rw [q a]; rfl
theorem tm_app_p {ω ω' : Type} {f : ω → Option ω'} {fs : Ev → Rs (ω × Ev)} {es : α → ω} {e3 : γ → ω'} {p : α → Rs γ} (hS : TM mk s fs es x) (q : ∀ a, Le ((p a).map e3) (Rs.of (f (es a)))) : TM mk s (appM f fs) e3 (bnd2 x fun a s => withS s (p a)) := tm_bind (K := fun d ρ1 => (Rs.of (f d)).bind fun c => .ok (c, ρ1)) hS fun a s => tm_ret (q a)
/-- arguments all of which are values -/
def TL (sp : Ev) (fs : Ev → Rs (List D × Ev)) (ds : List D) : Prop := ∀ ρ, Ag sp ρ → fs ρ = .ok (ds, ρ)
variable {sp : Ev} {fs : Ev → Rs (List D × Ev)} {ds dds : List D} {es : β → List D}
theorem tl_nil : TL sp nilM [] := fun ρ H => rfl
theorem tl_noargs : TL sp (fun ρ => .ok ([], ρ)) [] := fun ρ H => rfl
theorem tl_cons {d : D} (hA : TV sp ga d) (hS : TL sp fs ds) : TL sp (consM (lift ga) fs) (d :: ds) := fun ρ H => by
  unfold consM
  show mbind ((ga ρ).bind _) _ = _
  rw [hA ρ H, Rs.bind_ok, mbind_ok, hS ρ H]
  rfl
theorem tm_cons_h (hA : TM mk s fa e1 x) (hS : ∀ s, TL (mk s) fs ds) : TM mk s (consM fa fs) (fun a => e1 a :: ds) x := fun ρ H => by
  have := hA ρ H
  cases x with
  | ok r =>
    obtain ⟨ρ1, h1, h2⟩ := this
    exact ⟨ρ1, by unfold consM; rw [h1, mbind_ok, hS r.2 ρ1 h2]; rfl, h2⟩
  | xc n as => exact this.elim
  | bad => trivial
theorem tm_cons_t {y : Rs (β × S)} {d : D} (hA : TV (mk s) ga d) (hS : TM mk s fs es y) : TM mk s (consM (lift ga) fs) (fun b => d :: es b) y := fun ρ H => by
  have := hS ρ H
  cases y with
  | ok r =>
    obtain ⟨ρ1, h1, h2⟩ := this
    exact ⟨ρ1, by unfold consM; show mbind ((ga ρ).bind _) _ = _; rw [hA ρ H, Rs.bind_ok, mbind_ok, h1]; rfl, h2⟩
  | xc n as => exact this.elim
  | bad => trivial
theorem tm_cons (hA : TM mk s fa e1 x) (hS : ∀ s, TM mk s fs es (y s)) : TM mk s (consM fa fs) (fun p : α × β => e1 p.1 :: es p.2) (bnd2 x fun a s => bnd2 (y s) fun b s => .ok ((a, b), s)) :=
  tm_bind (K := fun d ρ1 => mbind (fs ρ1) fun ds ρ2 => .ok (d :: ds, ρ2)) hA fun a s => tm_bind (K := fun ds ρ2 => .ok (e1 a :: ds, ρ2)) (hS s) fun b s ρ H => ⟨ρ, rfl, H⟩
theorem tm_cons_e {p : Rs α} {y : S → Rs (β × S)} (hA : TE (mk s) ga e1 p) (hS : ∀ s, TM mk s fs es (y s)) : TM mk s (consM (lift ga) fs) (fun p : α × β => e1 p.1 :: es p.2) (p.bind fun a => bnd2 (y s) fun b s => .ok ((a, b), s)) := fun ρ H => by
  have := tm_cons (tm_liftE hA) hS ρ H
  cases p with
  | ok a => exact this
  | xc n as => exact this
  | bad => trivial
/-- calls -/
theorem tm_call_l {ω : Type} {m : Nat} {f : List D → Rs ω} {e3 : γ → ω} {z : Rs γ} (hS : TL (mk s) fs ds) (q : Le (z.map e3) (f (ds ++ dds))) (hl : ds.length + dds.length = m := by rfl) : TM mk s (callM m f dds fs) e3 (withS s z) := fun ρ H => by
  unfold callM
  rw [hS ρ H, mbind_ok, if_pos hl]
  cases z with
  | ok c => have q : f (ds ++ dds) = .ok (e3 c) := q; exact ⟨ρ, by rw [q], H⟩
  | xc n as => exact q.elim
  | bad => trivial
theorem tm_call {ω : Type} {m : Nat} {f : List D → Rs ω} {e3 : γ → ω} {p : β → Rs γ} {y : Rs (β × S)} (hS : TM mk s fs es y) (q : ∀ b, Le ((p b).map e3) (f (es b ++ dds))) (hl : ∀ b, (es b).length + dds.length = m := by intro b; rfl) : TM mk s (callM m f dds fs) e3 (bnd2 y fun b s => withS s (p b)) :=
  tm_bind (K := fun (ds : List D) ρ1 => if ds.length + dds.length = m then (match f (ds ++ dds) with | .ok a => .ok (a, ρ1) | _ => .bad) else .bad) hS fun b s ρ H => by
    dsimp only
    rw [if_pos (hl b)]
    have q := q b
    cases z : p b with
    | ok c => rw [z] at q; have q : f (es b ++ dds) = .ok (e3 c) := q; exact ⟨ρ, by rw [q], H⟩
    | xc n as => rw [z] at q; exact q.elim
    | bad => trivial
theorem tm_io {ω : Type} {m i : Nat} {b : Bool} {f : O → List D → Rs (ω × O)} {e3 : γ → ω} {eo : S → O} {z : Rs (γ × S)} (hS : TL (mk s) fs ds) (q : Le (z.map fun r => (e3 r.1, eo r.2)) (f (eo s) (ds ++ dds))) (hi : (mk s)[i]? = some (some (.own b (eo s))) := by rfl) (hu : ∀ s', (mk s).set i (some (.own b (eo s'))) = mk s' := by intro _; rfl)
    (hl : ds.length + dds.length + 1 = m := by rfl) : TM mk s (callI m i f dds fs) e3 z := fun ρ H => by
  unfold callI
  rw [H.get hi]
  simp only
  rw [hS ρ H, mbind_ok, if_pos hl]
  simp only [H.get hi]
  cases z with
  | ok r => have q : f (eo s) (ds ++ dds) = .ok (e3 r.1, eo r.2) := q; exact ⟨ρ.set i (some (.own b (eo r.2))), by rw [q], by rw [← hu r.2]; exact H.set⟩
  | xc n as => exact q.elim
  | bad => trivial
theorem tm_mth {i : Nat} {b : Bool} {T : String} {m : O → List D → Option (D × O)} {e3 : γ → D} {eo : S → O} {z : Rs (γ × S)} (hS : TL (mk s) fs ds) (q : Le (z.map fun r => (e3 r.1, eo r.2)) (Rs.of (m (eo s) ds))) (hT : ownT (eo s) = T := by rfl) (hi : (mk s)[i]? = some (some (.own b (eo s))) := by rfl) (hu : ∀ s', (mk s).set i (some (.own b (eo s'))) = mk s' := by intro _; rfl) : TM mk s (mthM T i m fs) e3 z := fun ρ H => by
  unfold mthM
  rw [H.get hi]
  simp only
  rw [if_pos hT, hS ρ H, mbind_ok]
  simp only [H.get hi]
  cases z with
  | ok r =>
    have q : Rs.of (m (eo s) ds) = .ok (e3 r.1, eo r.2) := q
    have q : m (eo s) ds = some (e3 r.1, eo r.2) := by
      cases e : m (eo s) ds with
      | none => rw [e] at q; cases q
      | some w => rw [e] at q; cases q; rfl
    exact ⟨ρ.set i (some (.own b (eo r.2))), by rw [q], by rw [← hu r.2]; exact H.set⟩
  | xc n as => exact q.elim
  | bad => trivial
/-- tests, choices -/
theorem tm_bool {x : Rs (Bool × S)} (hA : TM mk s fa PyData.bool x) : TM mk s (boolTM fa) id x := fun ρ H => by
  have := hA ρ H
  cases x with
  | ok r =>
    obtain ⟨ρ1, h1, h2⟩ := this
    exact ⟨ρ1, by unfold boolTM; rw [h1]; rfl, h2⟩
  | xc n as => exact this.elim
  | bad => trivial
theorem tm_tru {t : α → Bool} (hA : TM mk s fa e1 x) (q : ∀ a, truD (e1 a) = some (t a)) : TM mk s (truTM fa) id (mapS t x) := tm_map (K := fun d => Rs.of (truD d)) hA fun a => by rw [q a]; rfl
section
variable {ta tb fc : Ev → Rs (Bool × Ev)} {x : Rs (Bool × S)} {y : S → Rs (Bool × S)}
theorem tm_not (hA : TM mk s ta id x) : TM mk s (notTM ta) id (mapS (fun b => !b) x) := fun ρ H => by
  have := hA ρ H
  cases x with
  | ok r =>
    obtain ⟨ρ1, h1, h2⟩ := this
    exact ⟨ρ1, by unfold notTM; rw [h1]; rfl, h2⟩
  | xc n as => exact this.elim
  | bad => trivial
theorem tm_and (hA : TM mk s ta id x) (hB : ∀ s, TM mk s tb id (y s)) : TM mk s (andTM ta tb) id (bnd2 x fun a s => if a = true then y s else .ok (false, s)) := tm_bind (K := fun k ρ1 => if k = true then tb ρ1 else .ok (false, ρ1)) hA fun a s ρ H => by
  cases a
  · exact ⟨ρ, rfl, H⟩
  · exact hB s ρ H
theorem tm_or (hA : TM mk s ta id x) (hB : ∀ s, TM mk s tb id (y s)) : TM mk s (orTM ta tb) id (bnd2 x fun a s => if a = true then .ok (true, s) else y s) := tm_bind (K := fun k ρ1 => if k = true then .ok (true, ρ1) else tb ρ1) hA fun a s ρ H => by
  cases a
  · exact hB s ρ H
  · exact ⟨ρ, rfl, H⟩
theorem tm_andD {fa fb : Ev → Rs (D × Ev)} (hA : TM mk s fa PyData.bool x) (hB : ∀ s, TM mk s fb PyData.bool (y s)) : TM mk s (andM fa fb) PyData.bool (bnd2 x fun a s => if a = true then y s else .ok (false, s)) := tm_bind (K := fun d ρ1 => (Rs.of (truD d)).bind fun k => if k = true then fb ρ1 else .ok (d, ρ1)) hA fun a s ρ H => by
  cases a
  · exact ⟨ρ, rfl, H⟩
  · exact hB s ρ H
theorem tm_orD {fa fb : Ev → Rs (D × Ev)} (hA : TM mk s fa PyData.bool x) (hB : ∀ s, TM mk s fb PyData.bool (y s)) : TM mk s (orM fa fb) PyData.bool (bnd2 x fun a s => if a = true then .ok (true, s) else y s) := tm_bind (K := fun d ρ1 => (Rs.of (truD d)).bind fun k => if k = true then .ok (d, ρ1) else fb ρ1) hA fun a s ρ H => by
  cases a
  · exact hB s ρ H
  · exact ⟨ρ, rfl, H⟩
theorem tm_if {ω : Type} {fa fb : Ev → Rs (ω × Ev)} {e : α → ω} {u v : S → Rs (α × S)} (hC : TM mk s fc id x) (hA : ∀ s, TM mk s fa e (u s)) (hB : ∀ s, TM mk s fb e (v s)) : TM mk s (ifM fc fa fb) e (bnd2 x fun c s => if c = true then u s else v s) := tm_bind (K := fun k ρ1 => if k = true then fa ρ1 else fb ρ1) hC fun a s ρ H => by
  cases a
  · exact hB s ρ H
  · exact hA s ρ H
theorem tm_if_v {ω : Type} {gc : Ev → Rs Bool} {c : Bool} {fa fb : Ev → Rs (ω × Ev)} {e : α → ω} {u v : Rs (α × S)} (hC : TV (mk s) gc c) (hA : TM mk s fa e u) (hB : TM mk s fb e v) : TM mk s (ifM (lift gc) fa fb) e (if c = true then u else v) := fun ρ H => by
  have e : lift gc ρ = .ok (c, ρ) := by show (gc ρ).bind _ = _; rw [hC ρ H]; rfl
  unfold ifM
  rw [e, mbind_ok]
  cases c
  · exact hB ρ H
  · exact hA ρ H
end
/-- frozen own results -/
theorem tm_frzM {f : Ev → Rs (O × Ev)} {e : α → O} (hA : TM mk s f e x) : TM mk s (frzM f) (fun a => (e a).dat) x := fun ρ H => by
  have := hA ρ H
  cases x with
  | ok r =>
    obtain ⟨ρ1, h1, h2⟩ := this
    exact ⟨ρ1, by unfold frzM; rw [h1]; rfl, h2⟩
  | xc n as => exact this.elim
  | bad => trivial
/-- another kind -/
theorem tm_conv {f : Ev → Rs (δ × Ev)} {e : α → δ} {e' : β → δ} {c : α → β} (h : TM mk s f e x) (q : ∀ a, e a = e' (c a)) : TM mk s f e' (mapS c x) := fun ρ H => by
  have := h ρ H
  cases x with
  | ok r =>
    obtain ⟨ρ1, h1, h2⟩ := this
    exact ⟨ρ1, by rw [h1, q], h2⟩
  | xc n as => exact this.elim
  | bad => trivial
/-- comprehensions that change a list -/
def compTS (f : α → S → Rs (Option β × S)) : List α → S → Rs (List β × S)
  | [], s => .ok ([], s)
  | x :: xs, s => bnd2 (f x s) fun o s => bnd2 (compTS f xs s) fun ys s => .ok (o.toList ++ ys, s)
def mapTS (f : α → S → Rs (β × S)) : List α → S → Rs (List β × S)
  | [], s => .ok ([], s)
  | x :: xs, s => bnd2 (f x s) fun y s => bnd2 (mapTS f xs s) fun ys s => .ok (y :: ys, s)
def tstS (c : Rs (Bool × S)) (y : S → Rs (β × S)) : Rs (Option β × S) := bnd2 c fun b s => if b = true then mapS some (y s) else .ok (none, s)
section
variable {b : D → Ev → Option Ev} {tt : Ev → Rs (Bool × Ev)} {te : Ev → Rs (D × Ev)} {vs : List Nat} {mkx : α → S → Ev} {xs : List α} {fi : Ev → Rs (List D × Ev)} {gi : Ev → Rs (List D)}
theorem tm_compM {body : D → Ev → Rs (Option D × Ev)} {f : α → S → Rs (Option β × S)} (h : ∀ x s, TM mk s (body (e1 x)) (fun o : Option β => o.map e2) (f x s)) : ∀ (xs : List α) (s : S), TM mk s (compM body (xs.map e1)) (fun ys => ys.map e2) (compTS f xs s)
  | [], s => fun ρ H => ⟨ρ, rfl, H⟩
  | x :: xs, s => by
    rw [List.map_cons]
    unfold compTS
    rw [show compM body (e1 x :: xs.map e1) = fun ρ => mbind (body (e1 x) ρ) fun o ρ1 => mbind (compM body (xs.map e1) ρ1) fun ys ρ2 => .ok (o.toList ++ ys, ρ2) from rfl]
    refine tm_bind (K := fun o ρ1 => mbind (compM body (xs.map e1) ρ1) fun ys ρ2 => .ok (o.toList ++ ys, ρ2)) (h x s) fun o s => ?_
    refine tm_bind (K := fun ys ρ2 => .ok ((o.map e2).toList ++ ys, ρ2)) (tm_compM h xs s) fun ys s ρ H => ⟨ρ, ?_, H⟩
    cases o <;> simp
theorem tm_lcBody {x : α} {c : Rs (Bool × S)} {y : S → Rs (β × S)} (hm : Mono b) (hw : ∀ s, wipeE vs (mkx x s) = some (mk s)) (hb : b (e1 x) (mk s) = some (mkx x s)) (ht : TM (mkx x) s tt id c) (he : ∀ s, TM (mkx x) s te e2 (y s)) : TM mk s (lcBodyM b tt te vs (e1 x)) (fun o : Option β => o.map e2) (tstS c y) := fun ρ0 H => by
  obtain ⟨ρ1, h1, h2⟩ := hm _ _ _ _ H hb
  have ht := ht ρ1 h2
  unfold lcBodyM
  rw [h1]
  cases c with
  | ok r =>
    obtain ⟨ρ2, h3, h4⟩ := ht
    obtain ⟨k, s⟩ := r
    have h3 : tt ρ1 = .ok (k, ρ2) := h3
    cases k with
    | false =>
      obtain ⟨ρ3, h5, h6⟩ := h4.wipe (hw s)
      exact ⟨ρ3, by simp only [h3, mbind_ok]; show wipeM vs none ρ2 = _; unfold wipeM; rw [h5]; rfl, h6⟩
    | true =>
      have he := he s ρ2 h4
      rw [show tstS (.ok (true, s)) y = mapS some (y s) from rfl]
      cases e : y s with
      | ok q =>
        rw [e] at he
        obtain ⟨ρ3, h5, h6⟩ := he
        obtain ⟨ρ4, h7, h8⟩ := h6.wipe (hw q.2)
        exact ⟨ρ4, by simp only [h3, mbind_ok, if_true]; rw [h5, mbind_ok]; unfold wipeM; rw [h7]; rfl, h8⟩
      | xc n as => rw [e] at he; exact he.elim
      | bad => trivial
  | xc n as => exact ht.elim
  | bad => trivial
theorem tm_lc {c : α → S → Rs (Bool × S)} {y : α → S → Rs (β × S)} (hi : TV (mk s) gi (xs.map e1)) (hm : Mono b) (hb : ∀ x s, b (e1 x) (mk s) = some (mkx x s)) (hw : ∀ x s, wipeE vs (mkx x s) = some (mk s)) (hv : wipeE vs (mk s) = some (mk s)) (ht : ∀ x s, TM (mkx x) s tt id (c x s)) (he : ∀ x s, TM (mkx x) s te e2 (y x s)) :
    TM mk s (lcM (lift gi) b tt te vs) (oL e2) (compTS (fun x s => tstS (c x s) (y x)) xs s) := fun ρ H => by
  obtain ⟨ρ0, h1, h2⟩ := H.wipe hv
  have e : lift gi ρ = .ok (xs.map e1, ρ) := by show (gi ρ).bind _ = _; rw [hi ρ H]; rfl
  unfold lcM
  rw [e, mbind_ok, h1]
  have := tm_compM (e1 := e1) (e2 := e2) (body := lcBodyM b tt te vs) (f := fun x s => tstS (c x s) (y x)) (mk := mk) (fun x s => tm_lcBody hm (hw x) (hb x s) (ht x s) (he x)) xs s ρ0 h2
  cases q : compTS (fun x s => tstS (c x s) (y x)) xs s with
  | ok r =>
    rw [q] at this
    obtain ⟨ρ', h3, h4⟩ := this
    exact ⟨ρ', by show mbind _ _ = _; rw [h3]; rfl, h4⟩
  | xc n as => rw [q] at this; exact this.elim
  | bad => trivial
theorem compTS_map {y : α → S → Rs (β × S)} : ∀ (xs : List α) (s : S), compTS (fun x s => tstS (.ok (true, s)) (y x)) xs s = mapTS y xs s
  | [], s => rfl
  | x :: xs, s => by
    unfold compTS mapTS
    show bnd2 (mapS some (y x s)) _ = _
    rw [bnd2_map]
    congr 1
    funext o s
    rw [compTS_map xs s]
    rfl
theorem tm_lc_t {y : α → S → Rs (β × S)} (hi : TV (mk s) gi (xs.map e1)) (hm : Mono b) (hb : ∀ x s, b (e1 x) (mk s) = some (mkx x s)) (hw : ∀ x s, wipeE vs (mkx x s) = some (mk s)) (hv : wipeE vs (mk s) = some (mk s)) (he : ∀ x s, TM (mkx x) s te e2 (y x s)) :
    TM mk s (lcM (lift gi) b (lift (cG true)) te vs) (oL e2) (mapTS y xs s) := by
  rw [← compTS_map]
  exact tm_lc hi hm hb hw hv (fun x s => tm_lift (e := id) tv_c) he
theorem tm_lc_E {x : Rs (List α)} {Y : List α → Rs (β × S)} {eo : β → O} (hi : TE (mk s) gi (fun xs => xs.map e1) x) (h : ∀ xs, TM mk s (lcM (lift fun _ => .ok (xs.map e1)) b tt te vs) eo (Y xs)) : TM mk s (lcM (lift gi) b tt te vs) eo (x.bind Y) := fun ρ H => by
  have h1 := hi ρ H
  cases x with
  | ok xs =>
    have h1 : gi ρ = .ok (xs.map e1) := h1
    have h2 := h xs ρ H
    have e : lcM (lift gi) b tt te vs ρ = lcM (lift fun _ => .ok (xs.map e1)) b tt te vs ρ := by
      unfold lcM lift
      rw [h1]
    show match Y xs with | .ok r => _ | .xc _ _ => False | .bad => True
    rw [e]
    exact h2
  | xc n as => exact h1.elim
  | bad => trivial
end
end

/-! ### own values that are frozen on the way -/
section
variable {α β γ δ ε : Type} {sp sp1 sp2 : Ev}
def TW (sp : Ev) (f : Ev → Rs (δ × Ev)) (d : δ) (sp' : Ev) : Prop := ∀ ρ, Ag sp ρ → ∃ ρ', f ρ = .ok (d, ρ') ∧ Ag sp' ρ'
def TF (sp : Ev) (f : Ev → Rs (δ × Ev)) (e : α → δ) (sp' : Ev) (x : Rs α) : Prop := ∀ ρ, Ag sp ρ → match x with
  | .ok a => ∃ ρ', f ρ = .ok (e a, ρ') ∧ Ag sp' ρ'
  | .xc _ _ => False
  | .bad => True
theorem tf_ok {f : Ev → Rs (δ × Ev)} {e : α → δ} {a : α} (h : TW sp f (e a) sp1) : TF sp f e sp1 (.ok a) := fun ρ H => h ρ H
theorem tw_cast {f : Ev → Rs (δ × Ev)} {d d' : δ} (h : TW sp f d sp1) (q : d = d') : TW sp f d' sp1 := q ▸ h
theorem tw_lift {g : Ev → Rs δ} {d : δ} (h : TV sp g d) : TW sp (lift g) d sp := fun ρ H => ⟨ρ, by show (g ρ).bind _ = _; rw [h ρ H]; rfl, H⟩
theorem tf_lift {g : Ev → Rs δ} {e : α → δ} {x : Rs α} (h : TE sp g e x) : TF sp (lift g) e sp x := fun ρ H => by
  have := h ρ H
  cases x with
  | ok a => exact ⟨ρ, by show (g ρ).bind _ = _; have h1 : g ρ = .ok (e a) := this; rw [h1]; rfl, H⟩
  | xc n as => exact this.elim
  | bad => trivial
theorem tw_frz {i : Nat} {o : O} (h : sp[i]? = some (some (.own false o))) : TW sp (frzV i) o.dat (sp.set i (some (.dat o.dat))) := fun ρ H => ⟨_, by unfold frzV; rw [H.get h], H.set⟩
theorem tw_frzD {i : Nat} {d : D} (h : sp[i]? = some (some (.dat d))) : TW sp (frzV i) d sp := fun ρ H => ⟨ρ, by unfold frzV; rw [H.get h], H⟩
theorem tw_give {i : Nat} {o : O} (h : sp[i]? = some (some (.own false o))) : TW sp (giveV i) o (sp.set i none) := fun ρ H => ⟨_, by unfold giveV; rw [H.get h], H.clr⟩
theorem tw_bind {f : Ev → Rs (δ × Ev)} {K : δ → Ev → Rs (ε × Ev)} {d : δ} {c : ε} (h : TW sp f d sp1) (hk : TW sp1 (K d) c sp2) : TW sp (fun ρ => mbind (f ρ) fun d ρ1 => K d ρ1) c sp2 := fun ρ H => by
  obtain ⟨ρ1, h1, h2⟩ := h ρ H
  obtain ⟨ρ2, h3, h4⟩ := hk ρ1 h2
  exact ⟨ρ2, by show mbind (f ρ) _ = _; rw [h1]; exact h3, h4⟩
theorem tf_bind {f : Ev → Rs (δ × Ev)} {K : δ → Ev → Rs (ε × Ev)} {e : α → δ} {e' : β → ε} {x : Rs α} {k : α → Rs β} (h : TF sp f e sp1 x) (hk : ∀ a, TF sp1 (K (e a)) e' sp2 (k a)) : TF sp (fun ρ => mbind (f ρ) fun d ρ1 => K d ρ1) e' sp2 (x.bind k) := fun ρ H => by
  have := h ρ H
  cases x with
  | ok a =>
    obtain ⟨ρ1, h1, h2⟩ := this
    have h3 := hk a ρ1 h2
    show match k a with | .ok r => _ | .xc _ _ => False | .bad => True
    cases e : k a with
    | ok q =>
      rw [e] at h3
      obtain ⟨ρ2, h4, h5⟩ := h3
      exact ⟨ρ2, by show mbind (f ρ) _ = _; rw [h1]; exact h4, h5⟩
    | xc n as => rw [e] at h3; exact h3
    | bad => trivial
  | xc n as => exact this.elim
  | bad => trivial
theorem tf_bindW {f : Ev → Rs (δ × Ev)} {K : δ → Ev → Rs (ε × Ev)} {d : δ} {e' : β → ε} {y : Rs β} (h : TW sp f d sp1) (hk : TF sp1 (K d) e' sp2 y) : TF sp (fun ρ => mbind (f ρ) fun d ρ1 => K d ρ1) e' sp2 y := fun ρ H => by
  obtain ⟨ρ1, h1, h2⟩ := h ρ H
  have h3 := hk ρ1 h2
  cases y with
  | ok q =>
    obtain ⟨ρ2, h4, h5⟩ := h3
    exact ⟨ρ2, by show mbind (f ρ) _ = _; rw [h1]; exact h4, h5⟩
  | xc n as => exact h3
  | bad => trivial
theorem tw_ret {K : Rs ε} {c : ε} (h : K = .ok c) : TW sp (fun ρ => K.bind fun c => .ok (c, ρ)) c sp := fun ρ H => ⟨ρ, by show K.bind _ = _; rw [h]; rfl, H⟩
theorem tf_ret {K : Rs ε} {e' : β → ε} {y : Rs β} (h : Le (y.map e') K) : TF sp (fun ρ => K.bind fun c => .ok (c, ρ)) e' sp y := fun ρ H => by
  cases y with
  | ok b => exact ⟨ρ, by have h : K = .ok (e' b) := h; show K.bind _ = _; rw [h]; rfl, H⟩
  | xc n as => exact h.elim
  | bad => trivial
variable {h : D → D → Option D} {fa fb : Ev → Rs (D × Ev)} {d1 d2 d3 : D} {e1 : α → D} {e2 : β → D} {e3 : γ → D}
theorem tw_op (hA : TW sp fa d1 sp1) (hB : TW sp1 fb d2 sp2) (q : h d1 d2 = some d3) : TW sp (opM h fa fb) d3 sp2 := tw_bind (K := fun d ρ1 => mbind (fb ρ1) fun e ρ2 => (Rs.of (h d e)).bind fun c => .ok (c, ρ2)) hA (tw_bind (K := fun e ρ2 => (Rs.of (h d1 e)).bind fun c => .ok (c, ρ2)) hB (tw_ret (by rw [q]; rfl)))
theorem tf_op_ww {z : Rs γ} (hA : TW sp fa d1 sp1) (hB : TW sp1 fb d2 sp2) (q : Le (z.map e3) (Rs.of (h d1 d2))) : TF sp (opM h fa fb) e3 sp2 z := tf_bindW (K := fun d ρ1 => mbind (fb ρ1) fun e ρ2 => (Rs.of (h d e)).bind fun c => .ok (c, ρ2)) hA (tf_bindW (K := fun e ρ2 => (Rs.of (h d1 e)).bind fun c => .ok (c, ρ2)) hB (tf_ret q))
theorem tf_op {x : Rs α} {y : Rs β} {p : α → β → Rs γ} (hA : TF sp fa e1 sp1 x) (hB : TF sp1 fb e2 sp2 y) (q : ∀ a b, Le ((p a b).map e3) (Rs.of (h (e1 a) (e2 b)))) : TF sp (opM h fa fb) e3 sp2 (x.bind fun a => y.bind fun b => p a b) := tf_bind (K := fun d ρ1 => mbind (fb ρ1) fun e ρ2 => (Rs.of (h d e)).bind fun c => .ok (c, ρ2)) hA fun a => tf_bind (K := fun e ρ2 => (Rs.of (h (e1 a) e)).bind fun c => .ok (c, ρ2)) hB fun b => tf_ret (q a b)
variable {fs : Ev → Rs (List D × Ev)} {ds dds : List D} {es : β → List D}
theorem tw_nil : TW sp nilM [] sp := fun ρ H => ⟨ρ, rfl, H⟩
theorem tw_cons (hA : TW sp fa d1 sp1) (hS : TW sp1 fs ds sp2) : TW sp (consM fa fs) (d1 :: ds) sp2 := tw_bind (K := fun d ρ1 => mbind (fs ρ1) fun ds ρ2 => .ok (d :: ds, ρ2)) hA (tw_bind (K := fun ds ρ2 => .ok (d1 :: ds, ρ2)) hS fun ρ H => ⟨ρ, rfl, H⟩)
theorem tf_cons_mw {x : Rs α} (hA : TF sp fa e1 sp1 x) (hS : TW sp1 fs ds sp2) : TF sp (consM fa fs) (fun a => e1 a :: ds) sp2 x := fun ρ H => by
  have := hA ρ H
  cases x with
  | ok a =>
    obtain ⟨ρ1, h1, h2⟩ := this
    obtain ⟨ρ2, h3, h4⟩ := hS ρ1 h2
    exact ⟨ρ2, by unfold consM; rw [h1, mbind_ok, h3]; rfl, h4⟩
  | xc n as => exact this.elim
  | bad => trivial
theorem tf_cons_wm {y : Rs β} (hA : TW sp fa d1 sp1) (hS : TF sp1 fs es sp2 y) : TF sp (consM fa fs) (fun b => d1 :: es b) sp2 y := fun ρ H => by
  obtain ⟨ρ1, h1, h2⟩ := hA ρ H
  have := hS ρ1 h2
  cases y with
  | ok a =>
    obtain ⟨ρ2, h3, h4⟩ := this
    exact ⟨ρ2, by unfold consM; rw [h1, mbind_ok, h3]; rfl, h4⟩
  | xc n as => exact this.elim
  | bad => trivial
theorem tf_cons {x : Rs α} {y : Rs β} (hA : TF sp fa e1 sp1 x) (hS : TF sp1 fs es sp2 y) : TF sp (consM fa fs) (fun p : α × β => e1 p.1 :: es p.2) sp2 (x.bind fun a => y.bind fun b => .ok (a, b)) := tf_bind (K := fun d ρ1 => mbind (fs ρ1) fun ds ρ2 => .ok (d :: ds, ρ2)) hA fun a => tf_bind (K := fun ds ρ2 => .ok (e1 a :: ds, ρ2)) hS fun b ρ H => ⟨ρ, rfl, H⟩
theorem tw_app {ω ω' : Type} {f : ω → Option ω'} {fs : Ev → Rs (ω × Ev)} {ds : ω} {c : ω'} (hS : TW sp fs ds sp1) (q : f ds = some c) : TW sp (appM f fs) c sp1 := tw_bind (K := fun d ρ1 => (Rs.of (f d)).bind fun c => .ok (c, ρ1)) hS (tw_ret (by rw [q]; rfl))
theorem tf_app_w {ω ω' : Type} {f : ω → Option ω'} {fs : Ev → Rs (ω × Ev)} {ds : ω} {e3 : γ → ω'} {z : Rs γ} (hS : TW sp fs ds sp1) (q : Le (z.map e3) (Rs.of (f ds))) : TF sp (appM f fs) e3 sp1 z := tf_bindW (K := fun d ρ1 => (Rs.of (f d)).bind fun c => .ok (c, ρ1)) hS (tf_ret q)
theorem tf_app {ω ω' : Type} {f : ω → Option ω'} {fs : Ev → Rs (ω × Ev)} {es : β → ω} {e3 : γ → ω'} {y : Rs β} {p : β → Rs γ} (hS : TF sp fs es sp1 y) (q : ∀ b, Le ((p b).map e3) (Rs.of (f (es b)))) : TF sp (appM f fs) e3 sp1 (y.bind p) := tf_bind (K := fun d ρ1 => (Rs.of (f d)).bind fun c => .ok (c, ρ1)) hS fun b => tf_ret (q b)
theorem tf_call_w {ω : Type} {m : Nat} {f : List D → Rs ω} {e3 : γ → ω} {z : Rs γ} (hS : TW sp fs ds sp1) (q : Le (z.map e3) (f (ds ++ dds))) (hl : ds.length + dds.length = m := by rfl) : TF sp (callM m f dds fs) e3 sp1 z := tf_bindW (K := fun (ds : List D) ρ1 => if ds.length + dds.length = m then (match f (ds ++ dds) with | .ok a => .ok (a, ρ1) | _ => .bad) else .bad) hS fun ρ H => by
  dsimp only
  rw [if_pos hl]
  cases z with
  | ok c => have q : f (ds ++ dds) = .ok (e3 c) := q; exact ⟨ρ, by rw [q], H⟩
  | xc n as => exact q.elim
  | bad => trivial
theorem tf_call {ω : Type} {m : Nat} {f : List D → Rs ω} {e3 : γ → ω} {y : Rs β} {p : β → Rs γ} (hS : TF sp fs es sp1 y) (q : ∀ b, Le ((p b).map e3) (f (es b ++ dds))) (hl : ∀ b, (es b).length + dds.length = m := by intro b; rfl) : TF sp (callM m f dds fs) e3 sp1 (y.bind p) := tf_bind (K := fun (ds : List D) ρ1 => if ds.length + dds.length = m then (match f (ds ++ dds) with | .ok a => .ok (a, ρ1) | _ => .bad) else .bad) hS fun b ρ H => by
  dsimp only
  rw [if_pos (hl b)]
  have q := q b
  cases z : p b with
  | ok c => rw [z] at q; have q : f (es b ++ dds) = .ok (e3 c) := q; exact ⟨ρ, by rw [q], H⟩
  | xc n as => rw [z] at q; exact q.elim
  | bad => trivial
theorem tw_frzM {f : Ev → Rs (O × Ev)} {o : O} (hA : TW sp f o sp1) : TW sp (frzM f) o.dat sp1 := fun ρ H => by
  obtain ⟨ρ1, h1, h2⟩ := hA ρ H
  exact ⟨ρ1, by unfold frzM; rw [h1]; rfl, h2⟩
theorem tf_frzM {f : Ev → Rs (O × Ev)} {e : α → O} {x : Rs α} (hA : TF sp f e sp1 x) : TF sp (frzM f) (fun a => (e a).dat) sp1 x := fun ρ H => by
  have := hA ρ H
  cases x with
  | ok a => obtain ⟨ρ1, h1, h2⟩ := this; exact ⟨ρ1, by unfold frzM; rw [h1]; rfl, h2⟩
  | xc n as => exact this.elim
  | bad => trivial
theorem tw_bool {c : Bool} (hA : TW sp fa (.bool c) sp1) : TW sp (boolTM fa) c sp1 := fun ρ H => by
  obtain ⟨ρ1, h1, h2⟩ := hA ρ H
  exact ⟨ρ1, by unfold boolTM; rw [h1]; rfl, h2⟩
theorem tf_bool {x : Rs Bool} (hA : TF sp fa PyData.bool sp1 x) : TF sp (boolTM fa) id sp1 x := fun ρ H => by
  have := hA ρ H
  cases x with
  | ok a => obtain ⟨ρ1, h1, h2⟩ := this; exact ⟨ρ1, by unfold boolTM; rw [h1]; rfl, h2⟩
  | xc n as => exact this.elim
  | bad => trivial
theorem tw_tru {c : Bool} (hA : TW sp fa d1 sp1) (q : truD d1 = some c) : TW sp (truTM fa) c sp1 := tw_bind (K := fun d ρ1 => (Rs.of (truD d)).bind fun k => .ok (k, ρ1)) hA (tw_ret (by rw [q]; rfl))
theorem tf_tru {x : Rs α} {t : α → Bool} (hA : TF sp fa e1 sp1 x) (q : ∀ a, truD (e1 a) = some (t a)) : TF sp (truTM fa) id sp1 (x.map t) := fun ρ H => by
  have := hA ρ H
  cases x with
  | ok a => obtain ⟨ρ1, h1, h2⟩ := this; exact ⟨ρ1, by unfold truTM; rw [h1, mbind_ok, q]; rfl, h2⟩
  | xc n as => exact this.elim
  | bad => trivial
theorem tw_not {ta : Ev → Rs (Bool × Ev)} {c : Bool} (hA : TW sp ta c sp1) : TW sp (notTM ta) (!c) sp1 := fun ρ H => by
  obtain ⟨ρ1, h1, h2⟩ := hA ρ H
  exact ⟨ρ1, by unfold notTM; rw [h1]; rfl, h2⟩
theorem tf_not {ta : Ev → Rs (Bool × Ev)} {x : Rs Bool} (hA : TF sp ta id sp1 x) : TF sp (notTM ta) id sp1 (x.map fun b => !b) := fun ρ H => by
  have := hA ρ H
  cases x with
  | ok a => obtain ⟨ρ1, h1, h2⟩ := this; exact ⟨ρ1, by unfold notTM; rw [h1]; rfl, h2⟩
  | xc n as => exact this.elim
  | bad => trivial
theorem tf_conv {f : Ev → Rs (δ × Ev)} {e : α → δ} {e' : β → δ} {c : α → β} {x : Rs α} (h : TF sp f e sp1 x) (q : ∀ a, e a = e' (c a)) : TF sp f e' sp1 (x.map c) := fun ρ H => by
  have := h ρ H
  cases x with
  | ok a => obtain ⟨ρ1, h1, h2⟩ := this; exact ⟨ρ1, by rw [h1, q], h2⟩
  | xc n as => exact this.elim
  | bad => trivial
/-- a comprehension over what is frozen on the way -/
theorem tf_lcM {b : D → Ev → Option Ev} {tt : Ev → Rs Bool} {te : Ev → Rs D} {vs : List Nat} {fi : Ev → Rs (List D × Ev)} {xs : List α} {eo : β → O} {y : Rs β} (hi : TW sp fi (xs.map e1) sp1) (hw : wipeE vs sp1 = some sp2) (hm : Mono b) {sx : α → Ev} (hb : ∀ x, b (e1 x) sp2 = some (sx x)) (hv : ∀ x, wipeE vs (sx x) = some sp2)
    {c : α → Rs Bool} {z : α → Rs γ} (ht : ∀ x, TE (sx x) tt id (c x)) (he : ∀ x, TE (sx x) te e3 (z x)) : TF sp (lcM fi b (lift tt) (lift te) vs) (oL e3) sp2 (compT (fun x => tst (c x) (z x)) xs) := fun ρ H => by
  obtain ⟨ρ1, h1, h2⟩ := hi ρ H
  obtain ⟨ρ2, h3, h4⟩ := h2.wipe hw
  have key : ∀ xs : List α, ∀ ρ2, Ag sp2 ρ2 → match compT (fun x => tst (c x) (z x)) xs with | .ok ys => ∃ ρ', compM (lcBodyM b (lift tt) (lift te) vs) (xs.map e1) ρ2 = .ok (ys.map e3, ρ') ∧ Ag sp2 ρ' | .xc _ _ => False | .bad => True := fun xs => by
    induction xs with
    | nil => exact fun ρ2 H2 => ⟨ρ2, rfl, H2⟩
    | cons x xs ih =>
      intro ρ2 H2
      have hx : TF sp2 (lcBodyM b (lift tt) (lift te) vs (e1 x)) (fun o : Option γ => o.map e3) sp2 (tst (c x) (z x)) := fun ρ3 H3 => by
        obtain ⟨ρ4, q1, q2⟩ := hm _ _ _ _ H3 (hb x)
        have t := ht x ρ4 q2
        unfold lcBodyM tst
        rw [q1]
        cases ec : c x with
        | ok k =>
          rw [ec] at t
          have t : tt ρ4 = .ok k := t
          have t2 : lift tt ρ4 = .ok (k, ρ4) := by show (tt ρ4).bind _ = _; rw [t]; rfl
          cases k with
          | false =>
            obtain ⟨ρ5, q3, q4⟩ := q2.wipe (hv x)
            exact ⟨ρ5, by simp only [t2, mbind_ok]; show wipeM vs none ρ4 = _; unfold wipeM; rw [q3]; rfl, q4⟩
          | true =>
            have t3 := he x ρ4 q2
            rw [show ((Rs.ok true).bind fun b => if b = true then (z x).map some else .ok none) = (z x).map some from rfl]
            cases ez : z x with
            | ok w =>
              rw [ez] at t3
              have t3 : te ρ4 = .ok (e3 w) := t3
              have t4 : lift te ρ4 = .ok (e3 w, ρ4) := by show (te ρ4).bind _ = _; rw [t3]; rfl
              obtain ⟨ρ5, q3, q4⟩ := q2.wipe (hv x)
              exact ⟨ρ5, by simp only [t2, mbind_ok, if_true]; rw [t4, mbind_ok]; unfold wipeM; rw [q3]; rfl, q4⟩
            | xc n as => rw [ez] at t3; exact t3.elim
            | bad => trivial
        | xc n as => rw [ec] at t; exact t.elim
        | bad => trivial
      have h0 := hx ρ2 H2
      unfold compT
      cases e : tst (c x) (z x) with
      | ok o =>
        rw [e] at h0
        obtain ⟨ρ3, q1, q2⟩ := h0
        have h5 := ih ρ3 q2
        show match (compT (fun x => tst (c x) (z x)) xs).bind fun ys => .ok (o.toList ++ ys) with | .ok r => _ | .xc _ _ => False | .bad => True
        cases e2 : compT (fun x => tst (c x) (z x)) xs with
        | ok ys =>
          rw [e2] at h5
          obtain ⟨ρ4, q3, q4⟩ := h5
          refine ⟨ρ4, ?_, q4⟩
          rw [List.map_cons, compM_cons, q1, mbind_ok, q3, mbind_ok]
          cases o <;> simp
        | xc n as => rw [e2] at h5; exact h5.elim
        | bad => trivial
      | xc n as => rw [e] at h0; exact h0.elim
      | bad => trivial
  have k := key xs ρ2 h4
  unfold lcM
  rw [h1, mbind_ok, h3]
  cases e : compT (fun x => tst (c x) (z x)) xs with
  | ok ys =>
    rw [e] at k
    obtain ⟨ρ3, q1, q2⟩ := k
    exact ⟨ρ3, by show mbind _ _ = _; rw [q1]; rfl, q2⟩
  | xc n as => rw [e] at k; exact k.elim
  | bad => trivial
end
end TL
/-! T3: statements, loops, defs, read with kinds. -/
namespace TL
open PySem PySem.Spec PyProof.Rows L2 DL

inductive TO (ω S : Type) where
  | rt (o : ω)
  | bk (s : S)
  | nx (s : S)
def forR {α S : Type} (f : α → S → Rs S) : List α → S → Rs S
  | [], s => .ok s
  | x :: xs, s => (f x s).bind (forR f xs)
def forF {α ω S : Type} (f : α → S → Rs (TO ω S)) : List α → S → Rs (TO ω S)
  | [], s => .ok (.nx s)
  | x :: xs, s => (f x s).bind fun o => match o with
    | .rt o => .ok (.rt o)
    | .bk s => .ok (.nx s)
    | .nx s => forF f xs s
def bndTO {ω S : Type} (x : Rs (TO ω S)) (k : S → Rs ω) : Rs ω := x.bind fun o => match o with
  | .rt o => .ok o
  | .bk s => k s
  | .nx s => k s
def whR {S : Type} (f : S → Rs (Bool × S)) : Nat → S → Rs S
  | 0, _ => .bad
  | n + 1, s => bnd2 (f s) fun b s => if b = true then whR f n s else .ok s
@[simp] theorem bndTO_rt {ω S : Type} {o : ω} {k : S → Rs ω} : bndTO (.ok (.rt o)) k = .ok o := rfl
@[simp] theorem bndTO_nx {ω S : Type} {s : S} {k : S → Rs ω} : bndTO (.ok (.nx s)) k = k s := rfl
@[simp] theorem bndTO_bk {ω S : Type} {s : S} {k : S → Rs ω} : bndTO (.ok (.bk s)) k = k s := rfl

/-! ### what a block ends with -/
def TB (sp : Ev) (f : Ev → Out) {ω : Type} (I : ω → Out → Prop) (T : Rs ω) : Prop := ∀ ρ, Ag sp ρ → match T with
  | .ok o => I o (f ρ)
  | .xc _ _ => False
  | .bad => True
/-- a block in a def's own end -/
def IT {ω : Type} (RR : ω → D → Ev → Prop) (o : ω) : Out → Prop
  | .rt d ρ => RR o d ρ
  | .nx ρ => RR o .none ρ
  | _ => False
def IO {ω : Type} (RR : ω → O → Ev → Prop) (o : ω) : Out → Prop
  | .ro d ρ => RR o d ρ
  | _ => False
def IN {S : Type} (mk : S → Ev) (s : S) (o : Out) : Prop := ∃ ρ, o = .nx ρ ∧ Ag (mk s) ρ
def IL {S : Type} (mk : S → Ev) (s : S) (o : Out) : Prop := ∃ ρ, (o = .nx ρ ∨ o = .ct ρ) ∧ Ag (mk s) ρ
def IC {S : Type} (mk : S → Ev) (s : S) (o : Out) : Prop := ∃ ρ, o = .ct ρ ∧ Ag (mk s) ρ
def NoNx (o : Out) : Prop := ∀ ρ, o ≠ .nx ρ
def isRt : Out → Prop
  | .rt _ _ => True
  | .ro _ _ => True
  | _ => False
/-- a loop's body -/
def IF {ω S : Type} (I : ω → Out → Prop) (mk : S → Ev) : TO ω S → Out → Prop
  | .rt r, o => I r o ∧ isRt o
  | .bk s, o => ∃ ρ, o = .bk ρ ∧ Ag (mk s) ρ
  | .nx s, o => ∃ ρ, (o = .nx ρ ∨ o = .ct ρ) ∧ Ag (mk s) ρ
/-- a choice that may end the block -/
def IJ {ω S : Type} (I : ω → Out → Prop) (mk : S → Ev) : TO ω S → Out → Prop
  | .rt r, o => I r o ∧ NoNx o
  | .bk _, _ => False
  | .nx s, o => ∃ ρ, o = .nx ρ ∧ Ag (mk s) ρ
/-- what does not go on -/
def IX {ω : Type} (I : ω → Out → Prop) (r : ω) (o : Out) : Prop := I r o ∧ NoNx o
section
variable {sp sp1 : Ev} {α β γ δ ω S : Type} {I : ω → Out → Prop} {T : Rs ω} {f g : Ev → Out} {rest : Ev → Out}
theorem tb_bad : TB sp f I .bad := fun ρ H => trivial
theorem tb_last (h : TB sp (seqS f fun ρ => .nx ρ) I T) : TB sp f I T := fun ρ H => by
  have := h ρ H
  have e : seqS f (fun ρ => .nx ρ) ρ = f ρ := by unfold seqS; cases f ρ <;> rfl
  rw [e] at this
  exact this
theorem tb_skip (h : TB sp rest I T) : TB sp (seqS (fun ρ => .nx ρ) rest) I T := h
theorem tb_weak {sp' : Ev} (w : Wk sp' sp) (h : TB sp' f I T) : TB sp f I T := fun ρ H => h ρ (w.ag H)
/-! values -/
theorem tb_v {g : Ev → Rs δ} {K : δ → Ev → Out} {d : δ} (h : TV sp g d) (q : TB sp (seqS (K d) rest) I T) : TB sp (seqS (outG g K) rest) I T := fun ρ H => by
  have := q ρ H
  have e : seqS (outG g K) rest ρ = seqS (K d) rest ρ := by unfold seqS outG; rw [h ρ H]
  rw [e]
  exact this
theorem tb_e {g : Ev → Rs δ} {K : δ → Ev → Out} {e : α → δ} {x : Rs α} {T : α → Rs ω} (h : TE sp g e x) (q : ∀ a, TB sp (seqS (K (e a)) rest) I (T a)) : TB sp (seqS (outG g K) rest) I (x.bind T) := fun ρ H => by
  have h1 := h ρ H
  cases x with
  | ok a =>
    have := q a ρ H
    have e : seqS (outG g K) rest ρ = seqS (K (e a)) rest ρ := by unfold seqS outG; have h1 : g ρ = .ok (e a) := h1; rw [h1]
    rw [e]
    exact this
  | xc n as => exact h1.elim
  | bad => trivial
theorem tb_c {f : Ev → Rs (δ × Ev)} {K : δ → Ev → Out} {mk : S → Ev} {s : S} {e : α → δ} {x : Rs (α × S)} {T : α → S → Rs ω} (h : TM mk s f e x) (q : ∀ a s, TB (mk s) (seqS (K (e a)) rest) I (T a s)) : TB (mk s) (seqS (outM f K) rest) I (bnd2 x T) := fun ρ H => by
  have h1 := h ρ H
  cases x with
  | ok r =>
    obtain ⟨ρ1, h1, h2⟩ := h1
    have := q r.1 r.2 ρ1 h2
    have e : seqS (outM f K) rest ρ = seqS (K (e r.1)) rest ρ1 := by unfold seqS outM; rw [h1]
    rw [e]
    exact this
  | xc n as => exact h1.elim
  | bad => trivial
theorem tb_w {f : Ev → Rs (δ × Ev)} {K : δ → Ev → Out} {d : δ} (h : TW sp f d sp1) (q : TB sp1 (seqS (K d) rest) I T) : TB sp (seqS (outM f K) rest) I T := fun ρ H => by
  obtain ⟨ρ1, h1, h2⟩ := h ρ H
  have := q ρ1 h2
  have e : seqS (outM f K) rest ρ = seqS (K d) rest ρ1 := by unfold seqS outM; rw [h1]
  rw [e]
  exact this
theorem tb_f {f : Ev → Rs (δ × Ev)} {K : δ → Ev → Out} {e : α → δ} {x : Rs α} {T : α → Rs ω} (h : TF sp f e sp1 x) (q : ∀ a, TB sp1 (seqS (K (e a)) rest) I (T a)) : TB sp (seqS (outM f K) rest) I (x.bind T) := fun ρ H => by
  have h1 := h ρ H
  cases x with
  | ok a =>
    obtain ⟨ρ1, h1, h2⟩ := h1
    have := q a ρ1 h2
    have e : seqS (outM f K) rest ρ = seqS (K (e a)) rest ρ1 := by unfold seqS outM; rw [h1]
    rw [e]
    exact this
  | xc n as => exact h1.elim
  | bad => trivial
/-! the same at a block's end -/
theorem lst_v {g : Ev → Rs δ} {K : δ → Ev → Out} {d : δ} (h : TV sp g d) (q : TB sp (K d) I T) : TB sp (outG g K) I T := fun ρ H => by
  have := q ρ H
  have e : outG g K ρ = K d ρ := by unfold outG; rw [h ρ H]
  rw [e]
  exact this
theorem lst_e {g : Ev → Rs δ} {K : δ → Ev → Out} {e : α → δ} {x : Rs α} {T : α → Rs ω} (h : TE sp g e x) (q : ∀ a, TB sp (K (e a)) I (T a)) : TB sp (outG g K) I (x.bind T) := fun ρ H => by
  have h1 := h ρ H
  cases x with
  | ok a =>
    have := q a ρ H
    have e : outG g K ρ = K (e a) ρ := by unfold outG; have h1 : g ρ = .ok (e a) := h1; rw [h1]
    rw [e]
    exact this
  | xc n as => exact h1.elim
  | bad => trivial
theorem lst_c {f : Ev → Rs (δ × Ev)} {K : δ → Ev → Out} {mk : S → Ev} {s : S} {e : α → δ} {x : Rs (α × S)} {T : α → S → Rs ω} (h : TM mk s f e x) (q : ∀ a s, TB (mk s) (K (e a)) I (T a s)) : TB (mk s) (outM f K) I (bnd2 x T) := fun ρ H => by
  have h1 := h ρ H
  cases x with
  | ok r =>
    obtain ⟨ρ1, h1, h2⟩ := h1
    have := q r.1 r.2 ρ1 h2
    have e : outM f K ρ = K (e r.1) ρ1 := by unfold outM; rw [h1]
    rw [e]
    exact this
  | xc n as => exact h1.elim
  | bad => trivial
theorem lst_w {f : Ev → Rs (δ × Ev)} {K : δ → Ev → Out} {d : δ} (h : TW sp f d sp1) (q : TB sp1 (K d) I T) : TB sp (outM f K) I T := fun ρ H => by
  obtain ⟨ρ1, h1, h2⟩ := h ρ H
  have := q ρ1 h2
  have e : outM f K ρ = K d ρ1 := by unfold outM; rw [h1]
  rw [e]
  exact this
theorem lst_f {f : Ev → Rs (δ × Ev)} {K : δ → Ev → Out} {e : α → δ} {x : Rs α} {T : α → Rs ω} (h : TF sp f e sp1 x) (q : ∀ a, TB sp1 (K (e a)) I (T a)) : TB sp (outM f K) I (x.bind T) := fun ρ H => by
  have h1 := h ρ H
  cases x with
  | ok a =>
    obtain ⟨ρ1, h1, h2⟩ := h1
    have := q a ρ1 h2
    have e : outM f K ρ = K (e a) ρ1 := by unfold outM; rw [h1]
    rw [e]
    exact this
  | xc n as => exact h1.elim
  | bad => trivial
/-! what is done with a value -/
theorem tb_opt {b : Ev → Option Ev} (hb : ∀ ρ, Ag sp ρ → ∃ ρ', b ρ = some ρ' ∧ Ag sp1 ρ') (q : TB sp1 rest I T) : TB sp (seqS (fun ρ => optO (b ρ) .nx) rest) I T := fun ρ H => by
  obtain ⟨ρ1, h1, h2⟩ := hb ρ H
  have := q ρ1 h2
  have e : seqS (fun ρ => optO (b ρ) .nx) rest ρ = rest ρ1 := by
    show (match optO (b ρ) .nx with | .nx ρ' => rest ρ' | o => o) = _
    rw [h1]
    rfl
  rw [e]
  exact this
theorem tb_set {i : Nat} {d : D} (hs : setE i (some (.dat d)) sp = some sp1) (q : TB sp1 rest I T) : TB sp (seqS (setS i d) rest) I T := tb_opt (fun ρ H => H.setE hs) q
theorem tb_setO {i : Nat} {o : O} (hs : setE i (some (.own false o)) sp = some sp1) (q : TB sp1 rest I T) : TB sp (seqS (setOS i o) rest) I T := tb_opt (fun ρ H => H.setE hs) q
theorem tb_asg {b : D → Ev → Option Ev} {d : D} (hm : Mono b) (hb : b d sp = some sp1) (q : TB sp1 rest I T) : TB sp (seqS (fun ρ => optO (b d ρ) .nx) rest) I T := tb_opt (fun ρ H => hm d sp ρ sp1 H hb) q
theorem tb_par {i j : Nat} {c d : D} {sp2 : Ev} (h1 : setE i (some (.dat c)) sp = some sp1) (h2 : setE j (some (.dat d)) sp1 = some sp2) (q : TB sp2 rest I T) : TB sp (seqS (parS i j [c, d]) rest) I T := fun ρ H => by
  obtain ⟨ρ1, a1, a2⟩ := H.setE h1
  obtain ⟨ρ2, a3, a4⟩ := a2.setE h2
  have := q ρ2 a4
  have e : seqS (parS i j [c, d]) rest ρ = rest ρ2 := by unfold seqS parS optO; simp only [a1, a3]
  rw [e]
  exact this
theorem tb_rt {o : ω} {d : D} (q : ∀ ρ, Ag sp ρ → I o (.rt d ρ)) : TB sp (fun ρ => .rt d ρ) I (.ok o) := fun ρ H => q ρ H
theorem tb_ro {o : ω} {d : O} (q : ∀ ρ, Ag sp ρ → I o (.ro d ρ)) : TB sp (fun ρ => .ro d ρ) I (.ok o) := fun ρ H => q ρ H
theorem tb_nx {o : ω} (q : ∀ ρ, Ag sp ρ → I o (.nx ρ)) : TB sp (fun ρ => .nx ρ) I (.ok o) := fun ρ H => q ρ H
theorem tb_ct {o : ω} (q : ∀ ρ, Ag sp ρ → I o (.ct ρ)) : TB sp (fun ρ => .ct ρ) I (.ok o) := fun ρ H => q ρ H
theorem tb_bk {o : ω} (q : ∀ ρ, Ag sp ρ → I o (.bk ρ)) : TB sp (fun ρ => .bk ρ) I (.ok o) := fun ρ H => q ρ H
/-! methods of own lists, as statements -/
theorem gd_tb {c : Prop} [Decidable c] (h : c → TB sp f I T) : TB sp f I (Gd c T) := by
  unfold Gd
  by_cases hc : c
  · rw [if_pos hc]; exact h hc
  · rw [if_neg hc]; exact tb_bad
theorem app_ok {xs : List α} {e : α → D} {a : α} (h : xs.length < sizeLine) : appendO (oL e xs) [e a] = some (.none, oL e (xs ++ [a])) := by
  unfold oL
  show (if (xs.map e).length < sizeLine then some (PyData.none, O.l (xs.map e ++ [e a])) else none) = _
  rw [if_pos (by rw [List.length_map]; exact h), List.map_append]
  rfl
theorem ext_ok {xs ys : List α} {e : α → D} (h : xs.length + ys.length ≤ sizeLine) : extendO (oL e xs) [.list (ys.map e)] = some (.none, oL e (xs ++ ys)) := by
  unfold oL
  show (if (xs.map e).length + (ys.map e).length ≤ sizeLine then some (PyData.none, O.l (xs.map e ++ ys.map e)) else none) = _
  rw [if_pos (by rw [List.length_map, List.length_map]; exact h), List.map_append]
theorem mth_step {T : String} {i : Nat} {b : Bool} {o o1 o2 : O} {m : O → List D → Option (D × O)} {fs : Ev → Rs (List D × Ev)} {ds : List D} {d : D} {ρ ρ1 : Ev} (h0 : ρ[i]? = some (some (.own b o))) (hT : ownT o = T) (h1 : fs ρ = .ok (ds, ρ1)) (h2 : ρ1[i]? = some (some (.own b o1))) (hm : m o1 ds = some (d, o2)) :
    seqS (outM (mthM T i m fs) fun _ ρ => .nx ρ) rest ρ = rest (ρ1.set i (some (.own b o2))) := by
  have e : mthM T i m fs ρ = .ok (d, ρ1.set i (some (.own b o2))) := by
    unfold mthM
    rw [h0]
    simp only
    rw [if_pos hT, h1, mbind_ok]
    simp only [h2, hm]
  unfold seqS outM
  rw [e]
theorem tb_app_w {i : Nat} {b : Bool} {xs : List α} {e : α → D} {a : α} {fs : Ev → Rs (List D × Ev)} (h : TW sp fs [e a] sp1) (hi : sp1[i]? = some (some (.own b (oL e xs)))) (h0 : ∃ o, sp[i]? = some (some (.own b o)) ∧ ownT o = "list") (q : TB (sp1.set i (some (.own b (oL e (xs ++ [a]))))) rest I T) :
    TB sp (seqS (outM (mthM "list" i appendO fs) fun _ ρ => .nx ρ) rest) I (Gd (xs.length < sizeLine) T) := gd_tb fun hl ρ H => by
  obtain ⟨ρ1, h1, h2⟩ := h ρ H
  obtain ⟨o, h0, hT⟩ := h0
  rw [mth_step (H.get h0) hT h1 (h2.get hi) (app_ok hl)]
  exact q _ h2.set
theorem tb_app_f {i : Nat} {b : Bool} {xs : List α} {e : α → D} {x : Rs α} {T : α → Rs ω} {fs : Ev → Rs (List D × Ev)} (h : TF sp fs (fun a => [e a]) sp1 x) (hi : sp1[i]? = some (some (.own b (oL e xs)))) (h0 : ∃ o, sp[i]? = some (some (.own b o)) ∧ ownT o = "list") (q : ∀ a, TB (sp1.set i (some (.own b (oL e (xs ++ [a]))))) rest I (T a)) :
    TB sp (seqS (outM (mthM "list" i appendO fs) fun _ ρ => .nx ρ) rest) I (x.bind fun a => Gd (xs.length < sizeLine) (T a)) := fun ρ H => by
  have h1 := h ρ H
  cases x with
  | ok a => exact tb_app_w (h := fun ρ' H' => h ρ' H') hi h0 (q a) ρ H
  | xc n as => exact h1.elim
  | bad => trivial
theorem tb_app_c {i : Nat} {b : Bool} {mk : S → Ev} {s : S} {xs : List α} {e : α → D} {x : Rs (α × S)} {T : α → S → Rs ω} {fs : Ev → Rs (List D × Ev)} (h : TM mk s fs (fun a => [e a]) x) (hi : ∀ s, (mk s)[i]? = some (some (.own b (oL e xs)))) (q : ∀ a s, TB ((mk s).set i (some (.own b (oL e (xs ++ [a]))))) rest I (T a s)) :
    TB (mk s) (seqS (outM (mthM "list" i appendO fs) fun _ ρ => .nx ρ) rest) I (bnd2 x fun a s => Gd (xs.length < sizeLine) (T a s)) := fun ρ H => by
  have h1 := h ρ H
  cases x with
  | ok r =>
    obtain ⟨a, s'⟩ := r
    exact tb_app_w (sp := mk s) (sp1 := mk s') (h := fun ρ' H' => h ρ' H') (hi s') ⟨_, hi s, rfl⟩ (q a s') ρ H
  | xc n as => exact h1.elim
  | bad => trivial
theorem tb_ext_w {i : Nat} {b : Bool} {xs ys : List α} {e : α → D} {fs : Ev → Rs (List D × Ev)} (h : TW sp fs [.list (ys.map e)] sp1) (hi : sp1[i]? = some (some (.own b (oL e xs)))) (h0 : ∃ o, sp[i]? = some (some (.own b o)) ∧ ownT o = "list") (q : TB (sp1.set i (some (.own b (oL e (xs ++ ys))))) rest I T) :
    TB sp (seqS (outM (mthM "list" i extendO fs) fun _ ρ => .nx ρ) rest) I (Gd (xs.length + ys.length ≤ sizeLine) T) := gd_tb fun hl ρ H => by
  obtain ⟨ρ1, h1, h2⟩ := h ρ H
  obtain ⟨o, h0, hT⟩ := h0
  rw [mth_step (H.get h0) hT h1 (h2.get hi) (ext_ok hl)]
  exact q _ h2.set
theorem tb_ext_f {i : Nat} {b : Bool} {xs : List α} {e : α → D} {x : Rs (List α)} {T : List α → Rs ω} {fs : Ev → Rs (List D × Ev)} (h : TF sp fs (fun ys : List α => [.list (ys.map e)]) sp1 x) (hi : sp1[i]? = some (some (.own b (oL e xs)))) (h0 : ∃ o, sp[i]? = some (some (.own b o)) ∧ ownT o = "list") (q : ∀ ys, TB (sp1.set i (some (.own b (oL e (xs ++ ys))))) rest I (T ys)) :
    TB sp (seqS (outM (mthM "list" i extendO fs) fun _ ρ => .nx ρ) rest) I (x.bind fun ys => Gd (xs.length + ys.length ≤ sizeLine) (T ys)) := fun ρ H => by
  have h1 := h ρ H
  cases x with
  | ok a => exact tb_ext_w (h := fun ρ' H' => h ρ' H') hi h0 (q a) ρ H
  | xc n as => exact h1.elim
  | bad => trivial
theorem tb_ext_c {i : Nat} {b : Bool} {mk : S → Ev} {s : S} {xs : List α} {e : α → D} {x : Rs (List α × S)} {T : List α → S → Rs ω} {fs : Ev → Rs (List D × Ev)} (h : TM mk s fs (fun ys : List α => [.list (ys.map e)]) x) (hi : ∀ s, (mk s)[i]? = some (some (.own b (oL e xs)))) (q : ∀ ys s, TB ((mk s).set i (some (.own b (oL e (xs ++ ys))))) rest I (T ys s)) :
    TB (mk s) (seqS (outM (mthM "list" i extendO fs) fun _ ρ => .nx ρ) rest) I (bnd2 x fun ys s => Gd (xs.length + ys.length ≤ sizeLine) (T ys s)) := fun ρ H => by
  have h1 := h ρ H
  cases x with
  | ok r =>
    obtain ⟨a, s'⟩ := r
    exact tb_ext_w (sp := mk s) (sp1 := mk s') (h := fun ρ' H' => h ρ' H') (hi s') ⟨_, hi s, rfl⟩ (q a s') ρ H
  | xc n as => exact h1.elim
  | bad => trivial
theorem tb_rev {i : Nat} {b : Bool} {xs : List α} {e : α → D} (hi : sp[i]? = some (some (.own b (oL e xs)))) (q : TB (sp.set i (some (.own b (oL e xs.reverse)))) rest I T) :
    TB sp (seqS (outM (mthM "list" i reverseO fun ρ => .ok ([], ρ)) fun _ ρ => .nx ρ) rest) I T := fun ρ H => by
  have hr : reverseO (oL e xs) [] = some (.none, oL e xs.reverse) := by
    unfold oL
    rw [List.map_reverse]
    rfl
  rw [mth_step (T := "list") (fs := fun ρ => .ok ([], ρ)) (H.get hi) rfl rfl (H.get hi) hr]
  exact q _ H.set
/-! choices -/
def brS (c : Bool) (f g : Ev → Out) (ρ : Ev) : Out := if c = true then f ρ else g ρ
variable {c : Bool}
theorem br_v {gc : Ev → Rs Bool} (h : TV sp gc c) (q : TB sp (seqS (brS c f g) rest) I T) : TB sp (seqS (ifS gc f g) rest) I T := tb_v (K := fun k ρ => if k = true then f ρ else g ρ) h q
theorem br_e {gc : Ev → Rs Bool} {x : Rs Bool} {T : Bool → Rs ω} (h : TE sp gc id x) (q : ∀ c, TB sp (seqS (brS c f g) rest) I (T c)) : TB sp (seqS (ifS gc f g) rest) I (x.bind T) := tb_e (K := fun k ρ => if k = true then f ρ else g ρ) h q
theorem br_c {fc : Ev → Rs (Bool × Ev)} {mk : S → Ev} {s : S} {x : Rs (Bool × S)} {T : Bool → S → Rs ω} (h : TM mk s fc id x) (q : ∀ c s, TB (mk s) (seqS (brS c f g) rest) I (T c s)) : TB (mk s) (seqS (ifSM fc f g) rest) I (bnd2 x T) := tb_c (K := fun k ρ => if k = true then f ρ else g ρ) h q
theorem br_w {fc : Ev → Rs (Bool × Ev)} (h : TW sp fc c sp1) (q : TB sp1 (seqS (brS c f g) rest) I T) : TB sp (seqS (ifSM fc f g) rest) I T := tb_w (K := fun k ρ => if k = true then f ρ else g ρ) h q
theorem br_f {fc : Ev → Rs (Bool × Ev)} {x : Rs Bool} {T : Bool → Rs ω} (h : TF sp fc id sp1 x) (q : ∀ c, TB sp1 (seqS (brS c f g) rest) I (T c)) : TB sp (seqS (ifSM fc f g) rest) I (x.bind T) := tb_f (K := fun k ρ => if k = true then f ρ else g ρ) h q
theorem bl_v {gc : Ev → Rs Bool} (h : TV sp gc c) (q : TB sp (brS c f g) I T) : TB sp (ifS gc f g) I T := lst_v (K := fun k ρ => if k = true then f ρ else g ρ) h q
theorem bl_e {gc : Ev → Rs Bool} {x : Rs Bool} {T : Bool → Rs ω} (h : TE sp gc id x) (q : ∀ c, TB sp (brS c f g) I (T c)) : TB sp (ifS gc f g) I (x.bind T) := lst_e (K := fun k ρ => if k = true then f ρ else g ρ) h q
theorem bl_c {fc : Ev → Rs (Bool × Ev)} {mk : S → Ev} {s : S} {x : Rs (Bool × S)} {T : Bool → S → Rs ω} (h : TM mk s fc id x) (q : ∀ c s, TB (mk s) (brS c f g) I (T c s)) : TB (mk s) (ifSM fc f g) I (bnd2 x T) := lst_c (K := fun k ρ => if k = true then f ρ else g ρ) h q
theorem bl_w {fc : Ev → Rs (Bool × Ev)} (h : TW sp fc c sp1) (q : TB sp1 (brS c f g) I T) : TB sp (ifSM fc f g) I T := lst_w (K := fun k ρ => if k = true then f ρ else g ρ) h q
theorem bl_f {fc : Ev → Rs (Bool × Ev)} {x : Rs Bool} {T : Bool → Rs ω} (h : TF sp fc id sp1 x) (q : ∀ c, TB sp1 (brS c f g) I (T c)) : TB sp (ifSM fc f g) I (x.bind T) := lst_f (K := fun k ρ => if k = true then f ρ else g ρ) h q
theorem br_tail {A B : Rs ω} (hA : TB sp f I A) (hB : TB sp g I B) : TB sp (brS c f g) I (if c = true then A else B) := fun ρ H => by
  unfold brS
  cases c
  · exact hB ρ H
  · exact hA ρ H
theorem seq_no {o : ω} {ρ : Ev} (h : NoNx (f ρ)) : seqS f rest ρ = f ρ := by
  unfold seqS
  cases e : f ρ with
  | nx ρ' => exact absurd e (h ρ')
  | _ => rfl
/-- the first way ends the block -/
theorem br_l {A B : Rs ω} (hA : TB sp f (IX I) A) (hB : TB sp (seqS g rest) I B) : TB sp (seqS (brS c f g) rest) I (if c = true then A else B) := fun ρ H => by
  cases c
  · exact hB ρ H
  · have h := hA ρ H
    cases A with
    | ok o =>
      have h : IX I o (f ρ) := h
      have e : seqS (brS true f g) rest ρ = f ρ := seq_no (f := brS true f g) (o := o) h.2
      show I o (seqS (brS true f g) rest ρ)
      rw [e]
      exact h.1
    | xc n as => exact h.elim
    | bad => trivial
theorem br_r {A B : Rs ω} (hA : TB sp (seqS f rest) I A) (hB : TB sp g (IX I) B) : TB sp (seqS (brS c f g) rest) I (if c = true then A else B) := fun ρ H => by
  cases c
  · have h := hB ρ H
    cases B with
    | ok o =>
      have h : IX I o (g ρ) := h
      have e : seqS (brS false f g) rest ρ = g ρ := seq_no (f := brS false f g) (o := o) h.2
      show I o (seqS (brS false f g) rest ρ)
      rw [e]
      exact h.1
    | xc n as => exact h.elim
    | bad => trivial
  · exact hA ρ H
/-- both ways go on -/
theorem br_j {mk : S → Ev} {A B : Rs S} {T : S → Rs ω} (hA : TB sp f (IN mk) A) (hB : TB sp g (IN mk) B) (hT : ∀ s, TB (mk s) rest I (T s)) : TB sp (seqS (brS c f g) rest) I ((if c = true then A else B).bind T) := by
  have key : ∀ (f' : Ev → Out) (X : Rs S), TB sp f' (IN mk) X → TB sp (seqS f' rest) I (X.bind T) := fun f' X h ρ H => by
    have h1 := h ρ H
    cases X with
    | ok s =>
      obtain ⟨ρ1, h2, h3⟩ : IN mk s (f' ρ) := h1
      have e : seqS f' rest ρ = rest ρ1 := by unfold seqS; rw [h2]
      have := hT s ρ1 h3
      rw [e]
      exact this
    | xc n as => exact h1.elim
    | bad => trivial
  cases c
  · exact key g B hB
  · exact key f A hA
theorem br_jf {mk : S → Ev} {A B : Rs (TO ω S)} {T : S → Rs ω} (hA : TB sp f (IJ I mk) A) (hB : TB sp g (IJ I mk) B) (hT : ∀ s, TB (mk s) rest I (T s)) : TB sp (seqS (brS c f g) rest) I (bndTO (if c = true then A else B) T) := by
  have key : ∀ (f' : Ev → Out) (X : Rs (TO ω S)), TB sp f' (IJ I mk) X → TB sp (seqS f' rest) I (bndTO X T) := fun f' X h ρ H => by
    have h1 := h ρ H
    cases X with
    | ok o =>
      cases o with
      | rt r =>
        have h1 : I r (f' ρ) ∧ NoNx (f' ρ) := h1
        show I r (seqS f' rest ρ)
        rw [seq_no (o := r) h1.2]
        exact h1.1
      | bk s => exact h1.elim
      | nx s =>
        obtain ⟨ρ1, h2, h3⟩ : ∃ ρ1, f' ρ = .nx ρ1 ∧ Ag (mk s) ρ1 := h1
        have e : seqS f' rest ρ = rest ρ1 := by unfold seqS; rw [h2]
        have := hT s ρ1 h3
        rw [e]
        exact this
    | xc n as => exact h1.elim
    | bad => trivial
  cases c
  · exact key g B hB
  · exact key f A hA
/-! loops -/
section
variable {b : D → Ev → Option Ev} {body : Ev → Out} {e : α → D} {mk : S → Ev} {sx : α → S → Ev} {xs : List α} {s0 : S}
theorem for_key {Y : α → S → Rs S} (hm : Mono b) (hb : ∀ x s, b (e x) (mk s) = some (sx x s)) (hY : ∀ x s, TB (sx x s) body (IL mk) (Y x s)) : ∀ (xs : List α) (s : S), TB (mk s) (forS b body [] (xs.map e)) (IN mk) (forR Y xs s)
  | [], s => fun ρ H => ⟨ρ, rfl, H⟩
  | x :: xs, s => fun ρ H => by
    obtain ⟨ρ1, h1, h2⟩ := hm _ _ _ _ H (hb x s)
    have h3 := hY x s ρ1 h2
    rw [List.map_cons]
    unfold forR
    cases q : Y x s with
    | ok s' =>
      rw [q] at h3
      obtain ⟨ρ2, h4, h5⟩ : IL mk s' (body ρ1) := h3
      have h6 := for_key hm hb hY xs s' ρ2 h5
      have e0 : forS b body [] (e x :: xs.map e) ρ = forS b body [] (xs.map e) ρ2 := by
        conv => lhs; unfold forS
        rw [h1]
        show (match body ρ1 with | .nx ρ2 => optO (wipeE [] ρ2) (forS b body [] (xs.map e)) | .ct ρ2 => optO (wipeE [] ρ2) (forS b body [] (xs.map e)) | .bk ρ2 => .nx ρ2 | o => o) = _
        rcases h4 with h4 | h4 <;> rw [h4] <;> rfl
      rw [e0]
      exact h6
    | xc n as => rw [q] at h3; exact h3.elim
    | bad => trivial
theorem tb_for {Y : α → S → Rs S} {T : S → Rs ω} (w : Wk (mk s0) sp) (hm : Mono b) (hb : ∀ x s, b (e x) (mk s) = some (sx x s)) (hY : ∀ x s, TB (sx x s) body (IL mk) (Y x s)) (hT : ∀ s, TB (mk s) rest I (T s)) :
    TB sp (seqS (forS b body [] (xs.map e)) rest) I ((forR Y xs s0).bind T) := fun ρ H => by
  have h1 := for_key hm hb hY xs s0 ρ (w.ag H)
  cases q : forR Y xs s0 with
  | ok s =>
    rw [q] at h1
    obtain ⟨ρ1, h2, h3⟩ : IN mk s _ := h1
    have := hT s ρ1 h3
    have e : seqS (forS b body [] (xs.map e)) rest ρ = rest ρ1 := by unfold seqS; rw [h2]
    rw [e]
    exact this
  | xc n as => rw [q] at h1; exact h1.elim
  | bad => trivial
theorem forF_key {Y : α → S → Rs (TO ω S)} (hm : Mono b) (hb : ∀ x s, b (e x) (mk s) = some (sx x s)) (hY : ∀ x s, TB (sx x s) body (IF I mk) (Y x s)) : ∀ (xs : List α) (s : S), TB (mk s) (forS b body [] (xs.map e)) (IJ I mk) (forF Y xs s)
  | [], s => fun ρ H => ⟨ρ, rfl, H⟩
  | x :: xs, s => fun ρ H => by
    obtain ⟨ρ1, h1, h2⟩ := hm _ _ _ _ H (hb x s)
    have h3 := hY x s ρ1 h2
    rw [List.map_cons]
    unfold forF
    have e0 : forS b body [] (e x :: xs.map e) ρ = (match body ρ1 with | .nx ρ2 => forS b body [] (xs.map e) ρ2 | .ct ρ2 => forS b body [] (xs.map e) ρ2 | .bk ρ2 => .nx ρ2 | o => o) := by
      conv => lhs; unfold forS
      rw [h1]
      rfl
    cases q : Y x s with
    | ok o =>
      rw [q] at h3
      cases o with
      | nx s' =>
        obtain ⟨ρ2, h4, h5⟩ : ∃ ρ2, (body ρ1 = .nx ρ2 ∨ body ρ1 = .ct ρ2) ∧ Ag (mk s') ρ2 := h3
        have h6 := forF_key hm hb hY xs s' ρ2 h5
        have e1 : forS b body [] (e x :: xs.map e) ρ = forS b body [] (xs.map e) ρ2 := by
          rw [e0]
          rcases h4 with h4 | h4 <;> rw [h4]
        rw [e1]
        exact h6
      | bk s' =>
        obtain ⟨ρ2, h4, h5⟩ : ∃ ρ2, body ρ1 = .bk ρ2 ∧ Ag (mk s') ρ2 := h3
        refine ⟨ρ2, ?_, h5⟩
        rw [e0, h4]
      | rt r =>
        have h3 : I r (body ρ1) ∧ isRt (body ρ1) := h3
        show I r _ ∧ NoNx _
        rw [e0]
        cases q2 : body ρ1 with
        | rt d ρ2 => rw [q2] at h3; exact ⟨h3.1, fun _ z => by cases z⟩
        | ro d ρ2 => rw [q2] at h3; exact ⟨h3.1, fun _ z => by cases z⟩
        | nx _ => rw [q2] at h3; exact h3.2.elim
        | bk _ => rw [q2] at h3; exact h3.2.elim
        | ct _ => rw [q2] at h3; exact h3.2.elim
        | xc _ _ _ => rw [q2] at h3; exact h3.2.elim
        | bad => rw [q2] at h3; exact h3.2.elim
    | xc n as => rw [q] at h3; exact h3.elim
    | bad => trivial
theorem tb_forF {Y : α → S → Rs (TO ω S)} {T : S → Rs ω} (w : Wk (mk s0) sp) (hm : Mono b) (hb : ∀ x s, b (e x) (mk s) = some (sx x s)) (hY : ∀ x s, TB (sx x s) body (IF I mk) (Y x s)) (hT : ∀ s, TB (mk s) rest I (T s)) :
    TB sp (seqS (forS b body [] (xs.map e)) rest) I (bndTO (forF Y xs s0) T) := fun ρ H => by
  have h1 := forF_key hm hb hY xs s0 ρ (w.ag H)
  cases q : forF Y xs s0 with
  | ok o =>
    rw [q] at h1
    cases o with
    | nx s =>
      obtain ⟨ρ1, h2, h3⟩ : ∃ ρ1, _ = Out.nx ρ1 ∧ Ag (mk s) ρ1 := h1
      have := hT s ρ1 h3
      have e : seqS (forS b body [] (xs.map e)) rest ρ = rest ρ1 := by unfold seqS; rw [h2]
      rw [e]
      exact this
    | bk s => exact h1.elim
    | rt r =>
      have h1 : I r _ ∧ NoNx _ := h1
      show I r (seqS _ rest ρ)
      rw [seq_no (o := r) h1.2]
      exact h1.1
  | xc n as => rw [q] at h1; exact h1.elim
  | bad => trivial
end
end

/-! ### what is answered -/
theorem i_it {ω : Type} {e : ω → D} {o : ω} {ρ : Ev} : IT (fun o d _ => d = e o) o (.rt (e o) ρ) := rfl
theorem nn_rt {d : D} {ρ : Ev} : NoNx (.rt d ρ) := fun _ z => by cases z
theorem nn_ro {d : O} {ρ : Ev} : NoNx (.ro d ρ) := fun _ z => by cases z
theorem nn_ct {ρ : Ev} : NoNx (.ct ρ) := fun _ z => by cases z
theorem nn_bk {ρ : Ev} : NoNx (.bk ρ) := fun _ z => by cases z
section
variable {α S : Type} {n : Nat} {b : Ev → Out} {ds : List D} {sp : Ev} {T : Rs α}
theorem tf_D {e : α → D} (h : TB sp b (IT fun o d _ => d = e o) T) (hs : startE n ds = sp := by rfl) : Le (T.map e) (fnD n b ds) := by
  have h1 := h (startE n ds) (by rw [hs]; exact Ag.refl sp)
  cases T with
  | ok a =>
    have h1 : IT _ a (b (startE n ds)) := h1
    unfold fnD
    show _ = Rs.ok (e a)
    cases q : b (startE n ds) with
    | nx ρ => rw [q] at h1; have h1 : PyData.none = e a := h1; rw [← h1]
    | rt d ρ => rw [q] at h1; have h1 : d = e a := h1; rw [h1]
    | _ => rw [q] at h1; exact h1.elim
  | xc n as => exact h1.elim
  | bad => trivial
theorem tf_O {e : α → O} (h : TB sp b (IO fun o d _ => d = e o) T) (hs : startE n ds = sp := by rfl) : Le (T.map e) (fnO n b ds) := by
  have h1 := h (startE n ds) (by rw [hs]; exact Ag.refl sp)
  cases T with
  | ok a =>
    have h1 : IO _ a (b (startE n ds)) := h1
    unfold fnO
    show _ = Rs.ok (e a)
    cases q : b (startE n ds) with
    | ro d ρ => rw [q] at h1; have h1 : d = e a := h1; rw [h1]
    | _ => rw [q] at h1; exact h1.elim
  | xc n as => exact h1.elim
  | bad => trivial
theorem tf_MD {o : O} {e : α → D} {eo : S → O} {T : Rs (α × S)} (h : TB sp b (IT fun r d ρ => d = e r.1 ∧ ρ[0]? = some (some (.own true (eo r.2)))) T) (hs : startI n o ds = sp := by rfl) : Le (T.map fun r => (e r.1, eo r.2)) (fnMD n b o ds) := by
  have h1 := h (startI n o ds) (by rw [hs]; exact Ag.refl sp)
  cases T with
  | ok a =>
    have h1 : IT _ a (b (startI n o ds)) := h1
    unfold fnMD
    show _ = Rs.ok (e a.1, eo a.2)
    cases q : b (startI n o ds) with
    | nx ρ => rw [q] at h1; obtain ⟨h1, h2⟩ := h1; simp only [fst0_of h2]; rw [← h1]
    | rt d ρ => rw [q] at h1; obtain ⟨h1, h2⟩ := h1; simp only [fst0_of h2]; rw [h1]
    | _ => rw [q] at h1; exact h1.elim
  | xc n as => exact h1.elim
  | bad => trivial
theorem tf_MO {o : O} {e : α → O} {eo : S → O} {T : Rs (α × S)} (h : TB sp b (IO fun r d ρ => d = e r.1 ∧ ρ[0]? = some (some (.own true (eo r.2)))) T) (hs : startI n o ds = sp := by rfl) : Le (T.map fun r => (e r.1, eo r.2)) (fnMO n b o ds) := by
  have h1 := h (startI n o ds) (by rw [hs]; exact Ag.refl sp)
  cases T with
  | ok a =>
    have h1 : IO _ a (b (startI n o ds)) := h1
    unfold fnMO
    show _ = Rs.ok (e a.1, eo a.2)
    cases q : b (startI n o ds) with
    | ro d ρ => rw [q] at h1; obtain ⟨h1, h2⟩ := h1; simp only [fst0_of h2]; rw [h1]
    | _ => rw [q] at h1; exact h1.elim
  | xc n as => exact h1.elim
  | bad => trivial
end
end TL
/-! T4: kinds of data, the operations on them. -/
namespace TL
open PySem PySem.Spec PyProof.Rows L2 DL

abbrev eI : Int → D := PyData.int
abbrev eB : Bool → D := PyData.bool
abbrev eS : Str → D := PyData.str
abbrev eN : Unit → D := fun _ => PyData.none
abbrev eD : D → D := fun d => d
abbrev eL {α : Type} (e : α → D) (xs : List α) : D := .list (xs.map e)
abbrev eT {α : Type} (e : α → D) (xs : List α) : D := .tuple (xs.map e)
abbrev eP1 {α : Type} (e : α → D) (p : α) : D := .tuple [e p]
abbrev eP2 {α β : Type} (e : α → D) (f : β → D) (p : α × β) : D := .tuple [e p.1, f p.2]
abbrev eP3 {α β γ : Type} (e : α → D) (f : β → D) (g : γ → D) (p : α × β × γ) : D := .tuple [e p.1, f p.2.1, g p.2.2]
abbrev eP4 {α β γ δ : Type} (e : α → D) (f : β → D) (g : γ → D) (h : δ → D) (p : α × β × γ × δ) : D := .tuple [e p.1, f p.2.1, g p.2.2.1, h p.2.2.2]
def eO {α : Type} (e : α → D) : Option α → D
  | none => .none
  | some a => e a
abbrev eM {α β : Type} (e : α → D) (f : β → D) (kvs : List (α × β)) : D := .dict (kvs.map fun p => (e p.1, f p.2))
abbrev oM {α β : Type} (e : α → D) (f : β → D) (kvs : List (α × β)) : O := .d (kvs.map fun p => (e p.1, f p.2))

/-! ### equality -/
theorem cl_tup {xs : List D} : (PyData.tuple xs).canLay0 = PyData.canLayAll0 xs := by rw [PyData.canLay0]
theorem cl_lst {xs : List D} : (PyData.list xs).canLay0 = PyData.canLayAll0 xs := by rw [PyData.canLay0]
theorem cl_nil : PyData.canLayAll0 [] = true := by rw [PyData.canLayAll0]
theorem cl_cons {d : D} {ds : List D} : PyData.canLayAll0 (d :: ds) = (d.canLay0 && PyData.canLayAll0 ds) := by rw [PyData.canLayAll0]
theorem dp_nil : PyData.depthAll [] = 0 := by rw [PyData.depthAll]
theorem dp_cons {d : D} {ds : List D} : PyData.depthAll (d :: ds) = max d.depth (PyData.depthAll ds) := by rw [PyData.depthAll]
theorem ev_nil : PyData.eqvAll [] [] = true := by rw [PyData.eqvAll]
theorem ev_cons {d e : D} {ds es : List D} : PyData.eqvAll (d :: ds) (e :: es) = (PyData.eqv d e && PyData.eqvAll ds es) := by rw [PyData.eqvAll]
structure EqE {α : Type} [DecidableEq α] (e : α → D) (n : Nat) : Prop where
  cl : ∀ a, (e a).canLay0 = true
  dp : ∀ a, (e a).depth ≤ n
  ev : ∀ a b, PyData.eqv (e a) (e b) = decide (a = b)
section
variable {α β γ δ : Type} [DecidableEq α] [DecidableEq β] [DecidableEq γ] [DecidableEq δ] {e : α → D} {f : β → D} {g : γ → D} {h : δ → D} {n m k l : Nat}
theorem qI : EqE eI 0 := ⟨fun a => by unfold eI PyData.canLay0; rfl, fun a => by unfold eI PyData.depth; omega, fun a b => eqv_int a b⟩
theorem qB : EqE eB 0 := ⟨fun a => by unfold eB PyData.canLay0; rfl, fun a => by unfold eB PyData.depth; omega, fun a b => by unfold eB PyData.eqv; cases a <;> cases b <;> rfl⟩
theorem qN : EqE eN 0 := ⟨fun a => by unfold eN PyData.canLay0; rfl, fun a => by unfold eN PyData.depth; omega, fun a b => by unfold eN PyData.eqv; rfl⟩
theorem EqE.clA (q : EqE e n) : ∀ xs : List α, PyData.canLayAll0 (xs.map e) = true
  | [] => cl_nil
  | x :: xs => by rw [List.map_cons, cl_cons, q.cl, q.clA xs]; rfl
theorem EqE.dpA (q : EqE e n) : ∀ xs : List α, PyData.depthAll (xs.map e) ≤ n
  | [] => by rw [List.map_nil, dp_nil]; omega
  | x :: xs => by rw [List.map_cons, dp_cons]; have := q.dp x; have := q.dpA xs; omega
theorem EqE.evA (q : EqE e n) : ∀ xs ys : List α, PyData.eqvAll (xs.map e) (ys.map e) = decide (xs = ys)
  | [], [] => by rw [List.map_nil, ev_nil]; rfl
  | [], y :: ys => by rw [List.map_nil, List.map_cons]; unfold PyData.eqvAll; simp
  | x :: xs, [] => by rw [List.map_nil, List.map_cons]; unfold PyData.eqvAll; simp
  | x :: xs, y :: ys => by
    rw [List.map_cons, List.map_cons, ev_cons, q.ev, q.evA xs ys]
    by_cases h1 : x = y
    · by_cases h2 : xs = ys <;> simp [h1, h2]
    · simp [h1]
theorem qL (q : EqE e n) : EqE (eL e) (n + 1) := ⟨fun a => by rw [cl_lst]; exact q.clA a, fun a => by rw [dp_lst]; have := q.dpA a; omega, fun a b => by show PyData.eqv (.list _) (.list _) = _; rw [PyData.eqv]; exact q.evA a b⟩
theorem qT (q : EqE e n) : EqE (eT e) (n + 1) := ⟨fun a => by rw [cl_tup]; exact q.clA a, fun a => by rw [dp_tup]; have := q.dpA a; omega, fun a b => by show PyData.eqv (.tuple _) (.tuple _) = _; rw [PyData.eqv]; exact q.evA a b⟩
theorem qP1 (q : EqE e n) : EqE (eP1 e) (n + 1) := ⟨fun a => by rw [cl_tup, cl_cons, cl_nil, q.cl]; rfl, fun a => by rw [dp_tup, dp_cons, dp_nil]; have := q.dp a; omega, fun a b => by
  show PyData.eqv (.tuple _) (.tuple _) = _
  rw [PyData.eqv, ev_cons, ev_nil, q.ev]; simp⟩
theorem qP2 (q : EqE e n) (r : EqE f m) : EqE (eP2 e f) (max n m + 1) := ⟨fun a => by rw [cl_tup, cl_cons, cl_cons, cl_nil, q.cl, r.cl]; rfl, fun a => by rw [dp_tup, dp_cons, dp_cons, dp_nil]; have := q.dp a.1; have := r.dp a.2; omega, fun a b => by
  show PyData.eqv (.tuple _) (.tuple _) = _
  obtain ⟨a1, a2⟩ := a
  obtain ⟨b1, b2⟩ := b
  rw [PyData.eqv, ev_cons, ev_cons, ev_nil, q.ev, r.ev]
  by_cases h1 : a1 = b1 <;> by_cases h2 : a2 = b2 <;> simp [h1, h2]⟩
theorem qP3 (q : EqE e n) (r : EqE f m) (s : EqE g k) : EqE (eP3 e f g) (max n (max m k) + 1) := ⟨fun a => by rw [cl_tup, cl_cons, cl_cons, cl_cons, cl_nil, q.cl, r.cl, s.cl]; rfl, fun a => by rw [dp_tup, dp_cons, dp_cons, dp_cons, dp_nil]; have := q.dp a.1; have := r.dp a.2.1; have := s.dp a.2.2; omega, fun a b => by
  show PyData.eqv (.tuple _) (.tuple _) = _
  obtain ⟨a1, a2, a3⟩ := a
  obtain ⟨b1, b2, b3⟩ := b
  rw [PyData.eqv, ev_cons, ev_cons, ev_cons, ev_nil, q.ev, r.ev, s.ev]
  by_cases h1 : a1 = b1 <;> by_cases h2 : a2 = b2 <;> by_cases h3 : a3 = b3 <;> simp [h1, h2, h3]⟩
theorem qP4 (q : EqE e n) (r : EqE f m) (s : EqE g k) (t : EqE h l) : EqE (eP4 e f g h) (max n (max m (max k l)) + 1) := ⟨fun a => by rw [cl_tup, cl_cons, cl_cons, cl_cons, cl_cons, cl_nil, q.cl, r.cl, s.cl, t.cl]; rfl, fun a => by rw [dp_tup, dp_cons, dp_cons, dp_cons, dp_cons, dp_nil]; have := q.dp a.1; have := r.dp a.2.1; have := s.dp a.2.2.1; have := t.dp a.2.2.2; omega, fun a b => by
  show PyData.eqv (.tuple _) (.tuple _) = _
  obtain ⟨a1, a2, a3, a4⟩ := a
  obtain ⟨b1, b2, b3, b4⟩ := b
  rw [PyData.eqv, ev_cons, ev_cons, ev_cons, ev_cons, ev_nil, q.ev, r.ev, s.ev, t.ev]
  by_cases h1 : a1 = b1 <;> by_cases h2 : a2 = b2 <;> by_cases h3 : a3 = b3 <;> by_cases h4 : a4 = b4 <;> simp [h1, h2, h3, h4]⟩
/-- never None -/
def NN {α : Type} (e : α → D) : Prop := ∀ a, isD (e a) .none = some (.bool false) ∧ PyData.eqv (e a) .none = false ∧ PyData.eqv .none (e a) = false
theorem nnI : NN eI := fun a => ⟨rfl, by unfold eI PyData.eqv; rfl, by unfold eI PyData.eqv; rfl⟩
theorem nnB : NN eB := fun a => ⟨rfl, by unfold eB PyData.eqv; rfl, by unfold eB PyData.eqv; rfl⟩
theorem nnS : NN eS := fun a => ⟨rfl, by unfold eS PyData.eqv; rfl, by unfold eS PyData.eqv; rfl⟩
theorem nnT {α : Type} {e : α → D} : NN (eT e) := fun a => ⟨rfl, by unfold PyData.eqv; rfl, by unfold PyData.eqv; rfl⟩
theorem nnL {α : Type} {e : α → D} : NN (eL e) := fun a => ⟨rfl, by unfold PyData.eqv; rfl, by unfold PyData.eqv; rfl⟩
theorem nnP {α : Type} {e : α → List D} : NN (fun a => PyData.tuple (e a)) := fun a => ⟨rfl, by unfold PyData.eqv; rfl, by unfold PyData.eqv; rfl⟩
theorem qO (q : EqE e n) (nn : NN e) : EqE (eO e) n := ⟨fun a => by
  cases a with
  | none => unfold eO PyData.canLay0; rfl
  | some a => exact q.cl a, fun a => by
  cases a with
  | none => unfold eO PyData.depth; omega
  | some a => exact q.dp a, fun a b => by
  cases a with
  | none =>
    cases b with
    | none => unfold eO PyData.eqv; rfl
    | some b => exact (nn b).2.2
  | some a =>
    cases b with
    | none => exact (nn a).2.1
    | some b => show PyData.eqv (e a) (e b) = _; rw [q.ev]; simp⟩
theorem EqE.sh (q : EqE e n) (hn : n ≤ 64) (a : α) : SeqAt.shaped (e a) = true := sh_of (q.cl a) (q.dp a) hn
theorem o_eq (q : EqE e n) {a b : α} (hn : n ≤ 60 := by decide) : eqD (e a) (e b) = some (eB (decide (a = b))) := by
  unfold eqD
  rw [q.sh (by omega), q.sh (by omega), q.ev]
  rfl
theorem o_ne (q : EqE e n) {a b : α} (hn : n ≤ 60 := by decide) : neD (e a) (e b) = some (eB (!decide (a = b))) := by
  unfold neD
  rw [q.sh (by omega), q.sh (by omega), q.ev]
  rfl
theorem EqE.anyE (q : EqE e n) (a : α) : ∀ xs : List α, ((xs.map e).any fun z => PyData.eqv z (e a)) = decide (a ∈ xs)
  | [] => rfl
  | x :: xs => by
    rw [List.map_cons, List.any_cons, q.anyE a xs, q.ev]
    by_cases h : x = a
    · subst h; simp
    · simp [h, Ne.symm h]
theorem o_inT (q : EqE e n) {a : α} {xs : List α} (hn : n ≤ 60 := by decide) : inTD (e a) (eT e xs) = some (eB (decide (a ∈ xs))) := by
  show inD _ (PyData.tuple _) = _
  unfold inD
  simp only
  rw [q.sh (by omega), (qT q).sh (by omega) xs, q.anyE]
  rfl
theorem o_inL (q : EqE e n) {a : α} {xs : List α} (hn : n ≤ 60 := by decide) : inTD (e a) (eL e xs) = some (eB (decide (a ∈ xs))) := by
  show inD _ (PyData.list _) = _
  unfold inD
  simp only
  rw [q.sh (by omega), (qL q).sh (by omega) xs, q.anyE]
  rfl
theorem o_ninT (q : EqE e n) {a : α} {xs : List α} (hn : n ≤ 60 := by decide) : ninTD (e a) (eT e xs) = some (eB (!decide (a ∈ xs))) := by
  have h : inD (e a) (.tuple (xs.map e)) = some (eB (decide (a ∈ xs))) := o_inT q hn
  show ninD _ (PyData.tuple _) = _
  unfold ninD
  rw [h]
  rfl
theorem o_ninL (q : EqE e n) {a : α} {xs : List α} (hn : n ≤ 60 := by decide) : ninTD (e a) (eL e xs) = some (eB (!decide (a ∈ xs))) := by
  have h : inD (e a) (.list (xs.map e)) = some (eB (decide (a ∈ xs))) := o_inL q hn
  show ninD _ (PyData.list _) = _
  unfold ninD
  rw [h]
  rfl
end
/-- what may be compared of any data -/
def eqR (a b : D) : Rs Bool := if SeqAt.shaped a && SeqAt.shaped b then .ok (PyData.eqv a b) else .bad
def neR (a b : D) : Rs Bool := if SeqAt.shaped a && SeqAt.shaped b then .ok (!PyData.eqv a b) else .bad
theorem o_eqD {a b : D} : Le ((eqR a b).map eB) (Rs.of (eqD a b)) := by
  unfold eqR eqD
  split
  · rfl
  · trivial
theorem o_neD {a b : D} : Le ((neR a b).map eB) (Rs.of (neD a b)) := by
  unfold neR neD
  split
  · rfl
  · trivial
/-! ### numbers -/
section
variable {a b : Int}
theorem o_add : addD (eI a) (eI b) = some (eI (a + b)) := rfl
theorem o_sub : subD (eI a) (eI b) = some (eI (a - b)) := rfl
theorem o_neg : negD (eI a) = some (eI (-a)) := rfl
theorem o_lt : ltTD (eI a) (eI b) = some (eB (decide (a < b))) := rfl
theorem o_le : leD (eI a) (eI b) = some (eB (decide (a ≤ b))) := rfl
theorem o_gt : gtD (eI a) (eI b) = some (eB (decide (b < a))) := rfl
theorem o_ge : geD (eI a) (eI b) = some (eB (decide (b ≤ a))) := rfl
theorem o_mulR (h : small64 b = true) : mulTD (eI a) (eI b) = some (eI (a * b)) := by
  show (if (small64 a || small64 b) = true then some (PyData.int (a * b)) else none) = _
  rw [if_pos (by rw [h, Bool.or_true])]
theorem o_mulL (h : small64 a = true) : mulTD (eI a) (eI b) = some (eI (a * b)) := by
  show (if (small64 a || small64 b) = true then some (PyData.int (a * b)) else none) = _
  rw [if_pos (by rw [h, Bool.true_or])]
theorem o_mul : Le ((Gd ((small64 a || small64 b) = true) (.ok (a * b))).map eI) (Rs.of (mulTD (eI a) (eI b))) := gd_of fun h => by
  show Le _ (Rs.of (if (small64 a || small64 b) = true then some (PyData.int (a * b)) else none))
  rw [if_pos h]
  rfl
theorem o_mod (h : 0 < b) : modD (eI a) (eI b) = some (eI (a % b)) := if_pos h
theorem o_modG : Le ((Gd (0 < b) (.ok (a % b))).map eI) (Rs.of (modD (eI a) (eI b))) := gd_of fun h => ok_of (o_mod h)
theorem o_div (h : 0 < b ∧ b < 1073741824) : divD (eI a) (eI b) = some (eI (a / b)) := if_pos h
theorem o_divG : Le ((Gd (0 < b ∧ b < 1073741824) (.ok (a / b))).map eI) (Rs.of (divD (eI a) (eI b))) := gd_of fun h => ok_of (o_div h)
theorem o_isB {a b : Bool} : isD (eB a) (eB b) = some (eB (decide (a = b))) := rfl
theorem o_isntB {a b : Bool} : isntD (eB a) (eB b) = some (eB (!decide (a = b))) := rfl
theorem o_abs : absD [eI a] = some (eI (if a < 0 then -a else a)) := rfl
theorem o_int : intD [eI a] = some (eI a) := rfl
theorem o_intB {a : Bool} : intD [eB a] = some (eI (if a then 1 else 0)) := rfl
theorem t_I : truD (eI a) = some (a != 0) := rfl
theorem t_B {a : Bool} : truD (eB a) = some a := rfl
end
section
variable {α β γ : Type} {e : α → D} {f : β → D}
theorem o_isO (nn : NN e) {o : Option α} : isD (eO e o) (eN ()) = some (eB o.isNone) := by
  cases o with
  | none => rfl
  | some a => exact (nn a).1
theorem o_isntO (nn : NN e) {o : Option α} : isntD (eO e o) (eN ()) = some (eB o.isSome) := by
  unfold isntD
  rw [o_isO nn]
  cases o <;> rfl
theorem o_isN (nn : NN e) {a : α} : isD (e a) (eN ()) = some (eB false) := (nn a).1
theorem o_isntN (nn : NN e) {a : α} : isntD (e a) (eN ()) = some (eB true) := by
  unfold isntD
  rw [o_isN nn]
  rfl
theorem t_L {xs : List α} : truD (eL e xs) = some (!xs.isEmpty) := by cases xs <;> rfl
theorem t_T {xs : List α} : truD (eT e xs) = some (!xs.isEmpty) := by cases xs <;> rfl
theorem getO_of {o : Option α} : Le ((Rs.of o).map e) (.ok (eO e o)) := by cases o <;> first | trivial | rfl
theorem oDat {xs : List α} : (oL e xs).dat = eL e xs := rfl
/-! ### sequences -/
theorem o_addT {xs ys : List α} : Le ((Gd (xs.length + ys.length ≤ sizeLine) (.ok (xs ++ ys))).map (eT e)) (Rs.of (addD (eT e xs) (eT e ys))) := gd_of fun h => by
  show Le _ (Rs.of (if (xs.map e).length + (ys.map e).length ≤ sizeLine then some (PyData.tuple (xs.map e ++ ys.map e)) else none))
  rw [if_pos (by rw [List.length_map, List.length_map]; exact h)]
  show Rs.ok _ = Rs.ok (PyData.tuple ((xs ++ ys).map e))
  rw [List.map_append]
theorem o_addL {xs ys : List α} : Le ((Gd (xs.length + ys.length ≤ sizeLine) (.ok (xs ++ ys))).map (eL e)) (Rs.of (addD (eL e xs) (eL e ys))) := gd_of fun h => by
  show Le _ (Rs.of (if (xs.map e).length + (ys.map e).length ≤ sizeLine then some (PyData.list (xs.map e ++ ys.map e)) else none))
  rw [if_pos (by rw [List.length_map, List.length_map]; exact h)]
  show Rs.ok _ = Rs.ok (PyData.list ((xs ++ ys).map e))
  rw [List.map_append]
theorem o_catO {xs ys : List α} : Le ((Gd (xs.length + ys.length ≤ sizeLine) (.ok (xs ++ ys))).map (oL e)) (Rs.of (catO (eL e xs) (eL e ys))) := gd_of fun h => by
  show Le _ (Rs.of (if (xs.map e).length + (ys.map e).length ≤ sizeLine then some (O.l (xs.map e ++ ys.map e)) else none))
  rw [if_pos (by rw [List.length_map, List.length_map]; exact h)]
  show Rs.ok _ = Rs.ok _
  unfold oL
  rw [List.map_append]
def rep (xs : List α) (k : Int) : List α := (List.replicate k.toNat xs).flatten
theorem map_rep {xs : List α} {k : Int} : (rep xs k).map e = (List.replicate k.toNat (xs.map e)).flatten := by
  unfold rep
  rw [List.map_flatten, List.map_replicate]
theorem o_rep {xs : List α} {k : Int} : Le ((Gd (1 ≤ k ∧ k ≤ 1000 ∧ xs.length ≤ 1000 ∧ xs ≠ []) (.ok (rep xs k))).map (eT e)) (Rs.of (mulTD (eT e xs) (eI k))) := gd_of fun h => by
  show Le _ (Rs.of (if k = 1 then some (PyData.tuple (xs.map e)) else if xs.map e ≠ [] ∧ 2 ≤ k ∧ k ≤ 1000 ∧ (xs.map e).length ≤ 1000 then some (.tuple (List.replicate k.toNat (xs.map e)).flatten) else none))
  show Le (Rs.ok (PyData.tuple ((rep xs k).map e))) _
  rw [map_rep]
  by_cases h1 : k = 1
  · rw [if_pos h1, h1]
    show Rs.ok _ = Rs.ok _
    simp
  · rw [if_neg h1, if_pos ⟨by simpa using h.2.2.2, by omega, h.2.1, by rw [List.length_map]; exact h.2.2.1⟩]
    rfl
theorem atI_map {xs : List α} {i : Int} : atI (xs.map e) i = (atI xs i).map e := by
  unfold atI
  rw [List.length_map]
  cases ixN xs.length i with
  | none => rfl
  | some n => simp
def ixT (xs : List α) (i : Int) : Rs α := Rs.of (atI xs i)
theorem o_ixT {xs : List α} {i : Int} : Le ((ixT xs i).map e) (Rs.of (ixD (eT e xs) (eI i))) := by
  show Le _ (Rs.of (atI (xs.map e) i))
  rw [atI_map]
  unfold ixT
  cases atI xs i <;> first | trivial | rfl
theorem o_ixL {xs : List α} {i : Int} : Le ((ixT xs i).map e) (Rs.of (ixD (eL e xs) (eI i))) := by
  show Le _ (Rs.of (atI (xs.map e) i))
  rw [atI_map]
  unfold ixT
  cases atI xs i <;> first | trivial | rfl
theorem cutL_map {xs : List α} {lo hi : Option Int} : cutL (xs.map e) lo hi = (cutL xs lo hi).map e := by
  unfold cutL
  rw [List.length_map, ← List.map_drop, ← List.map_take]
theorem o_slT {xs : List α} {lo hi : Option Int} : sliceD (eT e xs) lo hi = some (eT e (cutL xs lo hi)) := by
  show some (PyData.tuple (cutL (xs.map e) lo hi)) = _
  rw [cutL_map]
theorem o_slL {xs : List α} {lo hi : Option Int} : sliceD (eL e xs) lo hi = some (eL e (cutL xs lo hi)) := by
  show some (PyData.list (cutL (xs.map e) lo hi)) = _
  rw [cutL_map]
theorem o_lenL {xs : List α} : lenD [eL e xs] = some (eI (xs.length : Int)) := by
  show some (PyData.int ((xs.map e).length : Int)) = _
  rw [List.length_map]
theorem o_lenT {xs : List α} : lenD [eT e xs] = some (eI (xs.length : Int)) := by
  show some (PyData.int ((xs.map e).length : Int)) = _
  rw [List.length_map]
theorem o_sum {xs : List Int} : sumD [eL eI xs] = some (eI xs.sum) := sumD_map xs
theorem o_all {xs : List Bool} : allD [eL eB xs] = some (eB (xs.all id)) := allD_map xs
theorem o_any {xs : List Bool} : anyD [eL eB xs] = some (eB (xs.any id)) := anyD_map xs
theorem o_tupleL {xs : List α} : tupleD [eL e xs] = some (eT e xs) := rfl
theorem o_tupleT {xs : List α} : tupleD [eT e xs] = some (eT e xs) := rfl
theorem o_listL {xs : List α} : listO [eL e xs] = some (oL e xs) := rfl
theorem o_listT {xs : List α} : listO [eT e xs] = some (oL e xs) := rfl
theorem o_sortI {xs : List Int} : sortAO [eL eI xs] = some (oL eI (srtI xs)) := by
  show sortTO [.list (xs.map PyData.int)] = _
  unfold sortTO
  simp only [intsD_map]
  rfl
theorem o_sortT {xs : List (List Int)} : Le ((Gd (∀ p ∈ xs, p ≠ []) (.ok (srtT xs))).map (oL (eT eI))) (Rs.of (sortAO [eL (eT eI) xs])) := gd_of fun h => by
  have hA : ∀ {rows : List (List Int)}, (∀ p ∈ rows, p ≠ []) → allM asT (rows.map (eT eI)) = some rows := fun {rows} => by
    induction rows with
    | nil => exact fun _ => rfl
    | cons p rows ih =>
      intro h
      have h1 := h p List.mem_cons_self
      rw [List.map_cons]
      unfold allM
      have e : asT (eT eI p) = some p := by
        cases p with
        | nil => exact absurd rfl h1
        | cons x p =>
          show (match intsD ((x :: p).map PyData.int) with | some [] => none | r => r) = _
          rw [intsD_map]
      rw [e, ih fun q hq => h q (List.mem_cons_of_mem _ hq)]
      rfl
  show Le _ (Rs.of (sortTO [.list (xs.map (eT eI))]))
  unfold sortTO
  simp only
  cases xs with
  | nil => rfl
  | cons p rows =>
    have e : intsD ((p :: rows).map (eT eI)) = none := by
      rw [List.map_cons]
      unfold intsD allM
      rfl
    rw [e]
    simp only
    rw [hA h]
    rfl
theorem ltT_aux {xs ys : List Int} : ltTD (eT eI xs) (eT eI ys) = some (eB (HT.lexLt xs ys)) := by
  show (intsD (xs.map PyData.int)).bind _ = _
  rw [intsD_map, Option.bind_some, intsD_map]
  rfl
theorem o_ltP2 {p q : Int × Int} : ltTD (eP2 eI eI p) (eP2 eI eI q) = some (eB (HT.lexLt [p.1, p.2] [q.1, q.2])) := ltT_aux (xs := [p.1, p.2]) (ys := [q.1, q.2])
/-! ### walks -/
theorem w_L {xs : List α} : walkD (eL e xs) = some (xs.map e) := rfl
theorem w_T {xs : List α} : walkD (eT e xs) = some (xs.map e) := rfl
def rng (lo hi : Int) : List Int := (List.range (hi - lo).toNat).map fun (i : Nat) => lo + (i : Int)
theorem rangeL_rng {lo hi : Int} : rangeL lo (hi - lo).toNat = (rng lo hi).map eI := by
  unfold rangeL rng
  rw [List.map_map]
  rfl
theorem o_rg1 {n : Int} : Le ((Gd (rgOk 0 n = true) (.ok (rng 0 n))).map fun xs => xs.map eI) (Rs.of (range1D [eI n])) := gd_of fun h => by
  show Le _ (Rs.of (if rgOk 0 n = true then some (rangeL 0 n.toNat) else none))
  rw [if_pos h]
  show Rs.ok _ = Rs.ok ((rng 0 n).map eI)
  rw [← rangeL_rng]
  simp
theorem o_rg1c {n : Int} (h : rgOk 0 n = true) : range1D [eI n] = some ((rng 0 n).map eI) := by
  show (if rgOk 0 n = true then some (rangeL 0 n.toNat) else none) = _
  rw [if_pos h, ← rangeL_rng]
  simp
theorem o_rg2 {m n : Int} : Le ((Gd (rgOk m n = true) (.ok (rng m n))).map fun xs => xs.map eI) (Rs.of (range2D [eI m, eI n])) := gd_of fun h => by
  show Le _ (Rs.of (if rgOk m n = true then some (rangeL m (n - m).toNat) else none))
  rw [if_pos h, rangeL_rng]
  rfl
theorem o_zipL {xs : List α} {ys : List β} : zipD [eL e xs, eL f ys] = some ((xs.zip ys).map (eP2 e f)) := by
  show some (zipL (xs.map e) (ys.map f)) = _
  rw [zipL_enc]
theorem o_zipT {xs : List α} {ys : List β} : zipD [eT e xs, eT f ys] = some ((xs.zip ys).map (eP2 e f)) := by
  show some (zipL (xs.map e) (ys.map f)) = _
  rw [zipL_enc]
def enumT (xs : List α) : List (Int × α) := xs.zipIdx.map fun p => ((p.2 : Int), p.1)
theorem enumL_enc {xs : List α} : enumL (xs.map e) = (enumT xs).map (eP2 eI e) := by
  unfold enumL enumT
  rw [List.zipIdx_map, List.map_map, List.map_map]
  rfl
theorem o_enumL {xs : List α} : enumD [eL e xs] = some ((enumT xs).map (eP2 eI e)) := by
  show some (enumL (xs.map e)) = _
  rw [enumL_enc]
theorem o_enumT {xs : List α} : enumD [eT e xs] = some ((enumT xs).map (eP2 eI e)) := by
  show some (enumL (xs.map e)) = _
  rw [enumL_enc]
theorem te_rgT {sp : Ev} {ga : Ev → Rs D} {n : Int} (h : TV sp ga (eI n)) : TE sp (rgD .tuple ga) (eT eI) (Gd (n.natAbs ≤ 16777216) (.ok (rng 0 n))) := fun ρ H => by
  rw [map_gd]
  refine Le.gd fun hn => ?_
  unfold rgD
  rw [h ρ H, Rs.bind_ok]
  show (if n.natAbs ≤ 16777216 then Rs.ok (PyData.tuple (rangeL 0 n.toNat)) else .bad) = Rs.ok (PyData.tuple ((rng 0 n).map eI))
  rw [if_pos hn]
  have := rangeL_rng (lo := 0) (hi := n)
  rw [Int.sub_zero] at this
  rw [this]
theorem te_rgL {sp : Ev} {ga : Ev → Rs D} {n : Int} (h : TV sp ga (eI n)) : TE sp (rgD O.l ga) (oL eI) (Gd (n.natAbs ≤ 16777216) (.ok (rng 0 n))) := fun ρ H => by
  rw [map_gd]
  refine Le.gd fun hn => ?_
  unfold rgD
  rw [h ρ H, Rs.bind_ok]
  show (if n.natAbs ≤ 16777216 then Rs.ok (O.l (rangeL 0 n.toNat)) else .bad) = Rs.ok (O.l ((rng 0 n).map eI))
  rw [if_pos hn]
  have := rangeL_rng (lo := 0) (hi := n)
  rw [Int.sub_zero] at this
  rw [this]
theorem te_rgTm {sp : Ev} {ga : Ev → Rs D} {x : Rs Int} (h : TE sp ga eI x) : TE sp (rgD .tuple ga) (eT eI) (x.bind fun n => Gd (n.natAbs ≤ 16777216) (.ok (rng 0 n))) := fun ρ H => by
  have := h ρ H
  cases x with
  | ok a => exact te_rgT (fun ρ' H' => h ρ' H') ρ H
  | xc n as => exact this.elim
  | bad => trivial
theorem tup_lit {ds : List D} (h : ds.length ≤ 64) : tupD ds = some (.tuple ds) := tupD_ok (Nat.le_trans h (by rw [sizeLine_eq]; decide))
theorem lst_lit {ds : List D} (h : ds.length ≤ 64) : lstO ds = some (.l ds) := lstO_ok (Nat.le_trans h (by rw [sizeLine_eq]; decide))
theorem o_star {ds : List D} {xs : List α} (h : ds = xs.map e) : Le ((Gd (xs.length ≤ sizeLine) (.ok xs)).map (eT e)) (Rs.of (tupD ds)) := gd_of fun hl => by
  rw [tupD_ok (by rw [h, List.length_map]; exact hl), h]
  rfl
/-- repr -/
def reprT (d : D) : Rs Str := match reprD [d] with
  | some (.str s) => .ok s
  | _ => .bad
theorem o_repr {d : D} : Le ((reprT d).map eS) (Rs.of (reprD [d])) := by
  unfold reprT
  cases reprD [d] with
  | none => trivial
  | some c => cases c <;> first | trivial | rfl
/-- sorted(set(list of ints)) -/
theorem te_sset {sp : Ev} {ga : Ev → Rs D} {xs : List Int} (h : TV sp ga (eL eI xs)) : TE sp (ssetG ga) (oL eI) (Gd (xs.length < 64) (.ok (srtI (dedI xs)))) := fun ρ H => by
  rw [map_gd]
  refine Le.gd fun hn => ?_
  unfold ssetG
  rw [h ρ H, Rs.bind_ok]
  simp only [intsD_map]
  rw [if_pos hn]
  rfl
theorem tm_sset {S : Type} {mk : S → Ev} {s : S} {fa : Ev → Rs (D × Ev)} {x : Rs (List Int × S)} (h : TM mk s fa (eL eI) x) : TM mk s (ssetM fa) (oL eI) (bnd2 x fun xs s => withS s (Gd (xs.length < 64) (.ok (srtI (dedI xs))))) := fun ρ H => by
  have h1 := h ρ H
  cases x with
  | ok r =>
    obtain ⟨xs, s'⟩ := r
    obtain ⟨ρ1, h2, h3⟩ := h1
    by_cases hn : xs.length < 64
    · rw [bnd2_ok, Gd_pos hn]
      refine ⟨ρ1, ?_, h3⟩
      unfold ssetM
      rw [h2, mbind_ok]
      unfold ssetG
      rw [Rs.bind_ok]
      simp only [intsD_map]
      rw [if_pos hn]
      rfl
    · rw [bnd2_ok]
      unfold Gd
      rw [if_neg hn]
      trivial
  | xc n as => exact h1.elim
  | bad => trivial
/-! ### pop -/
def popT (xs : List α) : Rs (α × List α) := match xs.getLast? with
  | some a => .ok (a, xs.dropLast)
  | none => .bad
theorem o_pop {xs : List α} : Le ((popT xs).map fun r => (e r.1, oL e r.2)) (Rs.of (popO (oL e xs) [])) := by
  unfold popT oL
  show Le _ (Rs.of (match (xs.map e).getLast? with | some d => some (d, O.l (xs.map e).dropLast) | none => none))
  rw [List.getLast?_map, ← List.map_dropLast]
  cases xs.getLast? <;> first | trivial | rfl
end
/-! ### dicts -/
section
variable {κ α β γ : Type} [DecidableEq κ] {ek : κ → D} {e : α → D} {f : β → D}
structure KeyE (ek : κ → D) (kf : κ → Key) : Prop where
  k : ∀ a, keyD (ek a) = some (kf a)
  d : ∀ a, kD (kf a) = ek a
  inj : ∀ a b, kf a = kf b → a = b
theorem kI : KeyE eI Sum.inl := ⟨fun _ => rfl, fun _ => rfl, fun a b h => by cases h; rfl⟩
theorem kS : KeyE eS Sum.inr := ⟨fun _ => rfl, fun _ => rfl, fun a b h => by cases h; rfl⟩
def putT (kvs : List (κ × α)) (k : κ) (v : α) : List (κ × α) := if (kvs.any fun p => decide (p.1 = k)) = true then kvs.map (fun p => if p.1 = k then (p.1, v) else p) else kvs ++ [(k, v)]
def dictT (ps : List (κ × α)) : List (κ × α) := ps.foldl (fun m p => putT m p.1 p.2) []
def lookT (k : κ) : List (κ × α) → Option α
  | [] => none
  | p :: r => if p.1 = k then some p.2 else lookT k r
def getT (kvs : List (κ × α)) (k : κ) : Rs α := Rs.of (lookT k kvs)
abbrev encM (ek : κ → D) (e : α → D) (kvs : List (κ × α)) : List (D × D) := kvs.map fun p => (ek p.1, e p.2)
variable {kf : κ → Key}
theorem key_iff (q : KeyE ek kf) {a k : κ} : keyD (ek a) = some (kf k) ↔ a = k := ⟨fun h => q.inj _ _ (by rw [q.k] at h; exact Option.some.inj h), fun h => by rw [h, q.k]⟩
theorem look_enc (q : KeyE ek kf) {k : κ} : ∀ kvs : List (κ × α), lookD (kf k) (encM ek e kvs) = (lookT k kvs).map e
  | [] => rfl
  | p :: r => by
    show (if keyD (ek p.1) = some (kf k) then some (e p.2) else lookD (kf k) (encM ek e r)) = _
    unfold lookT
    by_cases h : p.1 = k
    · rw [if_pos ((key_iff q).mpr h), if_pos h]; rfl
    · rw [if_neg fun z => h ((key_iff q).mp z), if_neg h]
      exact look_enc q r
theorem put_enc (q : KeyE ek kf) {k : κ} {v : α} (kvs : List (κ × α)) : putP (encM ek e kvs) (kf k) (e v) = encM ek e (putT kvs k v) := by
  have ha : ((encM ek e kvs).any fun p => decide (keyD p.1 = some (kf k))) = kvs.any fun p => decide (p.1 = k) := by
    rw [List.any_map]
    congr 1
    funext p
    show decide (keyD (ek p.1) = some (kf k)) = _
    by_cases h : p.1 = k
    · rw [decide_eq_true h, decide_eq_true ((key_iff q).mpr h)]
    · rw [decide_eq_false h, decide_eq_false fun z => h ((key_iff q).mp z)]
  unfold putP putT
  rw [ha]
  split
  · unfold encM
    rw [List.map_map, List.map_map]
    refine List.map_congr_left fun p _ => ?_
    show (if keyD (ek p.1) = some (kf k) then (ek p.1, e v) else (ek p.1, e p.2)) = (ek (if p.1 = k then (p.1, v) else p).1, e (if p.1 = k then (p.1, v) else p).2)
    by_cases h : p.1 = k
    · rw [if_pos ((key_iff q).mpr h), if_pos h]
    · rw [if_neg fun z => h ((key_iff q).mp z), if_neg h]
  · unfold encM
    rw [List.map_append, q.d]
    rfl
theorem fold_enc (q : KeyE ek kf) : ∀ (ps m : List (κ × α)), (ps.map fun p => PyData.tuple [ek p.1, e p.2]).foldl putQ (encM ek e m) = encM ek e (ps.foldl (fun m p => putT m p.1 p.2) m)
  | [], m => rfl
  | p :: ps, m => by
    rw [List.map_cons, List.foldl_cons, List.foldl_cons]
    have : putQ (encM ek e m) (.tuple [ek p.1, e p.2]) = encM ek e (putT m p.1 p.2) := by
      rw [← put_enc q]
      show (match keyD (ek p.1) with | some k => putP _ k (e p.2) | none => _) = _
      rw [q.k]
    rw [this]
    exact fold_enc q ps _
theorem mark_enc (q : KeyE ek kf) (kvs : List (κ × α)) : markD (encM ek e kvs) = false := by
  cases kvs with
  | nil => rfl
  | cons p r =>
    show markD ((ek p.1, e p.2) :: _) = false
    have := q.k p.1
    cases h : ek p.1 <;> first | rfl | (rw [h] at this; cases this)
theorem o_dget (q : KeyE ek kf) {kvs : List (κ × α)} {k : κ} : Le ((getT kvs k).map e) (Rs.of (dgetD (eM ek e kvs) (ek k))) := by
  show Le _ (Rs.of ((keyD (ek k)).bind fun k => lookD k (encM ek e kvs)))
  rw [q.k, Option.bind_some, look_enc q]
  unfold getT
  cases lookT k kvs <;> first | trivial | rfl
theorem o_inM (q : KeyE ek kf) {kvs : List (κ × α)} {k : κ} : inTD (ek k) (eM ek e kvs) = some (eB (lookT k kvs).isSome) := by
  show (if markD (encM ek e kvs) = true then none else (keyD (ek k)).map fun k => PyData.bool (lookD k (encM ek e kvs)).isSome) = _
  rw [mark_enc q, if_neg (by simp), q.k, Option.map_some, look_enc q]
  cases lookT k kvs <;> rfl
theorem o_ninM (q : KeyE ek kf) {kvs : List (κ × α)} {k : κ} : ninTD (ek k) (eM ek e kvs) = some (eB (!(lookT k kvs).isSome)) := by
  show (if markD (encM ek e kvs) = true then none else (keyD (ek k)).map fun k => PyData.bool (!(lookD k (encM ek e kvs)).isSome)) = _
  rw [mark_enc q, if_neg (by simp), q.k, Option.map_some, look_enc q]
  cases lookT k kvs <;> rfl
theorem mapR_enc' {δ : Type} {f : D → Rs D} {g : δ → α} {en : δ → D} {ev : α → D} : ∀ {xs : List δ}, (∀ x, f (en x) = .ok (ev (g x))) → mapR f (xs.map en) = .ok ((xs.map g).map ev)
  | [], _ => rfl
  | x :: xs, h => by
    rw [List.map_cons]
    unfold mapR
    rw [h x, Rs.bind_ok, mapR_enc' h]
    rfl
theorem te_dc1 {sp spw : Ev} {gi : Ev → Rs (List D)} {b : D → Ev → Option Ev} {tk tv : Ev → Rs D} {vs : List Nat} {δ : Type} {en : δ → D} {xs : List δ} {sx : δ → Ev} {k : δ → κ} {v : δ → α} (q : KeyE ek kf) (hi : TV sp gi (xs.map en)) (hm : Mono b) (hw : wipeE vs sp = some spw) (hb : ∀ x, b (en x) spw = some (sx x))
    (hk : ∀ x, TV (sx x) tk (ek (k x))) (hv : ∀ x, TV (sx x) tv (e (v x))) : TE sp (dcG1 gi b tk tv vs) (oM ek e) (Gd (xs.length ≤ sizeLine) (.ok (dictT (xs.map fun x => (k x, v x))))) := fun ρ H => by
  rw [map_gd]
  refine Le.gd fun hn => ?_
  obtain ⟨ρ0, h1, h2⟩ := H.wipe hw
  unfold dcG1
  rw [hi ρ H, Rs.bind_ok, h1]
  have hp : mapR (pairB b tk tv ρ0) (xs.map en) = .ok ((xs.map fun x => (k x, v x)).map fun p => PyData.tuple [ek p.1, e p.2]) := mapR_enc' fun x => by
    obtain ⟨ρ1, h3, h4⟩ := hm _ _ _ _ h2 (hb x)
    unfold pairB
    rw [h3]
    simp only [hk x ρ1 h4, q.k, hv x ρ1 h4]
  simp only [hp]
  unfold okO
  simp only
  rw [if_pos (by rw [List.length_map, List.length_map]; exact hn)]
  unfold foldP
  rw [show ([] : List (D × D)) = encM ek e ([] : List (κ × α)) from rfl, fold_enc q]
  rfl
end
end TL
/-! T5: small helpers of the printed texts. -/
namespace TL
open PySem PySem.Spec PyProof.Rows L2 DL
section
variable {α β S : Type} {e : α → D} {e' : β → D} {mk : S → Ev} {s : S}
theorem cvL {c : α → β} (h : ∀ a, e a = e' (c a)) (xs : List α) : eL e xs = eL e' (xs.map c) := by
  show PyData.list _ = PyData.list _
  rw [List.map_map]
  exact congrArg _ (List.map_congr_left fun a _ => h a)
theorem cvT {c : α → β} (h : ∀ a, e a = e' (c a)) (xs : List α) : eT e xs = eT e' (xs.map c) := by
  show PyData.tuple _ = PyData.tuple _
  rw [List.map_map]
  exact congrArg _ (List.map_congr_left fun a _ => h a)
theorem tm_int {fa : Ev → Rs (D × Ev)} {x : Rs (Int × S)} (hA : TM mk s fa eI x) : TM mk s (appM intD (consM fa nilM)) eI x := fun ρ H => by
  have := hA ρ H
  cases x with
  | ok r =>
    obtain ⟨ρ1, h1, h2⟩ := this
    exact ⟨ρ1, by unfold appM consM; rw [h1]; rfl, h2⟩
  | xc n as => exact this.elim
  | bad => trivial
theorem te_int {sp : Ev} {ga : Ev → Rs D} {x : Rs Int} (hA : TE sp ga eI x) : TE sp (appG intD (consG ga nilG)) eI x := fun ρ H => by
  have := hA ρ H
  cases x with
  | ok r =>
    have h1 : ga ρ = .ok (eI r) := this
    unfold appG consG
    rw [h1]
    rfl
  | xc n as => exact this.elim
  | bad => trivial
theorem te_idB {sp : Ev} {g : Ev → Rs Bool} {b : Bool} (h : TV sp g b) : TE sp g id (.ok b) := fun ρ H => h ρ H
end
end TL
namespace TL
open PySem PySem.Spec PyProof.Rows L2 DL
theorem imI (a : Int) : imm (eI a) = true := by unfold eI imm; rfl
theorem imms_map {α : Type} {e : α → D} (h : ∀ a, imm (e a) = true) : ∀ xs : List α, imms (xs.map e) = true
  | [] => by unfold List.map imms; rfl
  | x :: xs => by
    rw [List.map_cons]
    unfold imms
    rw [h x, imms_map h xs]
    rfl
theorem immO_L {α : Type} {e : α → D} (h : ∀ a, imm (e a) = true) (xs : List α) : immO (oL e xs) = true := imms_map h xs
end TL
/-! T6: what a typed run gives. -/
namespace TL
open PySem PySem.Spec PyProof.Rows L2 DL

def Ok {α : Type} (x : Rs α) (P : α → Prop) : Prop := match x with
  | .ok a => P a
  | _ => False
section
variable {α β γ S ω : Type} {x : Rs α} {P : α → Prop} {Q : β → Prop}
theorem Ok.ex (h : Ok x P) : ∃ a, x = .ok a ∧ P a := by
  cases x with
  | ok a => exact ⟨a, rfl, h⟩
  | xc n as => exact h.elim
  | bad => exact h.elim
theorem Ok.of {a : α} (e : x = .ok a) (h : P a) : Ok x P := by subst e; exact h
theorem ok_ok {a : α} (h : P a) : Ok (.ok a) P := h
theorem Ok.imp {P' : α → Prop} (h : Ok x P) (i : ∀ a, P a → P' a) : Ok x P' := by
  obtain ⟨a, rfl, h⟩ := h.ex
  exact i a h
theorem ok_bind {k : α → Rs β} (h : Ok x P) (hk : ∀ a, P a → Ok (k a) Q) : Ok (x.bind k) Q := by
  obtain ⟨a, rfl, h⟩ := h.ex
  exact hk a h
theorem ok_map {f : α → β} (h : Ok x fun a => Q (f a)) : Ok (x.map f) Q := by
  obtain ⟨a, rfl, h⟩ := h.ex
  exact h
theorem ok_bnd2 {x : Rs (α × S)} {k : α → S → Rs β} {P : α → S → Prop} (h : Ok x fun r => P r.1 r.2) (hk : ∀ a s, P a s → Ok (k a s) Q) : Ok (bnd2 x k) Q := by
  obtain ⟨⟨a, s⟩, rfl, h⟩ := h.ex
  exact hk a s h
theorem ok_mapS {x : Rs (α × S)} {v : α → β} {Q : β × S → Prop} (h : Ok x fun r => Q (v r.1, r.2)) : Ok (mapS v x) Q := ok_map h
theorem ok_withS {s : S} {Q : α × S → Prop} (h : Ok x fun a => Q (a, s)) : Ok (withS s x) Q := ok_map h
theorem ok_gd {c : Prop} [Decidable c] (hc : c) (h : Ok x P) : Ok (Gd c x) P := by rw [Gd_pos hc]; exact h
theorem ok_if {c : Bool} {y : Rs α} (h1 : c = true → Ok x P) (h2 : c = false → Ok y P) : Ok (if c = true then x else y) P := by
  cases c
  · exact h2 rfl
  · exact h1 rfl
theorem ok_bndTO {x : Rs (TO ω S)} {k : S → Rs ω} {Q : ω → Prop} {P : S → Prop} (h : Ok x fun o => match o with | .rt r => Q r | .bk s => P s | .nx s => P s) (hk : ∀ s, P s → Ok (k s) Q) : Ok (bndTO x k) Q := by
  obtain ⟨o, rfl, h⟩ := h.ex
  cases o with
  | rt r => exact h
  | bk s => exact hk s h
  | nx s => exact hk s h
/-- loops, by the turn -/
theorem ok_forR {f : α → S → Rs S} {I : Nat → S → Prop} : ∀ {xs : List α} {s : S} {k : Nat}, I k s → (∀ i x s, xs[i]? = some x → I (k + i) s → Ok (f x s) (I (k + i + 1))) → Ok (forR f xs s) (I (k + xs.length))
  | [], s, k, h, _ => h
  | x :: xs, s, k, h, hf => by
    unfold forR
    refine ok_bind (hf 0 x s rfl h) fun s1 h1 => ?_
    have := ok_forR (xs := xs) (k := k + 1) h1 fun i y s2 hy h2 => by
      have := hf (i + 1) y s2 (by simpa using hy) (by rw [show k + (i + 1) = k + 1 + i by omega]; exact h2)
      rw [show k + (i + 1) + 1 = k + 1 + i + 1 by omega] at this
      exact this
    rw [show k + (x :: xs).length = k + 1 + xs.length by rw [List.length_cons]; omega]
    exact this
theorem ok_forR' {f : α → S → Rs S} {I : S → Prop} {xs : List α} {s : S} (h : I s) (hf : ∀ x ∈ xs, ∀ s, I s → Ok (f x s) I) : Ok (forR f xs s) I :=
  ok_forR (I := fun _ => I) (k := 0) h fun i x s hx hs => hf x (List.mem_of_getElem? hx) s hs
/-- a loop that computes a fold -/
theorem forR_fold {f : α → S → Rs S} {g : S → α → S} {I : S → Prop} : ∀ {xs : List α} {s : S}, I s → (∀ x ∈ xs, ∀ s, I s → f x s = .ok (g s x) ∧ I (g s x)) → forR f xs s = .ok (xs.foldl g s) ∧ I (xs.foldl g s)
  | [], s, h, _ => ⟨rfl, h⟩
  | x :: xs, s, h, hf => by
    obtain ⟨e, h1⟩ := hf x List.mem_cons_self s h
    have := forR_fold (xs := xs) h1 fun y hy => hf y (List.mem_cons_of_mem _ hy)
    unfold forR
    rw [e, Rs.bind_ok]
    exact this
theorem forR_ok {f : α → S → Rs S} {g : S → α → S} {xs : List α} {s : S} (hf : ∀ x ∈ xs, ∀ s, f x s = .ok (g s x)) : forR f xs s = .ok (xs.foldl g s) := (forR_fold (I := fun _ => True) trivial fun x hx s _ => ⟨hf x hx s, trivial⟩).1
theorem ok_forF {f : α → S → Rs (TO ω S)} {I : Nat → S → Prop} {Q : ω → Prop} {J : S → Prop} : ∀ {xs : List α} {s : S} {k : Nat}, I k s → (∀ s, I (k + xs.length) s → J s) → (∀ i x s, xs[i]? = some x → I (k + i) s → Ok (f x s) fun o => match o with | .rt r => Q r | .bk s => J s | .nx s => I (k + i + 1) s) →
    Ok (forF f xs s) fun o => match o with | .rt r => Q r | .bk s => J s | .nx s => J s
  | [], s, k, h, hJ, _ => hJ s h
  | x :: xs, s, k, h, hJ, hf => by
    unfold forF
    refine ok_bind (hf 0 x s rfl h) fun o h1 => ?_
    cases o with
    | rt r => exact h1
    | bk s => exact h1
    | nx s1 =>
      exact ok_forF (xs := xs) (k := k + 1) h1 (fun s hs => hJ s (by rw [List.length_cons, show k + (xs.length + 1) = k + 1 + xs.length by omega]; exact hs)) fun i y s2 hy h2 => by
        have := hf (i + 1) y s2 (by simpa using hy) (by rw [show k + (i + 1) = k + 1 + i by omega]; exact h2)
        rw [show k + (i + 1) + 1 = k + 1 + i + 1 by omega] at this
        exact this
theorem ok_forF' {f : α → S → Rs (TO ω S)} {I : S → Prop} {Q : ω → Prop} {xs : List α} {s : S} (h : I s) (hf : ∀ x ∈ xs, ∀ s, I s → Ok (f x s) fun o => match o with | .rt r => Q r | .bk s => I s | .nx s => I s) :
    Ok (forF f xs s) fun o => match o with | .rt r => Q r | .bk s => I s | .nx s => I s :=
  ok_forF (I := fun _ => I) (k := 0) h (fun s hs => hs) fun i x s hx hs => hf x (List.mem_of_getElem? hx) s hs
theorem ok_mapT {f : α → Rs β} {P : α → β → Prop} : ∀ {xs : List α}, (∀ x ∈ xs, Ok (f x) (P x)) → Ok (mapT f xs) fun (ys : List β) => ys.length = xs.length ∧ ∀ (i : Nat) x y, xs[i]? = some x → ys[i]? = some y → P x y
  | [], _ => ⟨rfl, fun i x y h => by simp at h⟩
  | x :: xs, h => by
    unfold mapT
    refine ok_bind (h x List.mem_cons_self) fun y hy => ok_bind (ok_mapT fun z hz => h z (List.mem_cons_of_mem _ hz)) fun ys hys => ?_
    refine ok_ok ⟨by rw [List.length_cons, List.length_cons, hys.1], fun i a b ha hb => ?_⟩
    cases i with
    | zero => cases ha; cases hb; exact hy
    | succ i => exact hys.2 i a b (by simpa using ha) (by simpa using hb)
/-- comprehensions that change a list -/
theorem ok_mapTS {f : α → S → Rs (β × S)} {I : S → Prop} {P : α → β → Prop} : ∀ {xs : List α} {s : S}, I s → (∀ x ∈ xs, ∀ s, I s → Ok (f x s) fun r => P x r.1 ∧ I r.2) → Ok (mapTS f xs s) fun r => (r.1.length = xs.length ∧ ∀ (i : Nat) x y, xs[i]? = some x → r.1[i]? = some y → P x y) ∧ I r.2
  | [], s, h, _ => ⟨⟨rfl, fun i x y h => by simp at h⟩, h⟩
  | x :: xs, s, h, hf => by
    unfold mapTS
    refine ok_bnd2 (P := fun a s => P x a ∧ I s) (hf x List.mem_cons_self s h) fun y s1 hy => ?_
    refine ok_bnd2 (P := fun (r : List β) s => (r.length = xs.length ∧ ∀ (i : Nat) x y, xs[i]? = some x → r[i]? = some y → P x y) ∧ I s) (ok_mapTS hy.2 fun z hz => hf z (List.mem_cons_of_mem _ hz)) fun ys s2 hys => ?_
    refine ok_ok ⟨⟨by rw [List.length_cons, List.length_cons, hys.1.1], fun i a b ha hb => ?_⟩, hys.2⟩
    cases i with
    | zero => cases ha; cases hb; exact hy.1
    | succ i => exact hys.1.2 i a b (by simpa using ha) (by simpa using hb)
/-- what is kept is a part of what is walked (by a map) -/
theorem ok_compTS {f : α → S → Rs (Option β × S)} {I : S → Prop} {g : α → β} : ∀ {xs : List α} {s : S}, I s → (∀ x ∈ xs, ∀ s, I s → Ok (f x s) fun r => (∀ y, r.1 = some y → y = g x) ∧ I r.2) → Ok (compTS f xs s) fun r => r.1.Sublist (xs.map g) ∧ I r.2
  | [], s, h, _ => ⟨List.Sublist.slnil, h⟩
  | x :: xs, s, h, hf => by
    unfold compTS
    refine ok_bnd2 (P := fun a s => (∀ y, a = some y → y = g x) ∧ I s) (hf x List.mem_cons_self s h) fun o s1 ho => ?_
    refine ok_bnd2 (P := fun r s => r.Sublist (xs.map g) ∧ I s) (ok_compTS ho.2 fun z hz => hf z (List.mem_cons_of_mem _ hz)) fun ys s2 hys => ?_
    refine ok_ok ⟨?_, hys.2⟩
    cases o with
    | none => exact hys.1.cons _
    | some y => rw [ho.1 y rfl]; exact hys.1.cons₂ _
theorem ok_tstS {c : Rs (Bool × S)} {y : S → Rs (β × S)} {I : S → Prop} {P : β → Prop} (hc : Ok c fun r => I r.2) (hy : ∀ s, I s → Ok (y s) fun r => P r.1 ∧ I r.2) : Ok (tstS c y) fun r => (∀ y, r.1 = some y → P y) ∧ I r.2 := by
  unfold tstS
  refine ok_bnd2 (P := fun _ s => I s) hc fun b s hs => ok_if (fun _ => ok_mapS ?_) fun _ => ok_ok ⟨fun y z => absurd z (by simp), hs⟩
  exact (hy s hs).imp fun r h => ⟨fun z e => (Option.some.inj e) ▸ h.1, h.2⟩
end

/-! ### kinds that tell their values -/
def Inj {α : Type} (e : α → D) : Prop := ∀ a b, e a = e b → a = b
theorem EqE.inj {α : Type} [DecidableEq α] {e : α → D} {n : Nat} (q : EqE e n) : Inj e := fun a b h => by
  have h1 := q.ev a b
  rw [h, q.ev b b, decide_eq_true rfl] at h1
  exact of_decide_eq_true h1.symm
theorem injD : Inj eD := fun _ _ h => h
theorem injL {α : Type} {e : α → D} (h : Inj e) : Inj (eL e) := fun a b q => by
  have q : a.map e = b.map e := PyData.list.inj q
  exact (List.map_inj_right (fun x y z => h x y z)).mp q
theorem injI : Inj eI := fun _ _ h => PyData.int.inj h
theorem injB : Inj eB := fun _ _ h => PyData.bool.inj h
theorem injS : Inj eS := fun _ _ h => PyData.str.inj h
theorem injT {α : Type} {e : α → D} (h : Inj e) : Inj (eT e) := fun a b q => by
  have q : a.map e = b.map e := PyData.tuple.inj q
  exact (List.map_inj_right (fun x y z => h x y z)).mp q
theorem injP2 {α β : Type} {e : α → D} {f : β → D} (h : Inj e) (k : Inj f) : Inj (eP2 e f) := fun a b q => by
  have q : [e a.1, f a.2] = [e b.1, f b.2] := PyData.tuple.inj q
  simp only [List.cons.injEq, and_true] at q
  exact Prod.ext (h _ _ q.1) (k _ _ q.2)
theorem injP3 {α β γ : Type} {e : α → D} {f : β → D} {g : γ → D} (h : Inj e) (k : Inj f) (l : Inj g) : Inj (eP3 e f g) := fun a b q => by
  have q : [e a.1, f a.2.1, g a.2.2] = [e b.1, f b.2.1, g b.2.2] := PyData.tuple.inj q
  simp only [List.cons.injEq, and_true] at q
  exact Prod.ext (h _ _ q.1) (Prod.ext (k _ _ q.2.1) (l _ _ q.2.2))
theorem injO {α : Type} {e : α → D} (h : Inj e) (nn : NN e) : Inj (eO e) := fun a b q => by
  cases a with
  | none =>
    cases b with
    | none => rfl
    | some b =>
      have := (nn b).1
      have q : PyData.none = e b := q
      rw [← q] at this
      cases this
  | some a =>
    cases b with
    | none =>
      have := (nn a).1
      have q : e a = PyData.none := q
      rw [q] at this
      cases this
    | some b => exact congrArg some (h a b q)
/-- the value of a pure function, as one of a kind -/
noncomputable def relF {α : Type} (e : α → D) (y : Rs D) : Rs α := open Classical in if h : ∃ a, y = .ok (e a) then .ok h.choose else .bad
theorem ct_rel {α : Type} {e : α → D} {y : Rs D} : Le ((relF e y).map e) y := by
  unfold relF
  split
  · rename_i h
    exact h.choose_spec
  · trivial
theorem relF_ok {α : Type} {e : α → D} {y : Rs D} {a : α} (hi : Inj e) (h : y = .ok (e a)) : relF e y = .ok a := by
  unfold relF
  have hx : ∃ a, y = .ok (e a) := ⟨a, h⟩
  rw [dif_pos hx]
  have := Rs.ok.inj (h.symm.trans hx.choose_spec)
  exact congrArg Rs.ok (hi _ _ this).symm
/-! ### sizes -/
theorem sz {n : Nat} (h : n ≤ 16000000) : n ≤ sizeLine := by rw [sizeLine_eq]; omega
theorem szl {n : Nat} (h : n < 16000000) : n < sizeLine := by rw [sizeLine_eq]; omega
theorem rgk {i j : Int} (h : i.natAbs ≤ 1000000) (h' : j.natAbs ≤ 1000000) : rgOk i j = true := by
  unfold rgOk
  rw [decide_eq_true (by omega), decide_eq_true (by omega), decide_eq_true (sz (by omega))]
  rfl
theorem rng0 (n : Nat) : rng 0 (n : Int) = (List.range n).map fun (i : Nat) => (i : Int) := by
  unfold rng
  simp
theorem rng_len (lo hi : Int) : (rng lo hi).length = (hi - lo).toNat := by unfold rng; simp
theorem mem_rng {lo hi x : Int} : x ∈ rng lo hi ↔ lo ≤ x ∧ x < hi := by
  unfold rng
  simp only [List.mem_map, List.mem_range]
  constructor
  · rintro ⟨i, h, rfl⟩
    omega
  · intro h
    exact ⟨(x - lo).toNat, by omega, by omega⟩
theorem rng_asc (lo hi : Int) : (rng lo hi).Pairwise (· < ·) := by
  unfold rng
  refine List.pairwise_map.mpr (List.pairwise_lt_range.imp fun {a b} h => by omega)
theorem ixT_nat {α : Type} (xs : List α) (n : Nat) : ixT xs (n : Int) = Rs.of xs[n]? := by unfold ixT; rw [atI_nn]
end TL
/-! T7: reprs of data. -/
namespace TL
open PySem PySem.Spec PyProof.Rows L2 DL

abbrev sOk (x : Str) : Bool := PyData.strOk x
theorem sOk_app {a b : Str} (h : sOk a = true) (g : sOk b = true) : sOk (a ++ b) = true := by
  unfold sOk PyData.strOk at *
  show (a.cps ++ b.cps).all _ = true
  rw [Array.all_append, h, g]
  rfl
theorem sOk_of (s : String) : sOk (Str.ofString s) = true := by
  unfold sOk PyData.strOk
  rw [Str.ofString_eq_toList]
  simp only [List.all_toArray, List.all_map, List.all_eq_true]
  intro c _
  have h := c.valid
  show decide (c.toNat < 0x110000) = true
  rw [decide_eq_true_eq]
  have hv : c.val.toNat.isValidChar := h
  show c.val.toNat < 0x110000
  rcases hv with h | h
  · omega
  · exact h.2
theorem textFrom_ok : ∀ (ts : List Str) (k : Nat) (acc : Str), (∀ t ∈ ts, sOk t = true) → sOk acc = true → sOk (textFrom k acc ts) = true
  | [], k, acc, _, h => h
  | t :: r, k, acc, ht, h => textFrom_ok r (k + 1) _ (fun x hx => ht x (List.mem_cons_of_mem _ hx)) (sOk_app (sOk_app h (sOk_of _)) (ht t List.mem_cons_self))
theorem join_ok {s : Str} (hs : sOk s = true) : ∀ (ts : List Str), (∀ t ∈ ts, sOk t = true) → sOk (Str.join s ts) = true
  | [], _ => (by decide +kernel : sOk Str.empty = true)
  | [x], h => h x List.mem_cons_self
  | x :: y :: r, h => sOk_app (sOk_app (h x List.mem_cons_self) hs) (join_ok hs (y :: r) fun z hz => h z (List.mem_cons_of_mem _ hz))
theorem digit_lt {n : Nat} : ∀ c ∈ (Nat.toDigits 16 n).map Char.toNat, c < 0x110000 := fun c hc => by
  obtain ⟨d, _, rfl⟩ := List.mem_map.mp hc
  have hv : d.val.toNat.isValidChar := d.valid
  show d.val.toNat < 0x110000
  rcases hv with h | h
  · omega
  · exact h.2
theorem reprChar_ok {q c : Nat} (hq : q < 0x110000) (hc : c < 0x110000) : ∀ x ∈ Builtin.Str.reprChar q c, x < 0x110000 := fun x hx => by
  unfold Builtin.Str.reprChar at hx
  have hex : ∀ w, ∀ y ∈ List.replicate (w - ((Nat.toDigits 16 c).map Char.toNat).length) 48 ++ (Nat.toDigits 16 c).map Char.toNat, y < 0x110000 := fun w y hy => by
    rcases List.mem_append.mp hy with h | h
    · rw [(List.mem_replicate.mp h).2]; decide
    · exact digit_lt y h
  dsimp only at hx
  repeat' split at hx
  all_goals
    simp only [List.mem_cons, List.mem_append, List.not_mem_nil, or_false] at hx
  all_goals first
    | (rcases hx with rfl | rfl <;> omega)
    | (rcases hx with (rfl | rfl) | hx
       · decide
       · decide
       · exact hex _ x (List.mem_append.mpr hx))
    | (subst hx; exact hc)
theorem foldRep_ok {q : Nat} (hq : q < 0x110000) : ∀ (l : List Nat) (acc : Array Nat), (∀ c ∈ l, c < 0x110000) → (∀ c ∈ acc, c < 0x110000) → ∀ c ∈ l.foldl (fun out c => out ++ (Builtin.Str.reprChar q c).toArray) acc, c < 0x110000
  | [], acc, _, h => h
  | x :: r, acc, hl, h => foldRep_ok hq r _ (fun c hc => hl c (List.mem_cons_of_mem _ hc)) fun c hc => by
    rcases Array.mem_append.mp hc with hc | hc
    · exact h c hc
    · exact reprChar_ok hq (hl x List.mem_cons_self) c (by simpa using hc)
theorem reprText_ok {x : Str} (h : sOk x = true) : sOk (reprText x) = true := by
  have hx : ∀ c ∈ x.cps.toList, c < 0x110000 := fun c hc => by
    have := (Array.all_eq_true'.mp h) c (by simpa using hc)
    simpa using this
  have hq : reprQuote x < 0x110000 := by unfold reprQuote; split <;> decide
  unfold sOk PyData.strOk reprText
  rw [Array.all_eq_true']
  intro c hc
  rw [Array.mem_push, ← Array.foldl_toList] at hc
  have key := foldRep_ok hq x.cps.toList #[reprQuote x] hx (fun c hc => by simp at hc; rw [hc]; exact hq)
  rcases hc with hc | rfl
  · simpa using key c hc
  · simpa using hq
mutual
theorem shown_ok : ∀ d : D, d.canLay0 = true → sOk d.shown = true
  | .none, _ => by unfold PyData.shown; exact sOk_of _
  | .bool b, _ => by unfold PyData.shown; split <;> exact sOk_of _
  | .int i, _ => by unfold PyData.shown; exact sOk_of _
  | .str x, h => by
    unfold PyData.shown
    unfold PyData.canLay0 at h
    exact reprText_ok h
  | .list xs, h => by
    rw [cl_lst] at h
    unfold PyData.shown listText
    exact sOk_app (textFrom_ok _ _ _ (shownAll_ok xs h) (sOk_of _)) (sOk_of _)
  | .tuple xs, h => by
    rw [cl_tup] at h
    unfold PyData.shown tupleText
    exact sOk_app (sOk_app (sOk_of _) (join_ok (sOk_of _) _ (shownAll_ok xs h))) (sOk_of _)
  | .dict _, h => by unfold PyData.canLay0 at h; cases h
theorem shownAll_ok : ∀ ds : List D, PyData.canLayAll0 ds = true → ∀ t ∈ PyData.shownAll ds, sOk t = true
  | [], _ => fun t ht => by unfold PyData.shownAll at ht; cases ht
  | d :: ds, h => fun t ht => by
    rw [cl_cons, Bool.and_eq_true] at h
    unfold PyData.shownAll at ht
    rcases List.mem_cons.mp ht with rfl | ht
    · exact shown_ok d h.1
    · exact shownAll_ok ds h.2 t ht
end
/-! ### what may be shown -/
structure RepE {α : Type} (e : α → D) (P : α → Prop) (W : Nat) : Prop where
  sh : ∀ a, P a → (e a).showable = true
  ls : ∀ a, P a → (e a).leavesShort 16 = true
  wt : ∀ a, P a → (e a).weight ≤ W
def smI (i : Int) : Prop := -999999999999 ≤ i ∧ i ≤ 999999999999
section
variable {α β γ : Type} {e : α → D} {f : β → D} {g : γ → D} {P : α → Prop} {Q : β → Prop} {R : γ → Prop} {W U V : Nat}
theorem log_lt {n : Nat} (h : n < 2 ^ 40) : n.log2 < 40 := by
  by_cases h0 : n = 0
  · subst h0; decide
  · exact (Nat.log2_lt h0).mpr h
theorem sm_nat {i : Int} (h : smI i) : i.natAbs < 2 ^ 40 := by
  have : (2 : Nat) ^ 40 = 1099511627776 := by decide
  unfold smI at h
  omega
theorem rpI : RepE eI smI 40 := ⟨fun i h => by
  unfold eI PyData.showable
  have := log_lt (sm_nat h)
  simp only [decide_eq_true_eq]
  omega, fun i h => by
  unfold eI PyData.leavesShort
  have := PyData.shown_int_le2 h.1 h.2
  simp only [decide_eq_true_eq]
  omega, fun i h => by
  unfold eI PyData.weight
  have := log_lt (sm_nat h)
  split <;> omega⟩
theorem rpB : RepE eB (fun _ => True) 0 := ⟨fun b _ => by unfold eB PyData.showable; rfl, fun b _ => by unfold eB PyData.leavesShort; rfl, fun b _ => by unfold eB PyData.weight; omega⟩
theorem rpN : RepE eN (fun _ => True) 0 := ⟨fun b _ => by unfold eN PyData.showable; rfl, fun b _ => by unfold eN PyData.leavesShort; rfl, fun b _ => by unfold eN PyData.weight; omega⟩
theorem rpS {n : Nat} : RepE eS (fun x => sOk x = true ∧ x.length ≤ n) n := ⟨fun x _ => by unfold eS PyData.showable; rfl, fun x h => by
  unfold eS PyData.leavesShort
  rw [List.all_eq_true]
  intro c hc
  have := (Array.all_eq_true'.mp h.1) c (by simpa using hc)
  have : c < 0x110000 := by simpa using this
  rw [decide_eq_true_eq]
  have e : (16 : Nat) ^ 8 = 4294967296 := by decide
  omega, fun x h => by unfold eS PyData.weight; exact h.2⟩
theorem RepE.shA (r : RepE e P W) : ∀ xs : List α, (∀ x ∈ xs, P x) → PyData.showableAll (xs.map e) = true
  | [], _ => by unfold List.map PyData.showableAll; rfl
  | x :: xs, h => by rw [List.map_cons]; unfold PyData.showableAll; rw [r.sh x (h x List.mem_cons_self), r.shA xs fun y hy => h y (List.mem_cons_of_mem _ hy)]; rfl
theorem RepE.lsA (r : RepE e P W) : ∀ xs : List α, (∀ x ∈ xs, P x) → PyData.leavesShortAll 16 (xs.map e) = true
  | [], _ => by unfold List.map PyData.leavesShortAll; rfl
  | x :: xs, h => by rw [List.map_cons]; unfold PyData.leavesShortAll; rw [r.ls x (h x List.mem_cons_self), r.lsA xs fun y hy => h y (List.mem_cons_of_mem _ hy)]; rfl
theorem RepE.wtA (r : RepE e P W) : ∀ xs : List α, (∀ x ∈ xs, P x) → PyData.weightAll (xs.map e) ≤ xs.length * (W + 1)
  | [], _ => by unfold List.map PyData.weightAll; omega
  | x :: xs, h => by
    rw [List.map_cons]
    unfold PyData.weightAll
    have h1 := r.wt x (h x List.mem_cons_self)
    have h2 := r.wtA xs fun y hy => h y (List.mem_cons_of_mem _ hy)
    rw [List.length_cons, Nat.succ_mul]
    omega
theorem rpL (n : Nat) (r : RepE e P W) : RepE (eL e) (fun xs => xs.length ≤ n ∧ ∀ x ∈ xs, P x) (n * (W + 1)) := ⟨fun xs h => by
  unfold eL PyData.showable; exact r.shA xs h.2, fun xs h => by unfold eL PyData.leavesShort; exact r.lsA xs h.2, fun xs h => by
  unfold eL PyData.weight
  exact Nat.le_trans (r.wtA xs h.2) (Nat.mul_le_mul_right _ h.1)⟩
theorem rpT (n : Nat) (r : RepE e P W) : RepE (eT e) (fun xs => xs.length ≤ n ∧ ∀ x ∈ xs, P x) (n * (W + 1)) := ⟨fun xs h => by
  unfold eT PyData.showable; exact r.shA xs h.2, fun xs h => by unfold eT PyData.leavesShort; exact r.lsA xs h.2, fun xs h => by
  unfold eT PyData.weight
  exact Nat.le_trans (r.wtA xs h.2) (Nat.mul_le_mul_right _ h.1)⟩
theorem rpP2 (r : RepE e P W) (s : RepE f Q U) : RepE (eP2 e f) (fun p => P p.1 ∧ Q p.2) (W + U + 2) := ⟨fun p h => by
  unfold eP2 PyData.showable PyData.showableAll PyData.showableAll PyData.showableAll; rw [r.sh _ h.1, s.sh _ h.2]; rfl, fun p h => by
  unfold eP2 PyData.leavesShort PyData.leavesShortAll PyData.leavesShortAll PyData.leavesShortAll; rw [r.ls _ h.1, s.ls _ h.2]; rfl, fun p h => by
  unfold eP2 PyData.weight PyData.weightAll PyData.weightAll PyData.weightAll
  have := r.wt _ h.1
  have := s.wt _ h.2
  omega⟩
theorem rpP3 (r : RepE e P W) (s : RepE f Q U) (t : RepE g R V) : RepE (eP3 e f g) (fun p => P p.1 ∧ Q p.2.1 ∧ R p.2.2) (W + U + V + 3) := ⟨fun p h => by
  unfold eP3 PyData.showable PyData.showableAll PyData.showableAll PyData.showableAll PyData.showableAll; rw [r.sh _ h.1, s.sh _ h.2.1, t.sh _ h.2.2]; rfl, fun p h => by
  unfold eP3 PyData.leavesShort PyData.leavesShortAll PyData.leavesShortAll PyData.leavesShortAll PyData.leavesShortAll; rw [r.ls _ h.1, s.ls _ h.2.1, t.ls _ h.2.2]; rfl, fun p h => by
  unfold eP3 PyData.weight PyData.weightAll PyData.weightAll PyData.weightAll PyData.weightAll
  have := r.wt _ h.1
  have := s.wt _ h.2.1
  have := t.wt _ h.2.2
  omega⟩
end
def isSeq : D → Bool
  | .list _ => true
  | .tuple _ => true
  | _ => false
theorem repr_d {d : D} (hs : isSeq d = true) (cl : d.canLay0 = true) (dp : d.depth ≤ 50) (sh : d.showable = true) (ls : d.leavesShort 16 = true) (wt : d.weight ≤ 900000) : reprT d = .ok d.shown ∧ sOk d.shown = true := by
  have hl : d.shown.length ≤ sizeLine := by
    have := PyData.shown_le 16 (by decide) d ls
    rw [sizeLine_eq]
    omega
  refine ⟨?_, shown_ok d cl⟩
  unfold reprT
  cases d with
  | list xs => unfold reprD; simp only; rw [if_pos ⟨cl, sh, dp, hl⟩]
  | tuple xs => unfold reprD; simp only; rw [if_pos ⟨cl, sh, dp, hl⟩]
  | _ => cases hs
theorem repr_e {α : Type} [DecidableEq α] {e : α → D} {n W : Nat} {P : α → Prop} (q : EqE e n) (hn : n ≤ 50) (r : RepE e P W) (hW : W ≤ 900000) {a : α} (hs : isSeq (e a) = true) (h : P a) : reprT (e a) = .ok (e a).shown ∧ sOk (e a).shown = true :=
  repr_d hs (q.cl a) (Nat.le_trans (q.dp a) hn) (r.sh a h) (r.ls a h) (Nat.le_trans (r.wt a h) hW)
theorem eqS_same {s : Str} (h : sOk s = true) : eqR (eS s) (eS s) = .ok true ∧ neR (eS s) (eS s) = .ok false := by
  have sh : SeqAt.shaped (eS s) = true := sh_of (k := 0) (by unfold eS PyData.canLay0; exact h) (by unfold eS PyData.depth; omega) (by decide)
  have ev : PyData.eqv (eS s) (eS s) = true := by unfold eS PyData.eqv; simp
  unfold eqR neR
  rw [sh, ev]
  exact ⟨rfl, rfl⟩
/-- two reprs of the same -/
theorem ne_repr {x y : Rs D} {d : D} {s : Str} (hx : x = .ok d) (hr : reprT d = .ok s) (hs : sOk s = true) : neR (eS s) (eS s) = .ok false := (eqS_same hs).2
end TL
/-! K01t: the law's own defs, typed. -/
namespace K01
open PySem PySem.Spec PyProof.Rows L2 DL TL
noncomputable def t__law_number (cell0 : Int) : Rs Int :=
  if (decide (cell0 < 0)) = true then .ok (0 - cell0) else
  .ok cell0
theorem ct__law_number (cell0 : Int) : Le ((t__law_number cell0).map eI) (f__law_number [eI cell0]) := by
  unfold t__law_number f__law_number b__law_number
  exact tf_D (e := eI) (sp := [some (.dat (eI cell0))]) (br_v (tv_bool (tv_op (d3 := eB (decide (cell0 < 0))) (tv_var (d := eI cell0) rfl) (tv_c (d := eI 0)) o_lt)) (br_l (lst_v (tv_op (d3 := eI (0 - cell0)) (tv_c (d := eI 0)) (tv_var (d := eI cell0) rfl) o_sub) (tb_rt fun ρ H => ⟨rfl, nn_rt⟩)) (tb_skip (lst_v (tv_var (d := eI cell0) rfl) (tb_rt fun ρ H => rfl)))))

noncomputable def t__law_draws (script0 : (List Int)) : Rs (List Int) :=
  (forR (fun (x5 : Int) (s6 : ((List Int))) =>
    (((t__law_number x5)).bind fun rest7 => if (decide (1000000000000000000 ≤ rest7)) = true then bndTO (forF (fun (x8 : Int) (s9 : ((List Int) × Int)) =>
    (if (decide (s9.2 = 0)) = true then .ok (TO.bk (s9.1, s9.2)) else
  Gd (s9.1.length < sizeLine) (.ok (TO.nx ((s9.1 ++ [(s9.2 % 1000)]), (s9.2 / 1000)))) : Rs (TO ((List Int)) ((List Int) × Int)))) (rng 0 60) (s6, rest7)) fun s10 =>
  .ok s10.1 else Gd (s6.length + [(rest7 % 1000), ((((rest7 * 48271) + 11) % 2147483647) % 1000), (((((((rest7 * 48271) + 11) % 2147483647) * 69621) + rest7) % 2147483629) % 1000)].length ≤ sizeLine) (.ok (s6 ++ [(rest7 % 1000), ((((rest7 * 48271) + 11) % 2147483647) % 1000), (((((((rest7 * 48271) + 11) % 2147483647) * 69621) + rest7) % 2147483629) % 1000)])) : Rs ((List Int)))) script0 ([] : (List Int))).bind fun s11 =>
  .ok s11.reverse
theorem ct__law_draws (script0 : (List Int)) : Le ((t__law_draws script0).map (oL eI)) (f__law_draws [(eL eI) script0]) := by
  unfold t__law_draws f__law_draws b__law_draws
  exact tf_O (e := (oL eI)) (sp := [some (.dat ((eL eI) script0)), none, none, none, none, none, none]) (tb_w (tw_lift (tv_app (c := (oL eD) ([] : (List D))) tv_nil (lst_lit (Nat.le_of_ble_eq_true rfl)))) (tb_setO rfl (tb_v (tv_app (c := List.map eI script0) (tv_var (d := (eL eI) script0) rfl) w_L) (tb_for (mk := fun (s : ((List Int))) => [some (.dat ((eL eI) script0)), some (.own false ((oL eI) s)), none, none, none, none, none]) (s0 := ([] : (List Int))) (e := eI) (.k (.k (.k (.k (.k (.k (.k .nil))))))) mo_nm (fun _ _ => rfl) (fun x5 s6 => (tb_e (e := eI) (te_call_v (e3 := eI) (tv_cons (tv_var (d := eI x5) rfl) tv_nil) (ct__law_number x5)) fun rest7 => (tb_set rfl (bl_v (tv_bool (tv_op (d3 := eB (decide (1000000000000000000 ≤ rest7))) (tv_var (d := eI rest7) rfl) (tv_c (d := eI 1000000000000000000)) o_ge)) (br_tail (tb_last (tb_v (tv_app (tv_cons (tv_c (d := eI 60)) tv_nil) (o_rg1c rfl)) (tb_forF (mk := fun (s : ((List Int) × Int)) => [some (.dat ((eL eI) script0)), some (.own false ((oL eI) s.1)), some (.dat (eI x5)), some (.dat (eI s.2)), none, none, none]) (s0 := (s6, rest7)) (e := eI) (.k (.k (.k (.k (.k (.k (.k .nil))))))) mo_nm (fun _ _ => rfl) (fun x8 s9 => (br_v (tv_bool (tv_op (d3 := eB (decide (s9.2 = 0))) (tv_var (d := eI s9.2) rfl) (tv_c (d := eI 0)) (o_eq qI))) (br_l (tb_bk fun ρ H => ⟨⟨ρ, rfl, Wk.ag (.k (.k (.k (.k (.f trivial (.k (.k .nil))))))) H⟩, nn_bk⟩) (tb_skip (tb_app_w (b := false) (e := eI) (xs := (s9.1 : (List Int))) (a := (s9.2 % 1000)) (tw_cons (tw_lift (tv_op (d3 := eI (s9.2 % 1000)) (tv_app (c := eI s9.2) (tv_cons (tv_var (d := eI s9.2) rfl) tv_nil) o_int) (tv_c (d := eI 1000)) (o_mod (by decide)))) tw_nil) rfl ⟨_, rfl, rfl⟩ (tb_last (tb_v (tv_op (d3 := eI (s9.2 / 1000)) (tv_var (d := eI s9.2) rfl) (tv_c (d := eI 1000)) (o_div (by decide))) (tb_set rfl (tb_nx fun ρ H => ⟨ρ, .inl rfl, Wk.ag (.k (.k (.k (.k (.f trivial (.k (.k .nil))))))) H⟩))))))))) fun s10 => (tb_nx fun ρ H => ⟨ρ, .inl rfl, Wk.ag (.k (.k (.f trivial (.f trivial (.k (.k (.k .nil))))))) H⟩)))) (tb_v (tv_op (d3 := eI (((rest7 * 48271) + 11) % 2147483647)) (tv_app (c := eI ((rest7 * 48271) + 11)) (tv_cons (tv_op (d3 := eI ((rest7 * 48271) + 11)) (tv_op (d3 := eI (rest7 * 48271)) (tv_var (d := eI rest7) rfl) (tv_c (d := eI 48271)) (o_mulR rfl)) (tv_c (d := eI 11)) o_add) tv_nil) o_int) (tv_c (d := eI 2147483647)) (o_mod (by decide))) (tb_set rfl (tb_v (tv_op (d3 := eI ((((((rest7 * 48271) + 11) % 2147483647) * 69621) + rest7) % 2147483629)) (tv_app (c := eI (((((rest7 * 48271) + 11) % 2147483647) * 69621) + rest7)) (tv_cons (tv_op (d3 := eI (((((rest7 * 48271) + 11) % 2147483647) * 69621) + rest7)) (tv_op (d3 := eI ((((rest7 * 48271) + 11) % 2147483647) * 69621)) (tv_var (d := eI (((rest7 * 48271) + 11) % 2147483647)) rfl) (tv_c (d := eI 69621)) (o_mulR rfl)) (tv_var (d := eI rest7) rfl) o_add) tv_nil) o_int) (tv_c (d := eI 2147483629)) (o_mod (by decide))) (tb_set rfl (tb_last (tb_ext_w (b := false) (e := eI) (xs := (s6 : (List Int))) (ys := [(rest7 % 1000), ((((rest7 * 48271) + 11) % 2147483647) % 1000), (((((((rest7 * 48271) + 11) % 2147483647) * 69621) + rest7) % 2147483629) % 1000)]) (tw_cons (tw_lift (tv_frz (tv_app (c := (oL eI) [(rest7 % 1000), ((((rest7 * 48271) + 11) % 2147483647) % 1000), (((((((rest7 * 48271) + 11) % 2147483647) * 69621) + rest7) % 2147483629) % 1000)]) (tv_cons (tv_op (d3 := eI (rest7 % 1000)) (tv_app (c := eI rest7) (tv_cons (tv_var (d := eI rest7) rfl) tv_nil) o_int) (tv_c (d := eI 1000)) (o_mod (by decide))) (tv_cons (tv_op (d3 := eI ((((rest7 * 48271) + 11) % 2147483647) % 1000)) (tv_app (c := eI (((rest7 * 48271) + 11) % 2147483647)) (tv_cons (tv_var (d := eI (((rest7 * 48271) + 11) % 2147483647)) rfl) tv_nil) o_int) (tv_c (d := eI 1000)) (o_mod (by decide))) (tv_cons (tv_op (d3 := eI (((((((rest7 * 48271) + 11) % 2147483647) * 69621) + rest7) % 2147483629) % 1000)) (tv_app (c := eI ((((((rest7 * 48271) + 11) % 2147483647) * 69621) + rest7) % 2147483629)) (tv_cons (tv_var (d := eI ((((((rest7 * 48271) + 11) % 2147483647) * 69621) + rest7) % 2147483629)) rfl) tv_nil) o_int) (tv_c (d := eI 1000)) (o_mod (by decide))) tv_nil))) (lst_lit (Nat.le_of_ble_eq_true rfl))))) tw_nil) rfl ⟨_, rfl, rfl⟩ (tb_nx fun ρ H => ⟨ρ, .inl rfl, Wk.ag (.k (.k (.f trivial (.f trivial (.k (.f trivial (.f trivial .nil))))))) H⟩)))))))))))) fun s11 => (tb_rev (e := eI) (xs := s11) rfl (lst_w (tw_give (o := (oL eI) s11.reverse) rfl) (tb_ro fun ρ H => rfl)))))))

noncomputable def t__law_next (draws0 : (List Int)) : Rs (Int × (List Int)) :=
  if (!draws0.isEmpty) = true then bnd2 (popT draws0) fun r1 s2 => .ok (r1, s2) else
  .ok (0, draws0)
theorem ct__law_next (draws0 : (List Int)) : Le ((t__law_next draws0).map fun r => (eI r.1, (oL eI) r.2)) (f__law_next ((oL eI) draws0) []) := by
  unfold t__law_next f__law_next b__law_next
  exact tf_MD (o := (oL eI) draws0) (eo := (oL eI)) (e := eI) (sp := [some (.own true ((oL eI) draws0))]) (br_v (tv_brw (o := (oL eI) draws0) rfl (tv_tru (tv_var (d := (eL eI) draws0) rfl) t_L) rfl) (br_l (lst_c (mk := fun s => [some (.own true ((oL eI) s))]) (s := draws0) (e := eI) (tm_mth (b := true) (e3 := eI) (eo := (oL eI)) tl_noargs o_pop) fun r1 s2 => (tb_rt fun ρ H => ⟨⟨rfl, H.get rfl⟩, nn_rt⟩)) (tb_skip (lst_v (tv_c (d := eI 0)) (tb_rt fun ρ H => ⟨rfl, H.get rfl⟩)))))

noncomputable def t__law_more (draws0 : (List Int)) (many0 : Int) : Rs ((List Int) × (List Int)) :=
  bnd2 (mapS (fun a7 => (a7 + 1)) (bnd2 (mapS (fun a1 => (1000 * a1)) ((t__law_next draws0))) fun a3 s2 => bnd2 ((t__law_next s2)) fun a4 s5 => withS s5 (.ok (a3 + a4)))) fun seed8 s9 => (Gd (rgOk 0 many0 = true) (.ok (rng 0 many0))).bind fun xs10 => (forR (fun (x11 : Int) (s12 : (Int × (List Int))) =>
    (Gd (s12.2.length < sizeLine) (.ok ((((s12.1 * 48271) + 12345) % 2147483647), (s12.2 ++ [(((((s12.1 * 48271) + 12345) % 2147483647) / 7) % 1000)]))) : Rs (Int × (List Int)))) xs10 (seed8, ([] : (List Int)))).bind fun s13 =>
  (Gd (s13.2.length + s9.length ≤ sizeLine) (.ok (s13.2 ++ s9))).bind fun r14 => .ok (r14, s9)
theorem ct__law_more (draws0 : (List Int)) (many0 : Int) : Le ((t__law_more draws0 many0).map fun r => ((oL eI) r.1, (oL eI) r.2)) (f__law_more ((oL eI) draws0) [eI many0]) := by
  unfold t__law_more f__law_more b__law_more
  exact tf_MO (o := (oL eI) draws0) (eo := (oL eI)) (e := (oL eI)) (sp := [some (.own true ((oL eI) draws0)), some (.dat (eI many0)), none, none, none]) (tb_c (mk := fun s => [some (.own true ((oL eI) s)), some (.dat (eI many0)), none, none, none]) (s := draws0) (e := eI) (tm_op_v (e3 := eI) (v := fun a7 => (a7 + 1)) (tm_op (e3 := eI) (tm_op_w (e3 := eI) (v := fun a1 => (1000 * a1)) (tv_c (d := eI 1000)) (tm_io (b := true) (e3 := eI) (eo := (oL eI)) tl_nil (ct__law_next draws0)) fun _ => (o_mulL rfl)) (fun s2 => (tm_io (b := true) (e3 := eI) (eo := (oL eI)) tl_nil (ct__law_next s2))) fun _ _ => (ok_of o_add)) (fun s6 => (tv_c (d := eI 1))) fun _ => o_add) fun seed8 s9 => (tb_set rfl (tb_w (tw_lift (tv_app (c := (oL eD) ([] : (List D))) tv_nil (lst_lit (Nat.le_of_ble_eq_true rfl)))) (tb_setO rfl (tb_e (e := fun xs => List.map eI xs) (te_app_v (e3 := fun xs => List.map eI xs) (tv_cons (tv_var (d := eI many0) rfl) tv_nil) o_rg1) fun xs10 => (tb_for (mk := fun (s : (Int × (List Int))) => [some (.own true ((oL eI) s9)), some (.dat (eI many0)), some (.dat (eI s.1)), some (.own false ((oL eI) s.2)), none]) (s0 := (seed8, ([] : (List Int)))) (e := eI) (.k (.k (.k (.k (.k .nil))))) mo_nm (fun _ _ => rfl) (fun x11 s12 => (tb_v (tv_op (d3 := eI (((s12.1 * 48271) + 12345) % 2147483647)) (tv_app (c := eI ((s12.1 * 48271) + 12345)) (tv_cons (tv_op (d3 := eI ((s12.1 * 48271) + 12345)) (tv_op (d3 := eI (s12.1 * 48271)) (tv_var (d := eI s12.1) rfl) (tv_c (d := eI 48271)) (o_mulR rfl)) (tv_c (d := eI 12345)) o_add) tv_nil) o_int) (tv_c (d := eI 2147483647)) (o_mod (by decide))) (tb_set rfl (tb_last (tb_app_w (b := false) (e := eI) (xs := (s12.2 : (List Int))) (a := (((((s12.1 * 48271) + 12345) % 2147483647) / 7) % 1000)) (tw_cons (tw_lift (tv_op (d3 := eI (((((s12.1 * 48271) + 12345) % 2147483647) / 7) % 1000)) (tv_app (c := eI ((((s12.1 * 48271) + 12345) % 2147483647) / 7)) (tv_cons (tv_op (d3 := eI ((((s12.1 * 48271) + 12345) % 2147483647) / 7)) (tv_var (d := eI (((s12.1 * 48271) + 12345) % 2147483647)) rfl) (tv_c (d := eI 7)) (o_div (by decide))) tv_nil) o_int) (tv_c (d := eI 1000)) (o_mod (by decide)))) tw_nil) rfl ⟨_, rfl, rfl⟩ (tb_nx fun ρ H => ⟨ρ, .inl rfl, Wk.ag (.k (.k (.k (.k (.f trivial .nil))))) H⟩)))))) fun s13 => (lst_f (e := (oL eI)) (tf_lift (te_brw (o := (oL eI) s13.2) rfl (te_brw (o := (oL eI) s9) rfl (te_opO_vv (e3 := (oL eI)) (tv_var (d := (eL eI) s13.2) rfl) (tv_var (d := (eL eI) s9) rfl) o_catO) (immO_L imI)) (immO_L imI))) fun r14 => (tb_ro fun ρ H => ⟨rfl, H.get rfl⟩))))))))

noncomputable def t_is_packable (book0 : ((List (List Int)) × (List (Int × Int × (List Int))) × (List (Int × Int × (List Int))))) (stations0 : (List Int)) : Rs Bool := relF eB (f_is_packable [(eP3 (eT (eT eI)) (eT (eP3 eI eI (eT eI))) (eT (eP3 eI eI (eT eI)))) book0, (eT eI) stations0])
theorem ct_is_packable (book0 : ((List (List Int)) × (List (Int × Int × (List Int))) × (List (Int × Int × (List Int))))) (stations0 : (List Int)) : Le ((t_is_packable book0 stations0).map eB) (f_is_packable [(eP3 (eT (eT eI)) (eT (eP3 eI eI (eT eI))) (eT (eP3 eI eI (eT eI)))) book0, (eT eI) stations0]) := ct_rel

noncomputable def t_packings (book0 : ((List (List Int)) × (List (Int × Int × (List Int))) × (List (Int × Int × (List Int))))) (stations0 : (List Int)) : Rs (List (List Int)) := relF (eL (eT eI)) (f_packings [(eP3 (eT (eT eI)) (eT (eP3 eI eI (eT eI))) (eT (eP3 eI eI (eT eI)))) book0, (eT eI) stations0])
theorem ct_packings (book0 : ((List (List Int)) × (List (Int × Int × (List Int))) × (List (Int × Int × (List Int))))) (stations0 : (List Int)) : Le ((t_packings book0 stations0).map (eL (eT eI))) (f_packings [(eP3 (eT (eT eI)) (eT (eP3 eI eI (eT eI))) (eT (eP3 eI eI (eT eI)))) book0, (eT eI) stations0]) := ct_rel

noncomputable def t__law_list (draws0 : (List Int)) (top0 : Int) : Rs ((List Int) × (List Int)) :=
  bnd2 (mapS (fun a10 => a10) ((Gd (rgOk 0 (top0 + 1) = true) (.ok (rng 0 (top0 + 1)))).bind fun xs8 => compTS (fun x1 s2 => tstS (mapS (fun a6 => (decide (0 < a6))) (mapS (fun a4 => (a4 % 3)) ((t__law_next s2)))) fun s7 => .ok (x1, s7)) xs8 draws0)) fun found11 s12 => bnd2 ((if (!found11.isEmpty) = true then .ok (found11, s12) else mapS (fun a16 => [a16]) (bnd2 ((t__law_next s12)) fun a14 s => withS s (Gd (0 < (top0 + 1)) (.ok (a14 % (top0 + 1))))))) fun r17 s18 => .ok (r17, s18)
theorem ct__law_list (draws0 : (List Int)) (top0 : Int) : Le ((t__law_list draws0 top0).map fun r => ((eT eI) r.1, (oL eI) r.2)) (f__law_list ((oL eI) draws0) [eI top0]) := by
  unfold t__law_list f__law_list b__law_list
  exact tf_MD (o := (oL eI) draws0) (eo := (oL eI)) (e := (eT eI)) (sp := [some (.own true ((oL eI) draws0)), some (.dat (eI top0)), none, none]) (tb_c (mk := fun s => [some (.own true ((oL eI) s)), some (.dat (eI top0)), none, none]) (s := draws0) (e := (eT eI)) (tm_app (e3 := (eT eI)) (v := fun a10 => a10) (tm_cons_h (e1 := (eL eI)) (tm_frzM (tm_lc_E (e1 := eI) (te_app_v (e3 := fun xs => List.map eI xs) (tv_cons (tv_op (d3 := eI (top0 + 1)) (tv_var (d := eI top0) rfl) (tv_c (d := eI 1)) o_add) tv_nil) o_rg1) fun xs8 => (tm_lc (e1 := eI) (e2 := eI) (mkx := fun x1 s => [some (.own true ((oL eI) s)), some (.dat (eI top0)), none, some (.dat (eI x1))]) (fun _ _ => rfl) mo_nm (fun _ _ => rfl) (fun _ _ => rfl) rfl (fun x1 s2 => (tm_bool (tm_op_v (e3 := eB) (v := fun a6 => (decide (0 < a6))) (tm_op_v (e3 := eI) (v := fun a4 => (a4 % 3)) (tm_int (tm_io (b := true) (e3 := eI) (eo := (oL eI)) tl_nil (ct__law_next s2))) (fun s3 => (tv_c (d := eI 3))) fun _ => (o_mod (by decide))) (fun s5 => (tv_c (d := eI 0))) fun _ => o_gt))) fun x1 s7 => (tm_lift (e := eI) (a := x1) (tv_var (d := eI x1) rfl))))) fun s9 => tl_nil) fun _ => o_tupleL) fun found11 s12 => (tb_set rfl (lst_c (mk := fun s => [some (.own true ((oL eI) s)), some (.dat (eI top0)), some (.dat ((eT eI) found11)), none]) (s := s12) (e := (eT eI)) (tm_if_v (tv_tru (tv_var (d := (eT eI) found11) rfl) t_T) (tm_lift (e := (eT eI)) (a := found11) (tv_var (d := (eT eI) found11) rfl)) (tm_app (e3 := (eT eI)) (v := fun a16 => [a16]) (tm_cons_h (e1 := eI) (tm_op_vp (e3 := eI) (tm_int (tm_io (b := true) (e3 := eI) (eo := (oL eI)) tl_nil (ct__law_next s12))) (fun s13 => (tv_op (d3 := eI (top0 + 1)) (tv_var (d := eI top0) rfl) (tv_c (d := eI 1)) o_add)) fun _ => o_modG) fun s15 => tl_nil) fun _ => tup_lit (Nat.le_of_ble_eq_true rfl))) fun r17 s18 => (tb_rt fun ρ H => ⟨rfl, H.get rfl⟩))))

noncomputable def t__law_distances (draws0 : (List Int)) (top0 : Int) : Rs ((List Int) × (List Int)) :=
  bnd2 (mapS (fun a2 => (a2 % 3)) ((t__law_next draws0))) fun kind3 s4 => if (decide (kind3 = 0)) = true then .ok ([0], s4) else
  bnd2 ((if (decide (kind3 = 1)) = true then .ok ([0, 1], s4) else (t__law_list s4 top0))) fun r5 s6 => .ok (r5, s6)
theorem ct__law_distances (draws0 : (List Int)) (top0 : Int) : Le ((t__law_distances draws0 top0).map fun r => ((eT eI) r.1, (oL eI) r.2)) (f__law_distances ((oL eI) draws0) [eI top0]) := by
  unfold t__law_distances f__law_distances b__law_distances
  exact tf_MD (o := (oL eI) draws0) (eo := (oL eI)) (e := (eT eI)) (sp := [some (.own true ((oL eI) draws0)), some (.dat (eI top0)), none]) (tb_c (mk := fun s => [some (.own true ((oL eI) s)), some (.dat (eI top0)), none]) (s := draws0) (e := eI) (tm_op_v (e3 := eI) (v := fun a2 => (a2 % 3)) (tm_int (tm_io (b := true) (e3 := eI) (eo := (oL eI)) tl_nil (ct__law_next draws0))) (fun s1 => (tv_c (d := eI 3))) fun _ => (o_mod (by decide))) fun kind3 s4 => (tb_set rfl (br_v (tv_bool (tv_op (d3 := eB (decide (kind3 = 0))) (tv_var (d := eI kind3) rfl) (tv_c (d := eI 0)) (o_eq qI))) (br_l (lst_v (tv_app (c := (eT eI) [0]) (tv_cons (tv_c (d := eI 0)) tv_nil) (tup_lit (Nat.le_of_ble_eq_true rfl))) (tb_rt fun ρ H => ⟨⟨rfl, H.get rfl⟩, nn_rt⟩)) (tb_skip (lst_c (mk := fun s => [some (.own true ((oL eI) s)), some (.dat (eI top0)), some (.dat (eI kind3))]) (s := s4) (e := (eT eI)) (tm_if_v (tv_bool (tv_op (d3 := eB (decide (kind3 = 1))) (tv_var (d := eI kind3) rfl) (tv_c (d := eI 1)) (o_eq qI))) (tm_lift (e := (eT eI)) (a := [0, 1]) (tv_app (c := (eT eI) [0, 1]) (tv_cons (tv_c (d := eI 0)) (tv_cons (tv_c (d := eI 1)) tv_nil)) (tup_lit (Nat.le_of_ble_eq_true rfl)))) (tm_io (b := true) (e3 := (eT eI)) (eo := (oL eI)) (tl_cons (tv_var (d := eI top0) rfl) tl_nil) (ct__law_list s4 top0))) fun r5 s6 => (tb_rt fun ρ H => ⟨rfl, H.get rfl⟩)))))))

noncomputable def t__law_book (draws0 : (List Int)) (most0 : Int) : Rs (((List (List Int)) × (List (Int × Int × (List Int))) × (List (Int × Int × (List Int)))) × (List Int)) :=
  bnd2 (mapS (fun a3 => (1 + a3)) (bnd2 ((t__law_next draws0)) fun a2 s => withS s (Gd (0 < most0) (.ok (a2 % most0))))) fun many4 s5 => bnd2 (mapS (fun a8 => (1 + a8)) (mapS (fun a7 => (a7 % 3)) ((t__law_next s5)))) fun top9 s10 => bnd2 (mapS (fun a14 => (decide (a14 = 0))) (mapS (fun a12 => (a12 % 4)) ((t__law_next s10)))) fun same15 s16 => bnd2 ((Gd (rgOk 0 many4 = true) (.ok (rng 0 many4))).bind fun xs19 => mapTS (fun x17 s18 => (if same15 = true then withS s18 (Gd (((top9 + 1)).natAbs ≤ 16777216) (.ok (rng 0 (top9 + 1)))) else (t__law_list s18 top9))) xs19 s16) fun lists20 s21 => (Gd (rgOk 0 many4 = true) (.ok (rng 0 many4))).bind fun xs22 => (forR (fun (x47 : Int) (s48 : ((List Int) × (List (Int × Int × (List Int))))) =>
    ((Gd (rgOk (x47 + 1) many4 = true) (.ok (rng (x47 + 1) many4))).bind fun xs49 => (forR (fun (x60 : Int) (s61 : ((List Int) × (List (Int × Int × (List Int))))) =>
    (bnd2 (mapS (fun a65 => (decide (a65 = 0))) (mapS (fun a63 => (a63 % 2)) ((t__law_next s61.1)))) fun c66 s67 => if c66 = true then bnd2 (mapS (fun a69 => (x47, x60, a69)) ((if same15 = true then .ok ([0], s67) else (t__law_distances s67 top9)))) fun clashes70 s71 => Gd (s61.2.length < sizeLine) (.ok (s71, (s61.2 ++ [clashes70]))) else .ok (s67, s61.2) : Rs ((List Int) × (List (Int × Int × (List Int)))))) xs49 (s48.1, s48.2)).bind fun s72 =>
  .ok (s72.1, s72.2) : Rs ((List Int) × (List (Int × Int × (List Int)))))) xs22 (s21, ([] : (List (Int × Int × (List Int)))))).bind fun s73 =>
  (Gd (rgOk 0 many4 = true) (.ok (rng 0 many4))).bind fun xs74 => (forR (fun (x98 : Int) (s99 : ((List Int) × (List (Int × Int × (List Int))))) =>
    (bnd2 (bnd2 (.ok ((!same15), s99.1)) fun b105 s100 => if b105 = true then mapS (fun a104 => (decide (a104 = 0))) (mapS (fun a102 => (a102 % 3)) ((t__law_next s100))) else .ok (false, s100)) fun c106 s107 => if c106 = true then bnd2 (mapS (fun a114 => a114) ((Gd (rgOk 0 many4 = true) (.ok (rng 0 many4))).bind fun xs112 => mapTS (fun x108 s109 => (if (decide (x108 = x98)) = true then .ok (0, s109) else mapS (fun a111 => (a111 % 5)) ((t__law_next s109)))) xs112 s107)) fun gains115 s116 => bnd2 (mapS (fun a120 => (x98, a120, gains115)) (mapS (fun a118 => (a118 % 6)) ((t__law_next s116)))) fun sums121 s122 => Gd (s99.2.length < sizeLine) (.ok (s122, (s99.2 ++ [sums121]))) else .ok (s107, s99.2) : Rs ((List Int) × (List (Int × Int × (List Int)))))) xs74 (s73.1, ([] : (List (Int × Int × (List Int)))))).bind fun s123 =>
  .ok ((lists20, s73.2, s123.2), s123.1)
theorem ct__law_book (draws0 : (List Int)) (most0 : Int) : Le ((t__law_book draws0 most0).map fun r => ((eP3 (eT (eT eI)) (eT (eP3 eI eI (eT eI))) (eT (eP3 eI eI (eT eI)))) r.1, (oL eI) r.2)) (f__law_book ((oL eI) draws0) [eI most0]) := by
  unfold t__law_book f__law_book b__law_book
  exact tf_MD (o := (oL eI) draws0) (eo := (oL eI)) (e := (eP3 (eT (eT eI)) (eT (eP3 eI eI (eT eI))) (eT (eP3 eI eI (eT eI))))) (sp := [some (.own true ((oL eI) draws0)), some (.dat (eI most0)), none, none, none, none, none, none, none, none, none, none]) (tb_c (mk := fun s => [some (.own true ((oL eI) s)), some (.dat (eI most0)), none, none, none, none, none, none, none, none, none, none]) (s := draws0) (e := eI) (tm_op_w (e3 := eI) (v := fun a3 => (1 + a3)) (tv_c (d := eI 1)) (tm_op_vp (e3 := eI) (tm_int (tm_io (b := true) (e3 := eI) (eo := (oL eI)) tl_nil (ct__law_next draws0))) (fun s1 => (tv_var (d := eI most0) rfl)) fun _ => o_modG) fun _ => o_add) fun many4 s5 => (tb_set rfl (tb_c (mk := fun s => [some (.own true ((oL eI) s)), some (.dat (eI most0)), some (.dat (eI many4)), none, none, none, none, none, none, none, none, none]) (s := s5) (e := eI) (tm_op_w (e3 := eI) (v := fun a8 => (1 + a8)) (tv_c (d := eI 1)) (tm_op_v (e3 := eI) (v := fun a7 => (a7 % 3)) (tm_int (tm_io (b := true) (e3 := eI) (eo := (oL eI)) tl_nil (ct__law_next s5))) (fun s6 => (tv_c (d := eI 3))) fun _ => (o_mod (by decide))) fun _ => o_add) fun top9 s10 => (tb_set rfl (tb_c (mk := fun s => [some (.own true ((oL eI) s)), some (.dat (eI most0)), some (.dat (eI many4)), some (.dat (eI top9)), none, none, none, none, none, none, none, none]) (s := s10) (e := eB) (tm_op_v (e3 := eB) (v := fun a14 => (decide (a14 = 0))) (tm_op_v (e3 := eI) (v := fun a12 => (a12 % 4)) (tm_int (tm_io (b := true) (e3 := eI) (eo := (oL eI)) tl_nil (ct__law_next s10))) (fun s11 => (tv_c (d := eI 4))) fun _ => (o_mod (by decide))) (fun s13 => (tv_c (d := eI 0))) fun _ => (o_eq qI)) fun same15 s16 => (tb_set rfl (tb_c (mk := fun s => [some (.own true ((oL eI) s)), some (.dat (eI most0)), some (.dat (eI many4)), some (.dat (eI top9)), some (.dat (eB same15)), none, none, none, none, none, none, none]) (s := s16) (e := (oL (eT eI))) (tm_lc_E (e1 := eI) (te_app_v (e3 := fun xs => List.map eI xs) (tv_cons (tv_var (d := eI many4) rfl) tv_nil) o_rg1) fun xs19 => (tm_lc_t (e1 := eI) (e2 := (eT eI)) (mkx := fun x17 s => [some (.own true ((oL eI) s)), some (.dat (eI most0)), some (.dat (eI many4)), some (.dat (eI top9)), some (.dat (eB same15)), none, none, none, none, none, some (.dat (eI x17)), none]) (fun _ _ => rfl) mo_nm (fun _ _ => rfl) (fun _ _ => rfl) rfl fun x17 s18 => (tm_if_v (tv_tru (tv_var (d := eB same15) rfl) t_B) (tm_liftE (te_rgT (tv_op (d3 := eI (top9 + 1)) (tv_var (d := eI top9) rfl) (tv_c (d := eI 1)) o_add))) (tm_io (b := true) (e3 := (eT eI)) (eo := (oL eI)) (tl_cons (tv_var (d := eI top9) rfl) tl_nil) (ct__law_list s18 top9))))) fun lists20 s21 => (tb_set rfl (tb_w (tw_lift (tv_app (c := (oL eD) ([] : (List D))) tv_nil (lst_lit (Nat.le_of_ble_eq_true rfl)))) (tb_setO rfl (tb_e (e := fun xs => List.map eI xs) (te_app_v (e3 := fun xs => List.map eI xs) (tv_cons (tv_var (d := eI many4) rfl) tv_nil) o_rg1) fun xs22 => (tb_for (mk := fun (s : ((List Int) × (List (Int × Int × (List Int))))) => [some (.own true ((oL eI) s.1)), some (.dat (eI most0)), some (.dat (eI many4)), some (.dat (eI top9)), some (.dat (eB same15)), some (.dat ((eL (eT eI)) lists20)), some (.own false ((oL (eP3 eI eI (eT eI))) s.2)), none, none, none, none, none]) (s0 := (s21, ([] : (List (Int × Int × (List Int)))))) (e := eI) (.k (.k (.k (.k (.k (.k (.k (.k (.k (.k (.k (.k .nil)))))))))))) mo_nm (fun _ _ => rfl) (fun x47 s48 => (tb_last (tb_e (e := fun xs => List.map eI xs) (te_app_v (e3 := fun xs => List.map eI xs) (tv_cons (tv_op (d3 := eI (x47 + 1)) (tv_var (d := eI x47) rfl) (tv_c (d := eI 1)) o_add) (tv_cons (tv_var (d := eI many4) rfl) tv_nil)) o_rg2) fun xs49 => (tb_for (mk := fun (s : ((List Int) × (List (Int × Int × (List Int))))) => [some (.own true ((oL eI) s.1)), some (.dat (eI most0)), some (.dat (eI many4)), some (.dat (eI top9)), some (.dat (eB same15)), some (.dat ((eL (eT eI)) lists20)), some (.own false ((oL (eP3 eI eI (eT eI))) s.2)), some (.dat (eI x47)), none, none, none, none]) (s0 := (s48.1, s48.2)) (e := eI) (.k (.k (.k (.k (.k (.k (.k (.k (.k (.k (.k (.k .nil)))))))))))) mo_nm (fun _ _ => rfl) (fun x60 s61 => (bl_c (mk := fun s => [some (.own true ((oL eI) s)), some (.dat (eI most0)), some (.dat (eI many4)), some (.dat (eI top9)), some (.dat (eB same15)), some (.dat ((eL (eT eI)) lists20)), some (.own false ((oL (eP3 eI eI (eT eI))) s61.2)), some (.dat (eI x47)), none, some (.dat (eI x60)), none, none]) (s := s61.1) (tm_bool (tm_op_v (e3 := eB) (v := fun a65 => (decide (a65 = 0))) (tm_op_v (e3 := eI) (v := fun a63 => (a63 % 2)) (tm_int (tm_io (b := true) (e3 := eI) (eo := (oL eI)) tl_nil (ct__law_next s61.1))) (fun s62 => (tv_c (d := eI 2))) fun _ => (o_mod (by decide))) (fun s64 => (tv_c (d := eI 0))) fun _ => (o_eq qI))) fun c66 s67 => (br_tail (tb_last (tb_app_c (mk := fun s => [some (.own true ((oL eI) s)), some (.dat (eI most0)), some (.dat (eI many4)), some (.dat (eI top9)), some (.dat (eB same15)), some (.dat ((eL (eT eI)) lists20)), some (.own false ((oL (eP3 eI eI (eT eI))) s61.2)), some (.dat (eI x47)), none, some (.dat (eI x60)), none, none]) (s := s67) (b := false) (e := (eP3 eI eI (eT eI))) (xs := (s61.2 : (List (Int × Int × (List Int))))) (tm_cons_h (e1 := (eP3 eI eI (eT eI))) (tm_app (e3 := (eP3 eI eI (eT eI))) (v := fun a69 => (x47, x60, a69)) (tm_cons_t (tv_var (d := eI x47) rfl) (tm_cons_t (tv_var (d := eI x60) rfl) (tm_cons_h (e1 := (eT eI)) (tm_if_v (tv_tru (tv_var (d := eB same15) rfl) t_B) (tm_lift (e := (eT eI)) (a := [0]) (tv_app (c := (eT eI) [0]) (tv_cons (tv_c (d := eI 0)) tv_nil) (tup_lit (Nat.le_of_ble_eq_true rfl)))) (tm_io (b := true) (e3 := (eT eI)) (eo := (oL eI)) (tl_cons (tv_var (d := eI top9) rfl) tl_nil) (ct__law_distances s67 top9))) fun s68 => tl_nil))) fun _ => tup_lit (Nat.le_of_ble_eq_true rfl)) fun _ => tl_nil) (fun _ => rfl) fun clashes70 s71 => (tb_nx fun ρ H => ⟨ρ, .inl rfl, Wk.ag (.k (.k (.k (.k (.k (.k (.k (.k (.k (.f trivial (.k (.k .nil)))))))))))) H⟩))) (tb_nx fun ρ H => ⟨ρ, .inl rfl, Wk.ag (.k (.k (.k (.k (.k (.k (.k (.k (.k (.f trivial (.k (.k .nil)))))))))))) H⟩)))) fun s72 => (tb_nx fun ρ H => ⟨ρ, .inl rfl, Wk.ag (.k (.k (.k (.k (.k (.k (.k (.f trivial (.k (.k (.k (.k .nil)))))))))))) H⟩))))) fun s73 => (tb_w (tw_lift (tv_app (c := (oL eD) ([] : (List D))) tv_nil (lst_lit (Nat.le_of_ble_eq_true rfl)))) (tb_setO rfl (tb_e (e := fun xs => List.map eI xs) (te_app_v (e3 := fun xs => List.map eI xs) (tv_cons (tv_var (d := eI many4) rfl) tv_nil) o_rg1) fun xs74 => (tb_for (mk := fun (s : ((List Int) × (List (Int × Int × (List Int))))) => [some (.own true ((oL eI) s.1)), some (.dat (eI most0)), some (.dat (eI many4)), some (.dat (eI top9)), some (.dat (eB same15)), some (.dat ((eL (eT eI)) lists20)), some (.own false ((oL (eP3 eI eI (eT eI))) s73.2)), none, some (.own false ((oL (eP3 eI eI (eT eI))) s.2)), none, none, none]) (s0 := (s73.1, ([] : (List (Int × Int × (List Int)))))) (e := eI) (.k (.k (.k (.k (.k (.k (.k (.k (.k (.k (.k (.k .nil)))))))))))) mo_nm (fun _ _ => rfl) (fun x98 s99 => (bl_c (mk := fun s => [some (.own true ((oL eI) s)), some (.dat (eI most0)), some (.dat (eI many4)), some (.dat (eI top9)), some (.dat (eB same15)), some (.dat ((eL (eT eI)) lists20)), some (.own false ((oL (eP3 eI eI (eT eI))) s73.2)), none, some (.own false ((oL (eP3 eI eI (eT eI))) s99.2)), some (.dat (eI x98)), none, none]) (s := s99.1) (tm_and (tm_lift (e := id) (a := (!same15)) (tv_not (tv_tru (tv_var (d := eB same15) rfl) t_B))) fun s100 => (tm_bool (tm_op_v (e3 := eB) (v := fun a104 => (decide (a104 = 0))) (tm_op_v (e3 := eI) (v := fun a102 => (a102 % 3)) (tm_int (tm_io (b := true) (e3 := eI) (eo := (oL eI)) tl_nil (ct__law_next s100))) (fun s101 => (tv_c (d := eI 3))) fun _ => (o_mod (by decide))) (fun s103 => (tv_c (d := eI 0))) fun _ => (o_eq qI)))) fun c106 s107 => (br_tail (tb_c (mk := fun s => [some (.own true ((oL eI) s)), some (.dat (eI most0)), some (.dat (eI many4)), some (.dat (eI top9)), some (.dat (eB same15)), some (.dat ((eL (eT eI)) lists20)), some (.own false ((oL (eP3 eI eI (eT eI))) s73.2)), none, some (.own false ((oL (eP3 eI eI (eT eI))) s99.2)), some (.dat (eI x98)), none, none]) (s := s107) (e := (eT eI)) (tm_app (e3 := (eT eI)) (v := fun a114 => a114) (tm_cons_h (e1 := (eL eI)) (tm_frzM (tm_lc_E (e1 := eI) (te_app_v (e3 := fun xs => List.map eI xs) (tv_cons (tv_var (d := eI many4) rfl) tv_nil) o_rg1) fun xs112 => (tm_lc_t (e1 := eI) (e2 := eI) (mkx := fun x108 s => [some (.own true ((oL eI) s)), some (.dat (eI most0)), some (.dat (eI many4)), some (.dat (eI top9)), some (.dat (eB same15)), some (.dat ((eL (eT eI)) lists20)), some (.own false ((oL (eP3 eI eI (eT eI))) s73.2)), some (.dat (eI x108)), some (.own false ((oL (eP3 eI eI (eT eI))) s99.2)), some (.dat (eI x98)), none, none]) (fun _ _ => rfl) mo_nm (fun _ _ => rfl) (fun _ _ => rfl) rfl fun x108 s109 => (tm_if_v (tv_bool (tv_op (d3 := eB (decide (x108 = x98))) (tv_var (d := eI x108) rfl) (tv_var (d := eI x98) rfl) (o_eq qI))) (tm_lift (e := eI) (a := 0) (tv_c (d := eI 0))) (tm_op_v (e3 := eI) (v := fun a111 => (a111 % 5)) (tm_int (tm_io (b := true) (e3 := eI) (eo := (oL eI)) tl_nil (ct__law_next s109))) (fun s110 => (tv_c (d := eI 5))) fun _ => (o_mod (by decide))))))) fun s113 => tl_nil) fun _ => o_tupleL) fun gains115 s116 => (tb_set rfl (tb_last (tb_app_c (mk := fun s => [some (.own true ((oL eI) s)), some (.dat (eI most0)), some (.dat (eI many4)), some (.dat (eI top9)), some (.dat (eB same15)), some (.dat ((eL (eT eI)) lists20)), some (.own false ((oL (eP3 eI eI (eT eI))) s73.2)), none, some (.own false ((oL (eP3 eI eI (eT eI))) s99.2)), some (.dat (eI x98)), none, some (.dat ((eT eI) gains115))]) (s := s116) (b := false) (e := (eP3 eI eI (eT eI))) (xs := (s99.2 : (List (Int × Int × (List Int))))) (tm_cons_h (e1 := (eP3 eI eI (eT eI))) (tm_app (e3 := (eP3 eI eI (eT eI))) (v := fun a120 => (x98, a120, gains115)) (tm_cons_t (tv_var (d := eI x98) rfl) (tm_cons_h (e1 := eI) (tm_op_v (e3 := eI) (v := fun a118 => (a118 % 6)) (tm_int (tm_io (b := true) (e3 := eI) (eo := (oL eI)) tl_nil (ct__law_next s116))) (fun s117 => (tv_c (d := eI 6))) fun _ => (o_mod (by decide))) fun s119 => (tl_cons (tv_var (d := (eT eI) gains115) rfl) tl_nil))) fun _ => tup_lit (Nat.le_of_ble_eq_true rfl)) fun _ => tl_nil) (fun _ => rfl) fun sums121 s122 => (tb_nx fun ρ H => ⟨ρ, .inl rfl, Wk.ag (.k (.k (.k (.k (.k (.k (.k (.k (.k (.f trivial (.k (.f trivial .nil)))))))))))) H⟩))))) (tb_nx fun ρ H => ⟨ρ, .inl rfl, Wk.ag (.k (.k (.k (.k (.k (.k (.k (.k (.k (.f trivial (.k (.k .nil)))))))))))) H⟩)))) fun s123 => (lst_w (tw_app (c := (eP3 (eT (eT eI)) (eT (eP3 eI eI (eT eI))) (eT (eP3 eI eI (eT eI)))) (lists20, s73.2, s123.2)) (tw_cons (tw_lift (tv_app (c := (eT (eT eI)) lists20) (tv_cons (tv_var (d := (eL (eT eI)) lists20) rfl) tv_nil) o_tupleL)) (tw_cons (tw_app (c := (eT (eP3 eI eI (eT eI))) s73.2) (tw_cons (tw_frz (o := (oL (eP3 eI eI (eT eI))) s73.2) rfl) tw_nil) o_tupleL) (tw_cons (tw_app (c := (eT (eP3 eI eI (eT eI))) s123.2) (tw_cons (tw_frz (o := (oL (eP3 eI eI (eT eI))) s123.2) rfl) tw_nil) o_tupleL) tw_nil))) (tup_lit (Nat.le_of_ble_eq_true rfl))) (tb_rt fun ρ H => ⟨rfl, H.get rfl⟩))))))))))))))))))

noncomputable def t__law_some (draws0 : (List Int)) (many0 : Int) : Rs ((List Int) × (List Int)) :=
  bnd2 (mapS (fun a10 => a10) ((Gd (rgOk 0 many0 = true) (.ok (rng 0 many0))).bind fun xs8 => compTS (fun x1 s2 => tstS (mapS (fun a6 => (decide (0 < a6))) (mapS (fun a4 => (a4 % 4)) ((t__law_next s2)))) fun s7 => .ok (x1, s7)) xs8 draws0)) fun r11 s12 => .ok (r11, s12)
theorem ct__law_some (draws0 : (List Int)) (many0 : Int) : Le ((t__law_some draws0 many0).map fun r => ((eT eI) r.1, (oL eI) r.2)) (f__law_some ((oL eI) draws0) [eI many0]) := by
  unfold t__law_some f__law_some b__law_some
  exact tf_MD (o := (oL eI) draws0) (eo := (oL eI)) (e := (eT eI)) (sp := [some (.own true ((oL eI) draws0)), some (.dat (eI many0)), none]) (lst_c (mk := fun s => [some (.own true ((oL eI) s)), some (.dat (eI many0)), none]) (s := draws0) (e := (eT eI)) (tm_app (e3 := (eT eI)) (v := fun a10 => a10) (tm_cons_h (e1 := (eL eI)) (tm_frzM (tm_lc_E (e1 := eI) (te_app_v (e3 := fun xs => List.map eI xs) (tv_cons (tv_var (d := eI many0) rfl) tv_nil) o_rg1) fun xs8 => (tm_lc (e1 := eI) (e2 := eI) (mkx := fun x1 s => [some (.own true ((oL eI) s)), some (.dat (eI many0)), some (.dat (eI x1))]) (fun _ _ => rfl) mo_nm (fun _ _ => rfl) (fun _ _ => rfl) rfl (fun x1 s2 => (tm_bool (tm_op_v (e3 := eB) (v := fun a6 => (decide (0 < a6))) (tm_op_v (e3 := eI) (v := fun a4 => (a4 % 4)) (tm_int (tm_io (b := true) (e3 := eI) (eo := (oL eI)) tl_nil (ct__law_next s2))) (fun s3 => (tv_c (d := eI 4))) fun _ => (o_mod (by decide))) (fun s5 => (tv_c (d := eI 0))) fun _ => o_gt))) fun x1 s7 => (tm_lift (e := eI) (a := x1) (tv_var (d := eI x1) rfl))))) fun s9 => tl_nil) fun _ => o_tupleL) fun r11 s12 => (tb_rt fun ρ H => ⟨rfl, H.get rfl⟩))

noncomputable def t__law_faults (book0 : ((List (List Int)) × (List (Int × Int × (List Int))) × (List (Int × Int × (List Int))))) (plan0 : (List Int)) : Rs (List D) := relF (eL eD) (f__law_faults [(eP3 (eT (eT eI)) (eT (eP3 eI eI (eT eI))) (eT (eP3 eI eI (eT eI)))) book0, (eT eI) plan0])
theorem ct__law_faults (book0 : ((List (List Int)) × (List (Int × Int × (List Int))) × (List (Int × Int × (List Int))))) (plan0 : (List Int)) : Le ((t__law_faults book0 plan0).map (eL eD)) (f__law_faults [(eP3 (eT (eT eI)) (eT (eP3 eI eI (eT eI))) (eT (eP3 eI eI (eT eI)))) book0, (eT eI) plan0]) := ct_rel

noncomputable def t__law_packings (book0 : ((List (List Int)) × (List (Int × Int × (List Int))) × (List (Int × Int × (List Int))))) (stations0 : (List Int)) : Rs (List (List Int)) :=
  ((Gd (1 ≤ (book0.1.length : Int) ∧ (book0.1.length : Int) ≤ 1000 ∧ [(-1)].length ≤ 1000 ∧ [(-1)] ≠ []) (.ok (rep [(-1)] (book0.1.length : Int)))).bind fun a1 => .ok [a1]).bind fun rows2 => (forR (fun (x30 : Int) (s31 : ((List (List Int)))) =>
    ((forR (fun (x44 : (List Int)) (s45 : ((List (List Int)))) =>
    (((ixT book0.1 x30).bind fun a => .ok a).bind fun xs46 => (forR (fun (x51 : Int) (s52 : ((List (List Int)))) =>
    (((Gd ((cutL x44 (none : Option Int) (some x30)).length + [x51].length ≤ sizeLine) (.ok ((cutL x44 (none : Option Int) (some x30)) ++ [x51]))).bind fun a53 => Gd (a53.length + (cutL x44 (some (x30 + 1)) (none : Option Int)).length ≤ sizeLine) (.ok (a53 ++ (cutL x44 (some (x30 + 1)) (none : Option Int))))).bind fun other54 => (((t__law_faults book0 other54)).bind fun a55 => eqR ((eL eD) a55) ((eL eD) ([] : (List D)))).bind fun c56 => if c56 = true then Gd (s52.length < sizeLine) (.ok (s52 ++ [other54])) else .ok s52 : Rs ((List (List Int))))) xs46 s45).bind fun s57 =>
  .ok s57 : Rs ((List (List Int))))) s31 ([] : (List (List Int)))).bind fun s58 =>
  .ok s58 : Rs ((List (List Int))))) stations0 rows2).bind fun s59 =>
  (Gd (∀ p ∈ s59, p ≠ []) (.ok (srtT s59))).bind fun r60 => .ok r60
theorem ct__law_packings (book0 : ((List (List Int)) × (List (Int × Int × (List Int))) × (List (Int × Int × (List Int))))) (stations0 : (List Int)) : Le ((t__law_packings book0 stations0).map (eL (eT eI))) (f__law_packings [(eP3 (eT (eT eI)) (eT (eP3 eI eI (eT eI))) (eT (eP3 eI eI (eT eI)))) book0, (eT eI) stations0]) := by
  unfold t__law_packings f__law_packings b__law_packings
  exact tf_D (e := (eL (eT eI))) (sp := [some (.dat ((eP3 (eT (eT eI)) (eT (eP3 eI eI (eT eI))) (eT (eP3 eI eI (eT eI)))) book0)), some (.dat ((eT eI) stations0)), none, none, none, none, none, none]) (tb_e (e := (eL (eT eI))) (te_frz (te_app_m (e3 := (oL (eT eI))) (te_cons_mv (e1 := (eT eI)) (te_op_vv (e3 := (eT eI)) (tv_app (c := (eT eI) [(-1)]) (tv_cons (tv_un (tv_c (d := eI 1)) o_neg) tv_nil) (tup_lit (Nat.le_of_ble_eq_true rfl))) (tv_app (c := eI (book0.1.length : Int)) (tv_cons (tv_op (d3 := (eT (eT eI)) book0.1) (tv_var (d := (eP3 (eT (eT eI)) (eT (eP3 eI eI (eT eI))) (eT (eP3 eI eI (eT eI)))) book0) rfl) (tv_c (d := eI 0)) rfl) tv_nil) o_lenT) o_rep) tv_nil) fun a1 => ok_of (c := [a1]) (lst_lit (Nat.le_of_ble_eq_true rfl)))) fun rows2 => (tb_set rfl (tb_v (tv_app (c := List.map eI stations0) (tv_var (d := (eT eI) stations0) rfl) w_T) (tb_for (mk := fun (s : ((List (List Int)))) => [some (.dat ((eP3 (eT (eT eI)) (eT (eP3 eI eI (eT eI))) (eT (eP3 eI eI (eT eI)))) book0)), some (.dat ((eT eI) stations0)), some (.dat ((eL (eT eI)) s)), none, none, none, none, none]) (s0 := rows2) (e := eI) (.k (.k (.k (.k (.k (.k (.k (.k .nil)))))))) mo_nm (fun _ _ => rfl) (fun x30 s31 => (tb_w (tw_lift (tv_app (c := (oL eD) ([] : (List D))) tv_nil (lst_lit (Nat.le_of_ble_eq_true rfl)))) (tb_setO rfl (tb_v (tv_app (c := List.map (eT eI) s31) (tv_var (d := (eL (eT eI)) s31) rfl) w_L) (tb_for (mk := fun (s : ((List (List Int)))) => [some (.dat ((eP3 (eT (eT eI)) (eT (eP3 eI eI (eT eI))) (eT (eP3 eI eI (eT eI)))) book0)), some (.dat ((eT eI) stations0)), some (.dat ((eL (eT eI)) s31)), some (.dat (eI x30)), some (.own false ((oL (eT eI)) s)), none, none, none]) (s0 := ([] : (List (List Int)))) (e := (eT eI)) (.k (.k (.k (.k (.k (.k (.k (.k .nil)))))))) mo_nm (fun _ _ => rfl) (fun x44 s45 => (tb_last (tb_e (e := fun xs => List.map eI xs) (te_app_m (e3 := fun xs => List.map eI xs) (te_op_vv (e3 := (eT eI)) (tv_op (d3 := (eT (eT eI)) book0.1) (tv_var (d := (eP3 (eT (eT eI)) (eT (eP3 eI eI (eT eI))) (eT (eP3 eI eI (eT eI)))) book0) rfl) (tv_c (d := eI 0)) rfl) (tv_var (d := eI x30) rfl) o_ixT) fun _ => ok_of w_T) fun xs46 => (tb_for (mk := fun (s : ((List (List Int)))) => [some (.dat ((eP3 (eT (eT eI)) (eT (eP3 eI eI (eT eI))) (eT (eP3 eI eI (eT eI)))) book0)), some (.dat ((eT eI) stations0)), some (.dat ((eL (eT eI)) s31)), some (.dat (eI x30)), some (.own false ((oL (eT eI)) s)), some (.dat ((eT eI) x44)), none, none]) (s0 := s45) (e := eI) (.k (.k (.k (.k (.k (.k (.k (.k .nil)))))))) mo_nm (fun _ _ => rfl) (fun x51 s52 => (tb_e (e := (eT eI)) (te_op_mv (e3 := (eT eI)) (te_op_vv (e3 := (eT eI)) (tv_slice (tv_var (d := (eT eI) x44) rfl) tv_c (tv_part (tv_var (d := eI x30) rfl)) o_slT) (tv_app (c := (eT eI) [x51]) (tv_cons (tv_var (d := eI x51) rfl) tv_nil) (tup_lit (Nat.le_of_ble_eq_true rfl))) o_addT) (tv_slice (tv_var (d := (eT eI) x44) rfl) (tv_part (tv_op (d3 := eI (x30 + 1)) (tv_var (d := eI x30) rfl) (tv_c (d := eI 1)) o_add)) tv_c o_slT) fun _ => o_addT) fun other54 => (tb_set rfl (bl_e (te_bool (te_op_mv (e3 := eB) (te_call_v (e3 := (eL eD)) (tv_cons (tv_var (d := (eP3 (eT (eT eI)) (eT (eP3 eI eI (eT eI))) (eT (eP3 eI eI (eT eI)))) book0) rfl) (tv_cons (tv_var (d := (eT eI) other54) rfl) tv_nil)) (ct__law_faults book0 other54)) (tv_cast (d' := (eL eD) []) (tv_frz (tv_app (c := (oL eD) ([] : (List D))) tv_nil (lst_lit (Nat.le_of_ble_eq_true rfl)))) rfl) fun _ => o_eqD)) fun c56 => (br_tail (tb_last (tb_app_w (b := false) (e := (eT eI)) (xs := (s52 : (List (List Int)))) (a := other54) (tw_cons (tw_lift (tv_var (d := (eT eI) other54) rfl)) tw_nil) rfl ⟨_, rfl, rfl⟩ (tb_nx fun ρ H => ⟨ρ, .inl rfl, Wk.ag (.k (.k (.k (.k (.k (.k (.f trivial (.f trivial .nil)))))))) H⟩))) (tb_nx fun ρ H => ⟨ρ, .inl rfl, Wk.ag (.k (.k (.k (.k (.k (.k (.f trivial (.f trivial .nil)))))))) H⟩)))))) fun s57 => (tb_nx fun ρ H => ⟨ρ, .inl rfl, Wk.ag (.k (.k (.k (.k (.k (.f trivial (.k (.k .nil)))))))) H⟩))))) fun s58 => (tb_last (tb_w (tw_frzM (tw_app (c := (oL (eT eI)) s58) (tw_cons (tw_frz (o := (oL (eT eI)) s58) rfl) tw_nil) o_listL)) (tb_set rfl (tb_nx fun ρ H => ⟨ρ, .inl rfl, Wk.ag (.k (.k (.k (.f trivial (.f trivial (.k (.k (.k .nil)))))))) H⟩))))))))) fun s59 => (lst_e (e := (eL (eT eI))) (te_frz (te_app_v (e3 := (oL (eT eI))) (tv_cons (tv_var (d := (eL (eT eI)) s59) rfl) tv_nil) o_sortT)) fun r60 => (tb_rt fun ρ H => rfl))))))

noncomputable def t_with_stations (book0 : ((List (List Int)) × (List (Int × Int × (List Int))) × (List (Int × Int × (List Int))))) (stations0 : (List Int)) : Rs ((List (List Int)) × (List (Int × Int × (List Int))) × (List (Int × Int × (List Int)))) := relF (eP3 (eT (eT eI)) (eT (eP3 eI eI (eT eI))) (eT (eP3 eI eI (eT eI)))) (f_with_stations [(eP3 (eT (eT eI)) (eT (eP3 eI eI (eT eI))) (eT (eP3 eI eI (eT eI)))) book0, (eT eI) stations0])
theorem ct_with_stations (book0 : ((List (List Int)) × (List (Int × Int × (List Int))) × (List (Int × Int × (List Int))))) (stations0 : (List Int)) : Le ((t_with_stations book0 stations0).map (eP3 (eT (eT eI)) (eT (eP3 eI eI (eT eI))) (eT (eP3 eI eI (eT eI))))) (f_with_stations [(eP3 (eT (eT eI)) (eT (eP3 eI eI (eT eI))) (eT (eP3 eI eI (eT eI)))) book0, (eT eI) stations0]) := ct_rel

noncomputable def t_is_right (book0 : ((List (List Int)) × (List (Int × Int × (List Int))) × (List (Int × Int × (List Int))))) (plan0 : (List Int)) : Rs Bool := relF eB (f_is_right [(eP3 (eT (eT eI)) (eT (eP3 eI eI (eT eI))) (eT (eP3 eI eI (eT eI)))) book0, (eT eI) plan0])
theorem ct_is_right (book0 : ((List (List Int)) × (List (Int × Int × (List Int))) × (List (Int × Int × (List Int))))) (plan0 : (List Int)) : Le ((t_is_right book0 plan0).map eB) (f_is_right [(eP3 (eT (eT eI)) (eT (eP3 eI eI (eT eI))) (eT (eP3 eI eI (eT eI)))) book0, (eT eI) plan0]) := ct_rel

noncomputable def t_silenced (book0 : ((List (List Int)) × (List (Int × Int × (List Int))) × (List (Int × Int × (List Int))))) (plan0 : (List Int)) (station0 : Int) : Rs (List Int) := relF (eT eI) (f_silenced [(eP3 (eT (eT eI)) (eT (eP3 eI eI (eT eI))) (eT (eP3 eI eI (eT eI)))) book0, (eT eI) plan0, eI station0])
theorem ct_silenced (book0 : ((List (List Int)) × (List (Int × Int × (List Int))) × (List (Int × Int × (List Int))))) (plan0 : (List Int)) (station0 : Int) : Le ((t_silenced book0 plan0 station0).map (eT eI)) (f_silenced [(eP3 (eT (eT eI)) (eT (eP3 eI eI (eT eI))) (eT (eP3 eI eI (eT eI)))) book0, (eT eI) plan0, eI station0]) := ct_rel

noncomputable def t__law_looser (draws0 : (List Int)) (book0 : ((List (List Int)) × (List (Int × Int × (List Int))) × (List (Int × Int × (List Int))))) : Rs (((List (List Int)) × (List (Int × Int × (List Int))) × (List (Int × Int × (List Int)))) × (List Int)) :=
  bnd2 (mapS (fun a2 => (a2 % 4)) ((t__law_next draws0))) fun kind3 s4 => if ((decide (kind3 = 0)) && (!book0.2.1.isEmpty)) = true then bnd2 (bnd2 ((t__law_next s4)) fun a6 s => withS s (Gd (0 < (book0.2.1.length : Int)) (.ok (a6 % (book0.2.1.length : Int))))) fun at7 s8 => ((Gd ((cutL book0.2.1 (none : Option Int) (some at7)).length + (cutL book0.2.1 (some (at7 + 1)) (none : Option Int)).length ≤ sizeLine) (.ok ((cutL book0.2.1 (none : Option Int) (some at7)) ++ (cutL book0.2.1 (some (at7 + 1)) (none : Option Int))))).bind fun a9 => .ok (book0.1, a9, book0.2.2)).bind fun r10 => .ok (r10, s8) else
  if ((decide (kind3 = 1)) && (!book0.2.2.isEmpty)) = true then bnd2 (bnd2 ((t__law_next s4)) fun a12 s => withS s (Gd (0 < (book0.2.2.length : Int)) (.ok (a12 % (book0.2.2.length : Int))))) fun at13 s14 => ((Gd ((cutL book0.2.2 (none : Option Int) (some at13)).length + (cutL book0.2.2 (some (at13 + 1)) (none : Option Int)).length ≤ sizeLine) (.ok ((cutL book0.2.2 (none : Option Int) (some at13)) ++ (cutL book0.2.2 (some (at13 + 1)) (none : Option Int))))).bind fun a15 => .ok (book0.1, book0.2.1, a15)).bind fun r16 => .ok (r16, s14) else
  if ((decide (kind3 = 2)) && (!book0.2.2.isEmpty)) = true then bnd2 (bnd2 ((t__law_next s4)) fun a18 s => withS s (Gd (0 < (book0.2.2.length : Int)) (.ok (a18 % (book0.2.2.length : Int))))) fun at19 s20 => (ixT book0.2.2 at19).bind fun u21 => bnd2 (mapS (fun a33 => (book0.1, book0.2.1, a33)) (bnd2 (bnd2 (mapS (fun a28 => [a28]) (mapS (fun a26 => (u21.1, a26, u21.2.2)) (mapS (fun a24 => ((u21.2.1 + 1) + a24)) (mapS (fun a23 => (a23 % 3)) ((t__law_next s20)))))) fun a29 s => withS s (Gd ((cutL book0.2.2 (none : Option Int) (some at19)).length + a29.length ≤ sizeLine) (.ok ((cutL book0.2.2 (none : Option Int) (some at19)) ++ a29)))) fun a31 s => withS s (Gd (a31.length + (cutL book0.2.2 (some (at19 + 1)) (none : Option Int)).length ≤ sizeLine) (.ok (a31 ++ (cutL book0.2.2 (some (at19 + 1)) (none : Option Int))))))) fun r34 s35 => .ok (r34, s35) else
  bnd2 (bnd2 ((t__law_next s4)) fun a37 s => withS s (Gd (0 < (book0.1.length : Int)) (.ok (a37 % (book0.1.length : Int))))) fun at38 s39 => bnd2 (mapS (fun a50 => a50) (bnd2 (bnd2 (withS s39 ((ixT book0.1 at38).bind fun a40 => .ok a40)) fun a46 s41 => bnd2 (mapS (fun a45 => [a45]) (mapS (fun a43 => (a43 % 5)) ((t__law_next s41)))) fun a47 s48 => withS s48 (Gd (a46.length + a47.length ≤ sizeLine) (.ok (a46 ++ a47)))) fun xs s => withS s (Gd (xs.length < 64) (.ok (srtI (dedI xs)))))) fun longer51 s52 => (((Gd ((cutL book0.1 (none : Option Int) (some at38)).length + [longer51].length ≤ sizeLine) (.ok ((cutL book0.1 (none : Option Int) (some at38)) ++ [longer51]))).bind fun a53 => Gd (a53.length + (cutL book0.1 (some (at38 + 1)) (none : Option Int)).length ≤ sizeLine) (.ok (a53 ++ (cutL book0.1 (some (at38 + 1)) (none : Option Int))))).bind fun a54 => .ok (a54, book0.2.1, book0.2.2)).bind fun r55 => .ok (r55, s52)
theorem ct__law_looser (draws0 : (List Int)) (book0 : ((List (List Int)) × (List (Int × Int × (List Int))) × (List (Int × Int × (List Int))))) : Le ((t__law_looser draws0 book0).map fun r => ((eP3 (eT (eT eI)) (eT (eP3 eI eI (eT eI))) (eT (eP3 eI eI (eT eI)))) r.1, (oL eI) r.2)) (f__law_looser ((oL eI) draws0) [(eP3 (eT (eT eI)) (eT (eP3 eI eI (eT eI))) (eT (eP3 eI eI (eT eI)))) book0]) := by
  unfold t__law_looser f__law_looser b__law_looser
  exact tf_MD (o := (oL eI) draws0) (eo := (oL eI)) (e := (eP3 (eT (eT eI)) (eT (eP3 eI eI (eT eI))) (eT (eP3 eI eI (eT eI))))) (sp := [some (.own true ((oL eI) draws0)), some (.dat ((eP3 (eT (eT eI)) (eT (eP3 eI eI (eT eI))) (eT (eP3 eI eI (eT eI)))) book0)), none, none, none, none, none, none, none, none, none]) (tb_v (tv_var (d := (eP3 (eT (eT eI)) (eT (eP3 eI eI (eT eI))) (eT (eP3 eI eI (eT eI)))) book0) rfl) (tb_asg (d := (eP3 (eT (eT eI)) (eT (eP3 eI eI (eT eI))) (eT (eP3 eI eI (eT eI)))) book0) (mo_tup (mos_cons mo_nm (mos_cons mo_nm (mos_cons mo_nm mos_nil)))) rfl (tb_c (mk := fun s => [some (.own true ((oL eI) s)), some (.dat ((eP3 (eT (eT eI)) (eT (eP3 eI eI (eT eI))) (eT (eP3 eI eI (eT eI)))) book0)), none, none, none, some (.dat ((eT (eT eI)) book0.1)), some (.dat ((eT (eP3 eI eI (eT eI))) book0.2.1)), some (.dat ((eT (eP3 eI eI (eT eI))) book0.2.2)), none, none, none]) (s := draws0) (e := eI) (tm_op_v (e3 := eI) (v := fun a2 => (a2 % 4)) (tm_int (tm_io (b := true) (e3 := eI) (eo := (oL eI)) tl_nil (ct__law_next draws0))) (fun s1 => (tv_c (d := eI 4))) fun _ => (o_mod (by decide))) fun kind3 s4 => (tb_set rfl (br_v (tv_and (tv_bool (tv_op (d3 := eB (decide (kind3 = 0))) (tv_var (d := eI kind3) rfl) (tv_c (d := eI 0)) (o_eq qI))) (tv_tru (tv_var (d := (eT (eP3 eI eI (eT eI))) book0.2.1) rfl) t_T)) (br_l (tb_c (mk := fun s => [some (.own true ((oL eI) s)), some (.dat ((eP3 (eT (eT eI)) (eT (eP3 eI eI (eT eI))) (eT (eP3 eI eI (eT eI)))) book0)), some (.dat (eI kind3)), none, none, some (.dat ((eT (eT eI)) book0.1)), some (.dat ((eT (eP3 eI eI (eT eI))) book0.2.1)), some (.dat ((eT (eP3 eI eI (eT eI))) book0.2.2)), none, none, none]) (s := s4) (e := eI) (tm_op_vp (e3 := eI) (tm_int (tm_io (b := true) (e3 := eI) (eo := (oL eI)) tl_nil (ct__law_next s4))) (fun s5 => (tv_app (c := eI (book0.2.1.length : Int)) (tv_cons (tv_var (d := (eT (eP3 eI eI (eT eI))) book0.2.1) rfl) tv_nil) o_lenT)) fun _ => o_modG) fun at7 s8 => (tb_set rfl (lst_e (e := (eP3 (eT (eT eI)) (eT (eP3 eI eI (eT eI))) (eT (eP3 eI eI (eT eI))))) (te_app_m (e3 := (eP3 (eT (eT eI)) (eT (eP3 eI eI (eT eI))) (eT (eP3 eI eI (eT eI))))) (te_cons_vm (tv_var (d := (eT (eT eI)) book0.1) rfl) (te_cons_mv (e1 := (eT (eP3 eI eI (eT eI)))) (te_op_vv (e3 := (eT (eP3 eI eI (eT eI)))) (tv_slice (tv_var (d := (eT (eP3 eI eI (eT eI))) book0.2.1) rfl) tv_c (tv_part (tv_var (d := eI at7) rfl)) o_slT) (tv_slice (tv_var (d := (eT (eP3 eI eI (eT eI))) book0.2.1) rfl) (tv_part (tv_op (d3 := eI (at7 + 1)) (tv_var (d := eI at7) rfl) (tv_c (d := eI 1)) o_add)) tv_c o_slT) o_addT) (tv_cons (tv_var (d := (eT (eP3 eI eI (eT eI))) book0.2.2) rfl) tv_nil))) fun a9 => ok_of (c := (book0.1, a9, book0.2.2)) (tup_lit (Nat.le_of_ble_eq_true rfl))) fun r10 => (tb_rt fun ρ H => ⟨⟨rfl, H.get rfl⟩, nn_rt⟩)))) (tb_skip (br_v (tv_and (tv_bool (tv_op (d3 := eB (decide (kind3 = 1))) (tv_var (d := eI kind3) rfl) (tv_c (d := eI 1)) (o_eq qI))) (tv_tru (tv_var (d := (eT (eP3 eI eI (eT eI))) book0.2.2) rfl) t_T)) (br_l (tb_c (mk := fun s => [some (.own true ((oL eI) s)), some (.dat ((eP3 (eT (eT eI)) (eT (eP3 eI eI (eT eI))) (eT (eP3 eI eI (eT eI)))) book0)), some (.dat (eI kind3)), none, none, some (.dat ((eT (eT eI)) book0.1)), some (.dat ((eT (eP3 eI eI (eT eI))) book0.2.1)), some (.dat ((eT (eP3 eI eI (eT eI))) book0.2.2)), none, none, none]) (s := s4) (e := eI) (tm_op_vp (e3 := eI) (tm_int (tm_io (b := true) (e3 := eI) (eo := (oL eI)) tl_nil (ct__law_next s4))) (fun s11 => (tv_app (c := eI (book0.2.2.length : Int)) (tv_cons (tv_var (d := (eT (eP3 eI eI (eT eI))) book0.2.2) rfl) tv_nil) o_lenT)) fun _ => o_modG) fun at13 s14 => (tb_set rfl (lst_e (e := (eP3 (eT (eT eI)) (eT (eP3 eI eI (eT eI))) (eT (eP3 eI eI (eT eI))))) (te_app_m (e3 := (eP3 (eT (eT eI)) (eT (eP3 eI eI (eT eI))) (eT (eP3 eI eI (eT eI))))) (te_cons_vm (tv_var (d := (eT (eT eI)) book0.1) rfl) (te_cons_vm (tv_var (d := (eT (eP3 eI eI (eT eI))) book0.2.1) rfl) (te_cons_mv (e1 := (eT (eP3 eI eI (eT eI)))) (te_op_vv (e3 := (eT (eP3 eI eI (eT eI)))) (tv_slice (tv_var (d := (eT (eP3 eI eI (eT eI))) book0.2.2) rfl) tv_c (tv_part (tv_var (d := eI at13) rfl)) o_slT) (tv_slice (tv_var (d := (eT (eP3 eI eI (eT eI))) book0.2.2) rfl) (tv_part (tv_op (d3 := eI (at13 + 1)) (tv_var (d := eI at13) rfl) (tv_c (d := eI 1)) o_add)) tv_c o_slT) o_addT) tv_nil))) fun a15 => ok_of (c := (book0.1, book0.2.1, a15)) (tup_lit (Nat.le_of_ble_eq_true rfl))) fun r16 => (tb_rt fun ρ H => ⟨⟨rfl, H.get rfl⟩, nn_rt⟩)))) (tb_skip (br_v (tv_and (tv_bool (tv_op (d3 := eB (decide (kind3 = 2))) (tv_var (d := eI kind3) rfl) (tv_c (d := eI 2)) (o_eq qI))) (tv_tru (tv_var (d := (eT (eP3 eI eI (eT eI))) book0.2.2) rfl) t_T)) (br_l (tb_c (mk := fun s => [some (.own true ((oL eI) s)), some (.dat ((eP3 (eT (eT eI)) (eT (eP3 eI eI (eT eI))) (eT (eP3 eI eI (eT eI)))) book0)), some (.dat (eI kind3)), none, none, some (.dat ((eT (eT eI)) book0.1)), some (.dat ((eT (eP3 eI eI (eT eI))) book0.2.1)), some (.dat ((eT (eP3 eI eI (eT eI))) book0.2.2)), none, none, none]) (s := s4) (e := eI) (tm_op_vp (e3 := eI) (tm_int (tm_io (b := true) (e3 := eI) (eo := (oL eI)) tl_nil (ct__law_next s4))) (fun s17 => (tv_app (c := eI (book0.2.2.length : Int)) (tv_cons (tv_var (d := (eT (eP3 eI eI (eT eI))) book0.2.2) rfl) tv_nil) o_lenT)) fun _ => o_modG) fun at19 s20 => (tb_set rfl (tb_e (e := (eP3 eI eI (eT eI))) (te_op_vv (e3 := (eP3 eI eI (eT eI))) (tv_var (d := (eT (eP3 eI eI (eT eI))) book0.2.2) rfl) (tv_var (d := eI at19) rfl) o_ixT) fun u21 => (tb_asg (d := (eP3 eI eI (eT eI)) u21) (mo_tup (mos_cons mo_nm (mos_cons mo_nm (mos_cons mo_nm mos_nil)))) rfl (lst_c (mk := fun s => [some (.own true ((oL eI) s)), some (.dat ((eP3 (eT (eT eI)) (eT (eP3 eI eI (eT eI))) (eT (eP3 eI eI (eT eI)))) book0)), some (.dat (eI kind3)), some (.dat (eI at19)), none, some (.dat ((eT (eT eI)) book0.1)), some (.dat ((eT (eP3 eI eI (eT eI))) book0.2.1)), some (.dat ((eT (eP3 eI eI (eT eI))) book0.2.2)), some (.dat (eI u21.1)), some (.dat (eI u21.2.1)), some (.dat ((eT eI) u21.2.2))]) (s := s20) (e := (eP3 (eT (eT eI)) (eT (eP3 eI eI (eT eI))) (eT (eP3 eI eI (eT eI))))) (tm_app (e3 := (eP3 (eT (eT eI)) (eT (eP3 eI eI (eT eI))) (eT (eP3 eI eI (eT eI))))) (v := fun a33 => (book0.1, book0.2.1, a33)) (tm_cons_t (tv_var (d := (eT (eT eI)) book0.1) rfl) (tm_cons_t (tv_var (d := (eT (eP3 eI eI (eT eI))) book0.2.1) rfl) (tm_cons_h (e1 := (eT (eP3 eI eI (eT eI)))) (tm_op_vp (e3 := (eT (eP3 eI eI (eT eI)))) (tm_op_wp (e3 := (eT (eP3 eI eI (eT eI)))) (tv_slice (tv_var (d := (eT (eP3 eI eI (eT eI))) book0.2.2) rfl) tv_c (tv_part (tv_var (d := eI at19) rfl)) o_slT) (tm_app (e3 := (eT (eP3 eI eI (eT eI)))) (v := fun a28 => [a28]) (tm_cons_h (e1 := (eP3 eI eI (eT eI))) (tm_app (e3 := (eP3 eI eI (eT eI))) (v := fun a26 => (u21.1, a26, u21.2.2)) (tm_cons_t (tv_var (d := eI u21.1) rfl) (tm_cons_h (e1 := eI) (tm_op_w (e3 := eI) (v := fun a24 => ((u21.2.1 + 1) + a24)) (tv_op (d3 := eI (u21.2.1 + 1)) (tv_var (d := eI u21.2.1) rfl) (tv_c (d := eI 1)) o_add) (tm_op_v (e3 := eI) (v := fun a23 => (a23 % 3)) (tm_int (tm_io (b := true) (e3 := eI) (eo := (oL eI)) tl_nil (ct__law_next s20))) (fun s22 => (tv_c (d := eI 3))) fun _ => (o_mod (by decide))) fun _ => o_add) fun s25 => (tl_cons (tv_var (d := (eT eI) u21.2.2) rfl) tl_nil))) fun _ => tup_lit (Nat.le_of_ble_eq_true rfl)) fun s27 => tl_nil) fun _ => tup_lit (Nat.le_of_ble_eq_true rfl)) fun _ => o_addT) (fun s30 => (tv_slice (tv_var (d := (eT (eP3 eI eI (eT eI))) book0.2.2) rfl) (tv_part (tv_op (d3 := eI (at19 + 1)) (tv_var (d := eI at19) rfl) (tv_c (d := eI 1)) o_add)) tv_c o_slT)) fun _ => o_addT) fun s32 => tl_nil))) fun _ => tup_lit (Nat.le_of_ble_eq_true rfl)) fun r34 s35 => (tb_rt fun ρ H => ⟨⟨rfl, H.get rfl⟩, nn_rt⟩)))))) (tb_skip (tb_c (mk := fun s => [some (.own true ((oL eI) s)), some (.dat ((eP3 (eT (eT eI)) (eT (eP3 eI eI (eT eI))) (eT (eP3 eI eI (eT eI)))) book0)), some (.dat (eI kind3)), none, none, some (.dat ((eT (eT eI)) book0.1)), some (.dat ((eT (eP3 eI eI (eT eI))) book0.2.1)), some (.dat ((eT (eP3 eI eI (eT eI))) book0.2.2)), none, none, none]) (s := s4) (e := eI) (tm_op_vp (e3 := eI) (tm_int (tm_io (b := true) (e3 := eI) (eo := (oL eI)) tl_nil (ct__law_next s4))) (fun s36 => (tv_app (c := eI (book0.1.length : Int)) (tv_cons (tv_var (d := (eT (eT eI)) book0.1) rfl) tv_nil) o_lenT)) fun _ => o_modG) fun at38 s39 => (tb_set rfl (tb_c (mk := fun s => [some (.own true ((oL eI) s)), some (.dat ((eP3 (eT (eT eI)) (eT (eP3 eI eI (eT eI))) (eT (eP3 eI eI (eT eI)))) book0)), some (.dat (eI kind3)), some (.dat (eI at38)), none, some (.dat ((eT (eT eI)) book0.1)), some (.dat ((eT (eP3 eI eI (eT eI))) book0.2.1)), some (.dat ((eT (eP3 eI eI (eT eI))) book0.2.2)), none, none, none]) (s := s39) (e := (eT eI)) (tm_app (e3 := (eT eI)) (v := fun a50 => a50) (tm_cons_h (e1 := (eL eI)) (tm_frzM (tm_sset (tm_op (e3 := (eL eI)) (tm_liftE (te_frz (te_app_m (e3 := (oL eI)) (te_cons_mv (e1 := (eT eI)) (te_op_vv (e3 := (eT eI)) (tv_var (d := (eT (eT eI)) book0.1) rfl) (tv_var (d := eI at38) rfl) o_ixT) tv_nil) fun a40 => ok_of (c := a40) o_listT))) (fun s41 => (tm_frzM (tm_app (e3 := (oL eI)) (v := fun a45 => [a45]) (tm_cons_h (e1 := eI) (tm_op_v (e3 := eI) (v := fun a43 => (a43 % 5)) (tm_int (tm_io (b := true) (e3 := eI) (eo := (oL eI)) tl_nil (ct__law_next s41))) (fun s42 => (tv_c (d := eI 5))) fun _ => (o_mod (by decide))) fun s44 => tl_nil) fun _ => lst_lit (Nat.le_of_ble_eq_true rfl)))) fun _ _ => o_addL))) fun s49 => tl_nil) fun _ => o_tupleL) fun longer51 s52 => (tb_set rfl (lst_e (e := (eP3 (eT (eT eI)) (eT (eP3 eI eI (eT eI))) (eT (eP3 eI eI (eT eI))))) (te_app_m (e3 := (eP3 (eT (eT eI)) (eT (eP3 eI eI (eT eI))) (eT (eP3 eI eI (eT eI))))) (te_cons_mv (e1 := (eT (eT eI))) (te_op_mv (e3 := (eT (eT eI))) (te_op_vv (e3 := (eT (eT eI))) (tv_slice (tv_var (d := (eT (eT eI)) book0.1) rfl) tv_c (tv_part (tv_var (d := eI at38) rfl)) o_slT) (tv_app (c := (eT (eT eI)) [longer51]) (tv_cons (tv_var (d := (eT eI) longer51) rfl) tv_nil) (tup_lit (Nat.le_of_ble_eq_true rfl))) o_addT) (tv_slice (tv_var (d := (eT (eT eI)) book0.1) rfl) (tv_part (tv_op (d3 := eI (at38 + 1)) (tv_var (d := eI at38) rfl) (tv_c (d := eI 1)) o_add)) tv_c o_slT) fun _ => o_addT) (tv_cons (tv_var (d := (eT (eP3 eI eI (eT eI))) book0.2.1) rfl) (tv_cons (tv_var (d := (eT (eP3 eI eI (eT eI))) book0.2.2) rfl) tv_nil))) fun a54 => ok_of (c := (a54, book0.2.1, book0.2.2)) (tup_lit (Nat.le_of_ble_eq_true rfl))) fun r55 => (tb_rt fun ρ H => ⟨rfl, H.get rfl⟩)))))))))))))))))))

noncomputable def t_least_band (book0 : ((List (List Int)) × (List (Int × Int × (List Int))) × (List (Int × Int × (List Int))))) (stations0 : (List Int)) : Rs (Option Int) := relF (eO eI) (f_least_band [(eP3 (eT (eT eI)) (eT (eP3 eI eI (eT eI))) (eT (eP3 eI eI (eT eI)))) book0, (eT eI) stations0])
theorem ct_least_band (book0 : ((List (List Int)) × (List (Int × Int × (List Int))) × (List (Int × Int × (List Int))))) (stations0 : (List Int)) : Le ((t_least_band book0 stations0).map (eO eI)) (f_least_band [(eP3 (eT (eT eI)) (eT (eP3 eI eI (eT eI))) (eT (eP3 eI eI (eT eI)))) book0, (eT eI) stations0]) := ct_rel

noncomputable def t_law (script0 : (List Int)) : Rs Bool :=
  ((t__law_draws script0)).bind fun draws1 => bnd2 ((t__law_more draws1 90)) fun draws2 s3 => ((((t_is_packable ([[0], [0], [0, 1]], [(0, 1, [0])], ([] : (List (Int × Int × (List Int))))) [0, 2])).bind fun a4 => .ok (!decide (a4 = true))).bind fun b10 => if b10 = true then .ok true else (((t_is_packable ([[0], [0], [0, 1]], [(0, 1, [0])], ([] : (List (Int × Int × (List Int))))) [0, 1])).bind fun a5 => .ok (!decide (a5 = false))).bind fun b9 => if b9 = true then .ok true else (((t_packings ([[0], [0], [0, 1]], [(0, 1, [0])], ([] : (List (Int × Int × (List Int))))) [1, 2])).bind fun a6 => reprT ((eL (eT eI)) a6)).bind fun a7 => (reprT ((eL (eT eI)) [[(-1), 0, 0], [(-1), 0, 1]])).bind fun a8 => neR (eS a7) (eS a8)).bind fun c11 => if c11 = true then .ok false else
  bnd2 ((t__law_book draws2 5)) fun book12 s13 => bndTO (forF (fun (x71 : Int) (s72 : ((List Int))) =>
    (bnd2 ((t__law_some s72 (book12.1.length : Int))) fun stations73 s74 => ((t_packings book12 stations73)).bind fun some75 => ((reprT ((eL (eT eI)) some75)).bind fun a77 => (((t__law_packings book12 stations73)).bind fun a76 => reprT ((eL (eT eI)) a76)).bind fun a78 => neR (eS a77) (eS a78)).bind fun c79 => if c79 = true then .ok (TO.rt false) else
  bndTO (if (!stations73.isEmpty) = true then (((t_with_stations book12 stations73)).bind fun part80 => ((((Gd (((stations73.length : Int)).natAbs ≤ 16777216) (.ok (rng 0 (stations73.length : Int)))).bind fun a81 => t_packings part80 a81).bind fun a82 => reprT ((eL (eT eI)) a82)).bind fun a87 => ((mapT (fun x83 => (mapT (fun x84 => ixT x83 x84) stations73).bind fun a85 => .ok a85) some75).bind fun a86 => reprT ((eL (eT eI)) a86)).bind fun a88 => neR (eS a87) (eS a88)).bind fun c89 => if c89 = true then .ok (TO.rt (TO.rt false)) else .ok (TO.nx ()) : Rs (TO (TO Bool ((List Int))) Unit)) else .ok (TO.nx ())) fun j90 =>
  bndTO (forF (fun (x100 : (List Int)) (s101 : ((List Int))) =>
    (bnd2 (bnd2 ((t__law_next s101)) fun a103 s => withS s (Gd (0 < (book12.1.length : Int)) (.ok (a103 % (book12.1.length : Int))))) fun at104 s105 => ((((t_is_right book12 x100)).bind fun a106 => .ok (!decide (a106 = true))).bind fun b109 => if b109 = true then .ok true else (((t_silenced book12 x100 at104)).bind fun a107 => t_is_right book12 a107).bind fun a108 => .ok (!decide (a108 = true))).bind fun c110 => if c110 = true then .ok (TO.rt (TO.rt false)) else .ok (TO.nx s105) : Rs (TO (TO Bool ((List Int))) ((List Int))))) (cutL some75 (none : Option Int) (some 3)) s74) fun s111 =>
  (Gd (rgOk 0 (stations73.length : Int) = true) (.ok (rng 0 (stations73.length : Int)))).bind fun xs112 => bndTO (forF (fun (x116 : Int) (s117 : Unit) =>
    ((Gd ((cutL stations73 (none : Option Int) (some x116)).length + (cutL stations73 (some (x116 + 1)) (none : Option Int)).length ≤ sizeLine) (.ok ((cutL stations73 (none : Option Int) (some x116)) ++ (cutL stations73 (some (x116 + 1)) (none : Option Int))))).bind fun less118 => ((if (!decide (some75 = ([] : (List (List Int))))) = true then ((t_is_packable book12 less118)).bind fun a119 => .ok (!decide (a119 = true)) else .ok false)).bind fun c120 => if c120 = true then .ok (TO.rt (TO.rt false)) else .ok (TO.nx ()) : Rs (TO (TO Bool ((List Int))) Unit))) xs112 ()) fun s121 =>
  bnd2 ((t__law_looser s111 book12)) fun looser122 s123 => (((t_least_band book12 stations73)).bind fun a124 => ((t_least_band looser122 stations73)).bind fun a125 => .ok (a124, a125)).bind fun a126 => ((if (!decide ((a126.1.isNone) = (decide (some75 = ([] : (List (List Int))))))) = true then .ok true else (if (a126.1.isSome) = true then (if (a126.2.isNone) = true then .ok true else ((Rs.of a126.2)).bind fun a127 => ((Rs.of a126.1)).bind fun a128 => .ok (decide (a128 < a127))) else .ok false))).bind fun c129 => if c129 = true then .ok (TO.rt false) else .ok (TO.nx s123) : Rs (TO Bool ((List Int))))) (rng 0 3) s13) fun s130 =>
  .ok true
theorem ct_law (script0 : (List Int)) : Le ((t_law script0).map eB) (f_law [(eL eI) script0]) := by
  unfold t_law f_law b_law
  exact tf_D (e := eB) (sp := [some (.dat ((eL eI) script0)), none, none, none, none, none, none, none, none, none, none, none, none, none, none, none]) (tb_f (e := (oL eI)) (tf_lift (te_call_v (e3 := (oL eI)) (tv_cons (tv_var (d := (eL eI) script0) rfl) tv_nil) (ct__law_draws script0))) fun draws1 => (tb_setO rfl (tb_c (mk := fun s => [some (.dat ((eL eI) script0)), some (.own false ((oL eI) s)), none, none, none, none, none, none, none, none, none, none, none, none, none, none]) (s := draws1) (e := (oL eI)) (tm_io (b := false) (e3 := (oL eI)) (eo := (oL eI)) (tl_cons (tv_c (d := eI 90)) tl_nil) (ct__law_more draws1 90)) fun draws2 s3 => (tb_setO rfl (tb_v (tv_app (c := (eP3 (eT (eT eI)) (eT (eP3 eI eI (eT eI))) (eT (eP3 eI eI (eT eI)))) ([[0], [0], [0, 1]], [(0, 1, [0])], ([] : (List (Int × Int × (List Int)))))) (tv_cons (tv_app (c := (eT (eT eI)) [[0], [0], [0, 1]]) (tv_cons (tv_app (c := (eT eI) [0]) (tv_cons (tv_c (d := eI 0)) tv_nil) (tup_lit (Nat.le_of_ble_eq_true rfl))) (tv_cons (tv_app (c := (eT eI) [0]) (tv_cons (tv_c (d := eI 0)) tv_nil) (tup_lit (Nat.le_of_ble_eq_true rfl))) (tv_cons (tv_app (c := (eT eI) [0, 1]) (tv_cons (tv_c (d := eI 0)) (tv_cons (tv_c (d := eI 1)) tv_nil)) (tup_lit (Nat.le_of_ble_eq_true rfl))) tv_nil))) (tup_lit (Nat.le_of_ble_eq_true rfl))) (tv_cons (tv_app (c := (eT (eP3 eI eI (eT eI))) [(0, 1, [0])]) (tv_cons (tv_app (c := (eP3 eI eI (eT eI)) (0, 1, [0])) (tv_cons (tv_c (d := eI 0)) (tv_cons (tv_c (d := eI 1)) (tv_cons (tv_app (c := (eT eI) [0]) (tv_cons (tv_c (d := eI 0)) tv_nil) (tup_lit (Nat.le_of_ble_eq_true rfl))) tv_nil))) (tup_lit (Nat.le_of_ble_eq_true rfl))) tv_nil) (tup_lit (Nat.le_of_ble_eq_true rfl))) (tv_cons (tv_app (c := (eT (eP3 eI eI (eT eI))) []) tv_nil rfl) tv_nil))) (tup_lit (Nat.le_of_ble_eq_true rfl))) (tb_set rfl (br_e (te_or (te_bool (te_op_mv (e3 := eB) (te_call_v (e3 := eB) (tv_cons (tv_var (d := (eP3 (eT (eT eI)) (eT (eP3 eI eI (eT eI))) (eT (eP3 eI eI (eT eI)))) ([[0], [0], [0, 1]], [(0, 1, [0])], ([] : (List (Int × Int × (List Int)))))) rfl) (tv_cons (tv_app (c := (eT eI) [0, 2]) (tv_cons (tv_c (d := eI 0)) (tv_cons (tv_c (d := eI 2)) tv_nil)) (tup_lit (Nat.le_of_ble_eq_true rfl))) tv_nil)) (ct_is_packable ([[0], [0], [0, 1]], [(0, 1, [0])], ([] : (List (Int × Int × (List Int))))) [0, 2])) (tv_c (d := eB true)) fun _ => (ok_of o_isntB))) (te_or (te_bool (te_op_mv (e3 := eB) (te_call_v (e3 := eB) (tv_cons (tv_var (d := (eP3 (eT (eT eI)) (eT (eP3 eI eI (eT eI))) (eT (eP3 eI eI (eT eI)))) ([[0], [0], [0, 1]], [(0, 1, [0])], ([] : (List (Int × Int × (List Int)))))) rfl) (tv_cons (tv_app (c := (eT eI) [0, 1]) (tv_cons (tv_c (d := eI 0)) (tv_cons (tv_c (d := eI 1)) tv_nil)) (tup_lit (Nat.le_of_ble_eq_true rfl))) tv_nil)) (ct_is_packable ([[0], [0], [0, 1]], [(0, 1, [0])], ([] : (List (Int × Int × (List Int))))) [0, 1])) (tv_c (d := eB false)) fun _ => (ok_of o_isntB))) (te_bool (te_op_mm (e3 := eB) (te_app_m (e3 := eS) (te_cons_mv (e1 := (eL (eT eI))) (te_call_v (e3 := (eL (eT eI))) (tv_cons (tv_var (d := (eP3 (eT (eT eI)) (eT (eP3 eI eI (eT eI))) (eT (eP3 eI eI (eT eI)))) ([[0], [0], [0, 1]], [(0, 1, [0])], ([] : (List (Int × Int × (List Int)))))) rfl) (tv_cons (tv_app (c := (eT eI) [1, 2]) (tv_cons (tv_c (d := eI 1)) (tv_cons (tv_c (d := eI 2)) tv_nil)) (tup_lit (Nat.le_of_ble_eq_true rfl))) tv_nil)) (ct_packings ([[0], [0], [0, 1]], [(0, 1, [0])], ([] : (List (Int × Int × (List Int))))) [1, 2])) tv_nil) fun _ => o_repr) (te_app_v (e3 := eS) (tv_cons (tv_frz (tv_app (c := (oL (eT eI)) [[(-1), 0, 0], [(-1), 0, 1]]) (tv_cons (tv_app (c := (eT eI) [(-1), 0, 0]) (tv_cons (tv_un (tv_c (d := eI 1)) o_neg) (tv_cons (tv_c (d := eI 0)) (tv_cons (tv_c (d := eI 0)) tv_nil))) (tup_lit (Nat.le_of_ble_eq_true rfl))) (tv_cons (tv_app (c := (eT eI) [(-1), 0, 1]) (tv_cons (tv_un (tv_c (d := eI 1)) o_neg) (tv_cons (tv_c (d := eI 0)) (tv_cons (tv_c (d := eI 1)) tv_nil))) (tup_lit (Nat.le_of_ble_eq_true rfl))) tv_nil)) (lst_lit (Nat.le_of_ble_eq_true rfl)))) tv_nil) o_repr) fun _ _ => o_neD)))) fun c11 => (br_l (lst_v (tv_c (d := eB false)) (tb_rt fun ρ H => ⟨rfl, nn_rt⟩)) (tb_skip (tb_c (mk := fun s => [some (.dat ((eL eI) script0)), some (.own false ((oL eI) s)), some (.dat ((eP3 (eT (eT eI)) (eT (eP3 eI eI (eT eI))) (eT (eP3 eI eI (eT eI)))) ([[0], [0], [0, 1]], [(0, 1, [0])], ([] : (List (Int × Int × (List Int))))))), none, none, none, none, none, none, none, none, none, none, none, none, none]) (s := draws2) (e := (eP3 (eT (eT eI)) (eT (eP3 eI eI (eT eI))) (eT (eP3 eI eI (eT eI))))) (tm_io (b := false) (e3 := (eP3 (eT (eT eI)) (eT (eP3 eI eI (eT eI))) (eT (eP3 eI eI (eT eI))))) (eo := (oL eI)) (tl_cons (tv_c (d := eI 5)) tl_nil) (ct__law_book draws2 5)) fun book12 s13 => (tb_set rfl (tb_v (tv_app (c := eI (book12.1.length : Int)) (tv_cons (tv_op (d3 := (eT (eT eI)) book12.1) (tv_var (d := (eP3 (eT (eT eI)) (eT (eP3 eI eI (eT eI))) (eT (eP3 eI eI (eT eI)))) book12) rfl) (tv_c (d := eI 0)) rfl) tv_nil) o_lenT) (tb_set rfl (tb_v (tv_app (tv_cons (tv_c (d := eI 3)) tv_nil) (o_rg1c rfl)) (tb_forF (mk := fun (s : ((List Int))) => [some (.dat ((eL eI) script0)), some (.own false ((oL eI) s)), some (.dat ((eP3 (eT (eT eI)) (eT (eP3 eI eI (eT eI))) (eT (eP3 eI eI (eT eI)))) ([[0], [0], [0, 1]], [(0, 1, [0])], ([] : (List (Int × Int × (List Int))))))), some (.dat ((eP3 (eT (eT eI)) (eT (eP3 eI eI (eT eI))) (eT (eP3 eI eI (eT eI)))) book12)), some (.dat (eI (book12.1.length : Int))), none, none, none, none, none, none, none, none, none, none, none]) (s0 := s13) (e := eI) (.k (.k (.k (.k (.k (.k (.k (.k (.k (.k (.k (.k (.k (.k (.k (.k .nil)))))))))))))))) mo_nm (fun _ _ => rfl) (fun x71 s72 => (tb_c (mk := fun s => [some (.dat ((eL eI) script0)), some (.own false ((oL eI) s)), some (.dat ((eP3 (eT (eT eI)) (eT (eP3 eI eI (eT eI))) (eT (eP3 eI eI (eT eI)))) ([[0], [0], [0, 1]], [(0, 1, [0])], ([] : (List (Int × Int × (List Int))))))), some (.dat ((eP3 (eT (eT eI)) (eT (eP3 eI eI (eT eI))) (eT (eP3 eI eI (eT eI)))) book12)), some (.dat (eI (book12.1.length : Int))), some (.dat (eI x71)), none, none, none, none, none, none, none, none, none, none]) (s := s72) (e := (eT eI)) (tm_io (b := false) (e3 := (eT eI)) (eo := (oL eI)) (tl_cons (tv_var (d := eI (book12.1.length : Int)) rfl) tl_nil) (ct__law_some s72 (book12.1.length : Int))) fun stations73 s74 => (tb_set rfl (tb_e (e := (eL (eT eI))) (te_call_v (e3 := (eL (eT eI))) (tv_cons (tv_var (d := (eP3 (eT (eT eI)) (eT (eP3 eI eI (eT eI))) (eT (eP3 eI eI (eT eI)))) book12) rfl) (tv_cons (tv_var (d := (eT eI) stations73) rfl) tv_nil)) (ct_packings book12 stations73)) fun some75 => (tb_set rfl (br_e (te_bool (te_op_mm (e3 := eB) (te_app_v (e3 := eS) (tv_cons (tv_var (d := (eL (eT eI)) some75) rfl) tv_nil) o_repr) (te_app_m (e3 := eS) (te_cons_mv (e1 := (eL (eT eI))) (te_call_v (e3 := (eL (eT eI))) (tv_cons (tv_var (d := (eP3 (eT (eT eI)) (eT (eP3 eI eI (eT eI))) (eT (eP3 eI eI (eT eI)))) book12) rfl) (tv_cons (tv_var (d := (eT eI) stations73) rfl) tv_nil)) (ct__law_packings book12 stations73)) tv_nil) fun _ => o_repr) fun _ _ => o_neD)) fun c79 => (br_l (lst_v (tv_c (d := eB false)) (tb_rt fun ρ H => ⟨⟨rfl, trivial⟩, nn_rt⟩)) (tb_skip (br_v (tv_tru (tv_var (d := (eT eI) stations73) rfl) t_T) (br_jf (mk := fun (s : Unit) => [some (.dat ((eL eI) script0)), some (.own false ((oL eI) s74)), some (.dat ((eP3 (eT (eT eI)) (eT (eP3 eI eI (eT eI))) (eT (eP3 eI eI (eT eI)))) ([[0], [0], [0, 1]], [(0, 1, [0])], ([] : (List (Int × Int × (List Int))))))), some (.dat ((eP3 (eT (eT eI)) (eT (eP3 eI eI (eT eI))) (eT (eP3 eI eI (eT eI)))) book12)), some (.dat (eI (book12.1.length : Int))), some (.dat (eI x71)), some (.dat ((eT eI) stations73)), some (.dat ((eL (eT eI)) some75)), none, none, none, none, none, none, none, none]) (tb_e (e := (eP3 (eT (eT eI)) (eT (eP3 eI eI (eT eI))) (eT (eP3 eI eI (eT eI))))) (te_call_v (e3 := (eP3 (eT (eT eI)) (eT (eP3 eI eI (eT eI))) (eT (eP3 eI eI (eT eI))))) (tv_cons (tv_var (d := (eP3 (eT (eT eI)) (eT (eP3 eI eI (eT eI))) (eT (eP3 eI eI (eT eI)))) book12) rfl) (tv_cons (tv_var (d := (eT eI) stations73) rfl) tv_nil)) (ct_with_stations book12 stations73)) fun part80 => (tb_set rfl (bl_e (te_bool (te_op_mm (e3 := eB) (te_app_m (e3 := eS) (te_cons_mv (e1 := (eL (eT eI))) (te_call_m (e3 := (eL (eT eI))) (te_cons_vm (tv_var (d := (eP3 (eT (eT eI)) (eT (eP3 eI eI (eT eI))) (eT (eP3 eI eI (eT eI)))) part80) rfl) (te_cons_mv (e1 := (eT eI)) (te_rgT (tv_app (c := eI (stations73.length : Int)) (tv_cons (tv_var (d := (eT eI) stations73) rfl) tv_nil) o_lenT)) tv_nil)) fun a81 => (ct_packings part80 a81)) tv_nil) fun _ => o_repr) (te_app_m (e3 := eS) (te_cons_mv (e1 := (eL (eT eI))) (te_frz (te_lc_v (tv_app (c := List.map (eT eI) some75) (tv_var (d := (eL (eT eI)) some75) rfl) w_L) (lc_mt (e1 := (eT eI)) (e2 := (eT eI)) mo_nm rfl (fun _ => rfl) fun x83 => (te_app_m (e3 := (eT eI)) (te_cons_mv (e1 := (eL eI)) (te_frz (te_lc_v (tv_app (c := List.map eI stations73) (tv_var (d := (eT eI) stations73) rfl) w_T) (lc_mt (e1 := eI) (e2 := eI) mo_nm rfl (fun _ => rfl) fun x84 => (te_op_vv (e3 := eI) (tv_var (d := (eT eI) x83) rfl) (tv_var (d := eI x84) rfl) o_ixT)))) tv_nil) fun a85 => ok_of (c := a85) o_tupleL)))) tv_nil) fun _ => o_repr) fun _ _ => o_neD)) fun c89 => (br_tail (lst_v (tv_c (d := eB false)) (tb_rt fun ρ H => ⟨⟨rfl, trivial⟩, nn_rt⟩)) (tb_nx fun ρ H => ⟨ρ, rfl, Wk.ag (.k (.k (.k (.k (.k (.k (.k (.k (.k (.k (.k (.f trivial (.k (.k (.k (.k .nil)))))))))))))))) H⟩))))) (tb_nx fun ρ H => ⟨ρ, rfl, Wk.ag (.k (.k (.k (.k (.k (.k (.k (.k (.k (.k (.k (.k (.k (.k (.k (.k .nil)))))))))))))))) H⟩) fun j90 => (tb_v (tv_app (c := List.map (eT eI) (cutL some75 (none : Option Int) (some 3))) (tv_slice (tv_var (d := (eL (eT eI)) some75) rfl) tv_c (tv_part (tv_c (d := eI 3))) o_slL) w_L) (tb_forF (mk := fun (s : ((List Int))) => [some (.dat ((eL eI) script0)), some (.own false ((oL eI) s)), some (.dat ((eP3 (eT (eT eI)) (eT (eP3 eI eI (eT eI))) (eT (eP3 eI eI (eT eI)))) ([[0], [0], [0, 1]], [(0, 1, [0])], ([] : (List (Int × Int × (List Int))))))), some (.dat ((eP3 (eT (eT eI)) (eT (eP3 eI eI (eT eI))) (eT (eP3 eI eI (eT eI)))) book12)), some (.dat (eI (book12.1.length : Int))), some (.dat (eI x71)), some (.dat ((eT eI) stations73)), some (.dat ((eL (eT eI)) some75)), none, none, none, none, none, none, none, none]) (s0 := s74) (e := (eT eI)) (.k (.k (.k (.k (.k (.k (.k (.k (.k (.k (.k (.k (.k (.k (.k (.k .nil)))))))))))))))) mo_nm (fun _ _ => rfl) (fun x100 s101 => (tb_c (mk := fun s => [some (.dat ((eL eI) script0)), some (.own false ((oL eI) s)), some (.dat ((eP3 (eT (eT eI)) (eT (eP3 eI eI (eT eI))) (eT (eP3 eI eI (eT eI)))) ([[0], [0], [0, 1]], [(0, 1, [0])], ([] : (List (Int × Int × (List Int))))))), some (.dat ((eP3 (eT (eT eI)) (eT (eP3 eI eI (eT eI))) (eT (eP3 eI eI (eT eI)))) book12)), some (.dat (eI (book12.1.length : Int))), some (.dat (eI x71)), some (.dat ((eT eI) stations73)), some (.dat ((eL (eT eI)) some75)), some (.dat ((eT eI) x100)), none, none, none, none, none, none, none]) (s := s101) (e := eI) (tm_op_vp (e3 := eI) (tm_int (tm_io (b := false) (e3 := eI) (eo := (oL eI)) tl_nil (ct__law_next s101))) (fun s102 => (tv_var (d := eI (book12.1.length : Int)) rfl)) fun _ => o_modG) fun at104 s105 => (tb_set rfl (bl_e (te_or (te_bool (te_op_mv (e3 := eB) (te_call_v (e3 := eB) (tv_cons (tv_var (d := (eP3 (eT (eT eI)) (eT (eP3 eI eI (eT eI))) (eT (eP3 eI eI (eT eI)))) book12) rfl) (tv_cons (tv_var (d := (eT eI) x100) rfl) tv_nil)) (ct_is_right book12 x100)) (tv_c (d := eB true)) fun _ => (ok_of o_isntB))) (te_bool (te_op_mv (e3 := eB) (te_call_m (e3 := eB) (te_cons_vm (tv_var (d := (eP3 (eT (eT eI)) (eT (eP3 eI eI (eT eI))) (eT (eP3 eI eI (eT eI)))) book12) rfl) (te_cons_mv (e1 := (eT eI)) (te_call_v (e3 := (eT eI)) (tv_cons (tv_var (d := (eP3 (eT (eT eI)) (eT (eP3 eI eI (eT eI))) (eT (eP3 eI eI (eT eI)))) book12) rfl) (tv_cons (tv_var (d := (eT eI) x100) rfl) (tv_cons (tv_var (d := eI at104) rfl) tv_nil))) (ct_silenced book12 x100 at104)) tv_nil)) fun a107 => (ct_is_right book12 a107)) (tv_c (d := eB true)) fun _ => (ok_of o_isntB)))) fun c110 => (br_tail (lst_v (tv_c (d := eB false)) (tb_rt fun ρ H => ⟨⟨rfl, trivial⟩, trivial⟩)) (tb_nx fun ρ H => ⟨ρ, .inl rfl, Wk.ag (.k (.k (.k (.k (.k (.k (.k (.k (.f trivial (.k (.k (.k (.f trivial (.k (.k (.k .nil)))))))))))))))) H⟩)))))) fun s111 => (tb_e (e := fun xs => List.map eI xs) (te_app_v (e3 := fun xs => List.map eI xs) (tv_cons (tv_app (c := eI (stations73.length : Int)) (tv_cons (tv_var (d := (eT eI) stations73) rfl) tv_nil) o_lenT) tv_nil) o_rg1) fun xs112 => (tb_forF (mk := fun (s : Unit) => [some (.dat ((eL eI) script0)), some (.own false ((oL eI) s111)), some (.dat ((eP3 (eT (eT eI)) (eT (eP3 eI eI (eT eI))) (eT (eP3 eI eI (eT eI)))) ([[0], [0], [0, 1]], [(0, 1, [0])], ([] : (List (Int × Int × (List Int))))))), some (.dat ((eP3 (eT (eT eI)) (eT (eP3 eI eI (eT eI))) (eT (eP3 eI eI (eT eI)))) book12)), some (.dat (eI (book12.1.length : Int))), some (.dat (eI x71)), some (.dat ((eT eI) stations73)), some (.dat ((eL (eT eI)) some75)), none, none, none, none, none, none, none, none]) (s0 := ()) (e := eI) (.k (.k (.k (.k (.k (.k (.k (.k (.k (.k (.k (.k (.k (.k (.k (.k .nil)))))))))))))))) mo_nm (fun _ _ => rfl) (fun x116 s117 => (tb_e (e := (eT eI)) (te_op_vv (e3 := (eT eI)) (tv_slice (tv_var (d := (eT eI) stations73) rfl) tv_c (tv_part (tv_var (d := eI x116) rfl)) o_slT) (tv_slice (tv_var (d := (eT eI) stations73) rfl) (tv_part (tv_op (d3 := eI (x116 + 1)) (tv_var (d := eI x116) rfl) (tv_c (d := eI 1)) o_add)) tv_c o_slT) o_addT) fun less118 => (tb_set rfl (bl_e (te_and_v (tv_bool (tv_op (d3 := eB (!decide (some75 = ([] : (List (List Int)))))) (tv_var (d := (eL (eT eI)) some75) rfl) (tv_cast (d' := (eL (eT eI)) []) (tv_frz (tv_app (c := (oL eD) ([] : (List D))) tv_nil (lst_lit (Nat.le_of_ble_eq_true rfl)))) rfl) (o_ne (qL (qT qI))))) (te_bool (te_op_mv (e3 := eB) (te_call_v (e3 := eB) (tv_cons (tv_var (d := (eP3 (eT (eT eI)) (eT (eP3 eI eI (eT eI))) (eT (eP3 eI eI (eT eI)))) book12) rfl) (tv_cons (tv_var (d := (eT eI) less118) rfl) tv_nil)) (ct_is_packable book12 less118)) (tv_c (d := eB true)) fun _ => (ok_of o_isntB)))) fun c120 => (br_tail (lst_v (tv_c (d := eB false)) (tb_rt fun ρ H => ⟨⟨rfl, trivial⟩, trivial⟩)) (tb_nx fun ρ H => ⟨ρ, .inl rfl, Wk.ag (.k (.k (.k (.k (.k (.k (.k (.k (.k (.f trivial (.k (.k (.k (.f trivial (.k (.k .nil)))))))))))))))) H⟩)))))) fun s121 => (tb_c (mk := fun s => [some (.dat ((eL eI) script0)), some (.own false ((oL eI) s)), some (.dat ((eP3 (eT (eT eI)) (eT (eP3 eI eI (eT eI))) (eT (eP3 eI eI (eT eI)))) ([[0], [0], [0, 1]], [(0, 1, [0])], ([] : (List (Int × Int × (List Int))))))), some (.dat ((eP3 (eT (eT eI)) (eT (eP3 eI eI (eT eI))) (eT (eP3 eI eI (eT eI)))) book12)), some (.dat (eI (book12.1.length : Int))), some (.dat (eI x71)), some (.dat ((eT eI) stations73)), some (.dat ((eL (eT eI)) some75)), none, none, none, none, none, none, none, none]) (s := s111) (e := (eP3 (eT (eT eI)) (eT (eP3 eI eI (eT eI))) (eT (eP3 eI eI (eT eI))))) (tm_io (b := false) (e3 := (eP3 (eT (eT eI)) (eT (eP3 eI eI (eT eI))) (eT (eP3 eI eI (eT eI))))) (eo := (oL eI)) (tl_cons (tv_var (d := (eP3 (eT (eT eI)) (eT (eP3 eI eI (eT eI))) (eT (eP3 eI eI (eT eI)))) book12) rfl) tl_nil) (ct__law_looser s111 book12)) fun looser122 s123 => (tb_set rfl (tb_f (tf_cons (e1 := (eO eI)) (tf_lift (te_call_v (e3 := (eO eI)) (tv_cons (tv_var (d := (eP3 (eT (eT eI)) (eT (eP3 eI eI (eT eI))) (eT (eP3 eI eI (eT eI)))) book12) rfl) (tv_cons (tv_var (d := (eT eI) stations73) rfl) tv_nil)) (ct_least_band book12 stations73))) (tf_cons_mw (e1 := (eO eI)) (tf_lift (te_call_v (e3 := (eO eI)) (tv_cons (tv_var (d := (eP3 (eT (eT eI)) (eT (eP3 eI eI (eT eI))) (eT (eP3 eI eI (eT eI)))) looser122) rfl) (tv_cons (tv_var (d := (eT eI) stations73) rfl) tv_nil)) (ct_least_band looser122 stations73))) tw_nil)) fun a126 => tb_par rfl rfl (bl_e (te_or_v (tv_bool (tv_op (d3 := eB (!decide ((a126.1.isNone) = (decide (some75 = ([] : (List (List Int)))))))) (tv_op (d3 := eB (a126.1.isNone)) (tv_var (d := (eO eI) a126.1) rfl) (tv_c (d := eN ())) (o_isO nnI)) (tv_op (d3 := eB (decide (some75 = ([] : (List (List Int)))))) (tv_var (d := (eL (eT eI)) some75) rfl) (tv_cast (d' := (eL (eT eI)) []) (tv_frz (tv_app (c := (oL eD) ([] : (List D))) tv_nil (lst_lit (Nat.le_of_ble_eq_true rfl)))) rfl) (o_eq (qL (qT qI)))) (o_ne qB))) (te_and_v (tv_bool (tv_op (d3 := eB (a126.1.isSome)) (tv_var (d := (eO eI) a126.1) rfl) (tv_c (d := eN ())) (o_isntO nnI))) (te_or_v (tv_bool (tv_op (d3 := eB (a126.2.isNone)) (tv_var (d := (eO eI) a126.2) rfl) (tv_c (d := eN ())) (o_isO nnI))) (te_bool (te_op_mm (e3 := eB) (tv_convP (e' := eI) (tv_var (d := (eO eI) a126.2) rfl) ((fun _ => getO_of) a126.2)) (tv_convP (e' := eI) (tv_var (d := (eO eI) a126.1) rfl) ((fun _ => getO_of) a126.1)) fun _ _ => (ok_of o_gt)))))) fun c129 => (br_tail (lst_v (tv_c (d := eB false)) (tb_rt fun ρ H => ⟨rfl, trivial⟩)) (tb_nx fun ρ H => ⟨ρ, .inl rfl, Wk.ag (.k (.k (.k (.k (.k (.f trivial (.f trivial (.f trivial (.k (.k (.f trivial (.k (.k (.k (.f trivial (.f trivial .nil)))))))))))))))) H⟩)))))))))))))))))))) fun s130 => (lst_v (tv_c (d := eB true)) (tb_rt fun ρ H => rfl)))))))))))))))))
end K01
/-! K01d: what is drawn. -/
namespace K01
open PySem PySem.Spec PyProof.Rows L2 DL TL BK

def Dg (d : Int) : Prop := 0 ≤ d ∧ d < 1000
/-- draws: digits below 1000, not too many -/
def Dn (n : Nat) (ds : List Int) : Prop := (∀ d ∈ ds, Dg d) ∧ ds.length ≤ n
abbrev Dr (ds : List Int) : Prop := Dn 10000 ds
theorem dg_mod (a : Int) : Dg (a % 1000) := ⟨Int.emod_nonneg _ (by decide), Int.emod_lt_of_pos _ (by decide)⟩
theorem d_next {n : Nat} {ds : List Int} (h : Dn n ds) : Ok (t__law_next ds) fun r => Dg r.1 ∧ Dn n r.2 := by
  unfold t__law_next
  refine ok_if (fun he => ?_) fun he => ok_ok ⟨⟨Int.le_refl 0, (by decide : (0 : Int) < 1000)⟩, h⟩
  have hne : ds ≠ [] := by
    intro e
    subst e
    simp at he
  refine ok_bnd2 (P := fun a s => Dg a ∧ Dn n s) ?_ fun a s hs => ok_ok hs
  unfold popT
  rw [List.getLast?_eq_getLast hne]
  exact ok_ok ⟨h.1 _ (List.getLast_mem hne), fun d hd => h.1 d ((List.dropLast_subset ds) hd), by rw [List.length_dropLast]; have := h.2; omega⟩
theorem d_number (c : Int) : ∃ r, t__law_number c = .ok r := by
  unfold t__law_number
  split
  · exact ⟨_, rfl⟩
  · exact ⟨_, rfl⟩
theorem dn_app {n m : Nat} {xs ys : List Int} (h : Dn n xs) (g : Dn m ys) : Dn (n + m) (xs ++ ys) := ⟨fun d hd => (List.mem_append.mp hd).elim (h.1 d) (g.1 d), by rw [List.length_append]; have := h.2; have := g.2; omega⟩
theorem dn_mono {n m : Nat} {xs : List Int} (h : Dn n xs) (hm : n ≤ m) : Dn m xs := ⟨h.1, Nat.le_trans h.2 hm⟩
theorem dn_one (a : Int) : Dn 1 [a % 1000] := ⟨fun d hd => by rw [List.mem_singleton.mp hd]; exact dg_mod a, Nat.le_refl _⟩
theorem d_draws {script : List Int} (hl : script.length ≤ 63) : Ok (t__law_draws script) (Dn 3780) := by
  unfold t__law_draws
  refine ok_bind (P := Dn 3780) ?_ fun s hs => ok_ok ⟨fun d hd => hs.1 d (List.mem_reverse.mp hd), by rw [List.length_reverse]; exact hs.2⟩
  have := ok_forR (f := fun (x5 : Int) (s6 : ((List Int))) =>
    (((t__law_number x5)).bind fun rest7 => if (decide (1000000000000000000 ≤ rest7)) = true then bndTO (forF (fun (x8 : Int) (s9 : ((List Int) × Int)) =>
    (if (decide (s9.2 = 0)) = true then .ok (TO.bk (s9.1, s9.2)) else
  Gd (s9.1.length < sizeLine) (.ok (TO.nx ((s9.1 ++ [(s9.2 % 1000)]), (s9.2 / 1000)))) : Rs (TO ((List Int)) ((List Int) × Int)))) (rng 0 60) (s6, rest7)) fun s10 =>
  .ok s10.1 else Gd (s6.length + [(rest7 % 1000), ((((rest7 * 48271) + 11) % 2147483647) % 1000), (((((((rest7 * 48271) + 11) % 2147483647) * 69621) + rest7) % 2147483629) % 1000)].length ≤ sizeLine) (.ok (s6 ++ [(rest7 % 1000), ((((rest7 * 48271) + 11) % 2147483647) % 1000), (((((((rest7 * 48271) + 11) % 2147483647) * 69621) + rest7) % 2147483629) % 1000)])) : Rs ((List Int))))
    (I := fun k s => Dn (60 * k) s) (xs := script) (s := []) (k := 0) ⟨fun d hd => by simp at hd, by simp⟩ fun i x s hx hs => ?_
  · exact this.imp fun s h => dn_mono h (by omega)
  · have hi := (List.getElem?_eq_some_iff.mp hx).1
    obtain ⟨r, hr⟩ := d_number x
    refine ok_bind (P := fun _ => True) (Ok.of hr trivial) fun rest _ => ok_if (fun _ => ?_) fun _ => ?_
    · refine ok_bndTO (P := fun (s : List Int × Int) => Dn (60 * (0 + i + 1)) s.1) ?_ fun s h => ok_ok h
      refine ok_forF (I := fun k (s : List Int × Int) => Dn (60 * (0 + i) + k) s.1) (J := fun (s : List Int × Int) => Dn (60 * (0 + i + 1)) s.1) (k := 0) hs (fun s h => dn_mono h (by rw [show (rng 0 60).length = 60 from rng_len 0 60]; omega)) fun m y s hy h => ?_
      refine ok_if (fun _ => ok_ok ?_) fun _ => ?_
      · have hm := (List.getElem?_eq_some_iff.mp hy).1
        rw [rng_len] at hm
        exact dn_mono h (by have : m < 60 := hm; omega)
      · have := h.2
        have hm := (List.getElem?_eq_some_iff.mp hy).1
        rw [rng_len] at hm
        have hm : m < 60 := hm
        exact ok_gd (szl (by omega)) (ok_ok (dn_mono (dn_app h (dn_one _)) (by omega)))
    · have := hs.2
      refine ok_gd (sz (by simp; omega)) (ok_ok (dn_mono (dn_app hs (m := 3) ⟨fun d hd => ?_, by simp⟩) (by omega)))
      simp only [List.mem_cons, List.not_mem_nil, or_false] at hd
      rcases hd with rfl | rfl | rfl <;> exact dg_mod _
theorem d_more {ds : List Int} {m : Nat} (h : Dn 3780 ds) (hm : m ≤ 6000) : Ok (t__law_more ds (m : Int)) fun r => Dr r.1 := by
  unfold t__law_more
  refine ok_bnd2 (P := fun _ s => Dn 3780 s) (ok_mapS (ok_bnd2 (P := fun _ s => Dn 3780 s) (ok_mapS ((d_next h).imp fun r x => x.2)) fun a s hs => ok_bnd2 (P := fun _ s => Dn 3780 s) ((d_next hs).imp fun r x => x.2) fun b s hs => ok_withS (ok_ok hs))) fun seed s hs => ?_
  refine ok_bind (P := fun xs => xs = rng 0 (m : Int)) (ok_gd (rgk (by decide) (by omega)) (ok_ok rfl)) fun xs hxs => ?_
  subst hxs
  refine ok_bind (P := fun r => Dn m r.2) ?_ fun r hr => ?_
  · have := ok_forR (f := fun (x11 : Int) (s12 : (Int × (List Int))) =>
      (Gd (s12.2.length < sizeLine) (.ok ((((s12.1 * 48271) + 12345) % 2147483647), (s12.2 ++ [(((((s12.1 * 48271) + 12345) % 2147483647) / 7) % 1000)]))) : Rs (Int × (List Int))))
      (I := fun k s => Dn k s.2) (xs := rng 0 (m : Int)) (s := (seed, [])) (k := 0) ⟨fun d hd => by simp at hd, by simp⟩ fun i x s hx h => ?_
    · exact this.imp fun r hr => dn_mono hr (by rw [rng_len]; omega)
    · have hi := (List.getElem?_eq_some_iff.mp hx).1
      rw [rng_len] at hi
      have := h.2
      exact ok_gd (szl (by omega)) (ok_ok (dn_app h (dn_one _)))
  · refine ok_bind (P := fun r => Dr r) (ok_gd (sz (by have := hr.2; have := hs.2; omega)) (ok_ok (dn_mono (dn_app hr hs) (by omega)))) fun r h => ok_ok h
/-! ### small expressions -/
theorem d_mod {ds : List Int} {k : Int} (hk : 0 < k) (h : Dr ds) : Ok (mapS (fun a => (a % k)) (t__law_next ds)) fun r => (0 ≤ r.1 ∧ r.1 < k) ∧ Dr r.2 := ok_mapS ((d_next h).imp fun r x => ⟨⟨Int.emod_nonneg _ (by omega), Int.emod_lt_of_pos _ hk⟩, x.2⟩)
theorem d_modG {ds : List Int} {k : Int} (hk : 0 < k) (h : Dr ds) : Ok (bnd2 (t__law_next ds) fun a s => withS s (Gd (0 < k) (.ok (a % k)))) fun r => (0 ≤ r.1 ∧ r.1 < k) ∧ Dr r.2 :=
  ok_bnd2 (P := fun _ s => Dr s) ((d_next h).imp fun r x => x.2) fun a s hs => ok_withS (ok_gd hk (ok_ok ⟨⟨Int.emod_nonneg _ (by omega), Int.emod_lt_of_pos _ hk⟩, hs⟩))
/-- channels below top + 1 -/
def ChT (top : Int) (l : List Int) : Prop := l ≠ [] ∧ l.Pairwise (· < ·) ∧ ∀ c ∈ l, 0 ≤ c ∧ c ≤ top
theorem ChT.ch {top : Int} {l : List Int} (h : ChT top l) (ht : top ≤ 7) : Ch l := ⟨h.1, h.2.1, fun c hc => ⟨(h.2.2 c hc).1, by have := (h.2.2 c hc).2; omega⟩⟩
theorem d_list {ds : List Int} {top : Int} (h : Dr ds) (h0 : 0 ≤ top) (h7 : top ≤ 1000) : Ok (t__law_list ds top) fun r => ChT top r.1 ∧ Dr r.2 := by
  unfold t__law_list
  refine ok_bnd2 (P := fun l s => l.Sublist (rng 0 (top + 1)) ∧ Dr s) ?_ fun l s hl => ?_
  · refine ok_mapS (ok_bind (P := fun xs => xs = rng 0 (top + 1)) (ok_gd (rgk (by decide) (by omega)) (ok_ok rfl)) fun xs hxs => ?_)
    subst hxs
    have := ok_compTS (f := fun x1 s2 => tstS (mapS (fun a6 => (decide (0 < a6))) (mapS (fun a4 => (a4 % 3)) ((t__law_next s2)))) fun s7 => .ok (x1, s7)) (I := Dr) (g := fun x : Int => x) (xs := rng 0 (top + 1)) h fun x _ s hs =>
      ok_tstS (I := Dr) (P := fun y => y = x) (ok_mapS ((d_mod (by decide) hs).imp fun r x => x.2)) fun s hs => ok_ok ⟨rfl, hs⟩
    rw [List.map_id'] at this
    exact this
  · refine ok_bnd2 (P := fun l s => ChT top l ∧ Dr s) ?_ fun a s hs => ok_ok hs
    refine ok_if (fun he => ok_ok ⟨⟨?_, (rng_asc 0 (top + 1)).sublist hl.1, fun c hc => ?_⟩, hl.2⟩) fun _ => ok_mapS ((d_modG (by omega) hl.2).imp fun r x => ⟨⟨by simp, by simp, fun c hc => ?_⟩, x.2⟩)
    · intro e
      subst e
      simp at he
    · have := mem_rng.mp (hl.1.subset hc)
      omega
    · rw [List.mem_singleton.mp hc]
      omega
theorem d_distances {ds : List Int} {top : Int} (h : Dr ds) (h0 : 1 ≤ top) (h7 : top ≤ 7) : Ok (t__law_distances ds top) fun r => Ch r.1 ∧ Dr r.2 := by
  unfold t__law_distances
  refine ok_bnd2 (P := fun _ s => Dr s) ((d_mod (by decide) h).imp fun r x => x.2) fun kind s hs => ok_if (fun _ => ok_ok ⟨⟨by simp, by simp, fun c hc => ?_⟩, hs⟩) fun _ => ok_bnd2 (P := fun l s => Ch l ∧ Dr s) (ok_if (fun _ => ok_ok ⟨⟨by simp, by simp, fun c hc => ?_⟩, hs⟩) fun _ => (d_list hs (by omega) (by omega)).imp fun r x => ⟨x.1.ch h7, x.2⟩) fun a s hs => ok_ok hs
  · rw [List.mem_singleton.mp hc]; decide
  · simp only [List.mem_cons, List.not_mem_nil, or_false] at hc
    rcases hc with rfl | rfl <;> decide
theorem d_some {ds : List Int} {m : Nat} (h : Dr ds) (hm : m ≤ 8) : Ok (t__law_some ds (m : Int)) fun r => (∃ sts : List Nat, r.1 = sts.map (fun (n : Nat) => (n : Int)) ∧ sts.Pairwise (· < ·) ∧ ∀ s ∈ sts, s < m) ∧ Dr r.2 := by
  unfold t__law_some
  refine ok_bnd2 (P := fun l s => l.Sublist (rng 0 (m : Int)) ∧ Dr s) (ok_mapS (ok_bind (P := fun xs => xs = rng 0 (m : Int)) (ok_gd (rgk (by decide) (by omega)) (ok_ok rfl)) fun xs hxs => ?_)) fun l s hl => ok_ok ⟨?_, hl.2⟩
  · subst hxs
    have := ok_compTS (f := fun x1 s2 => tstS (mapS (fun a6 => (decide (0 < a6))) (mapS (fun a4 => (a4 % 4)) ((t__law_next s2)))) fun s7 => .ok (x1, s7)) (I := Dr) (g := fun x : Int => x) (xs := rng 0 (m : Int)) h fun x _ s hs =>
      ok_tstS (I := Dr) (P := fun y => y = x) (ok_mapS ((d_mod (by decide) hs).imp fun r x => x.2)) fun s hs => ok_ok ⟨rfl, hs⟩
    rw [List.map_id'] at this
    exact this
  · have h1 := hl.1
    rw [rng0] at h1
    obtain ⟨sts, h2, h3⟩ := List.sublist_map_iff.mp h1
    exact ⟨sts, h3, List.pairwise_lt_range.sublist h2, fun s hs => List.mem_range.mp (h2.subset hs)⟩
end K01
/-! K01e: the book that is drawn. -/
namespace K01
open PySem PySem.Spec PyProof.Rows L2 DL TL BK

theorem rng_get {lo hi x : Int} {i : Nat} (h : (rng lo hi)[i]? = some x) : x = lo + (i : Int) ∧ x < hi := by
  have hl := (List.getElem?_eq_some_iff.mp h).1
  rw [rng_len] at hl
  unfold rng at h
  rw [List.getElem?_map, List.getElem?_range hl] at h
  cases h
  constructor
  · rfl
  · show lo + (i : Int) < hi
    omega
theorem rng_at {lo hi : Int} {i : Nat} (h : lo + (i : Int) < hi) : (rng lo hi)[i]? = some (lo + (i : Int)) := by
  unfold rng
  rw [List.getElem?_map, List.getElem?_range (by omega)]
  rfl
abbrev CT := Int × Int × List Int
def tB (b : Bk) : List (List Int) × List CT × List CT := (b.ls, b.cl.map fun c => ((c.1 : Int), (c.2.1 : Int), c.2.2), b.su.map fun s => ((s.1 : Int), s.2.1, s.2.2))
theorem enc_tB (b : Bk) : eP3 (eT (eT eI)) (eT (eP3 eI eI (eT eI))) (eT (eP3 eI eI (eT eI))) (tB b) = encB b := by
  show PyData.tuple [.tuple _, .tuple _, .tuple _] = _
  unfold tB encB
  simp only [List.map_map]
  rfl
def cOk (m : Nat) (c : CT) : Prop := 0 ≤ c.1 ∧ c.1 < c.2.1 ∧ c.2.1 < m ∧ Ch c.2.2
def cLt (c d : CT) : Prop := c.1 < d.1 ∨ (c.1 = d.1 ∧ c.2.1 < d.2.1)
def sOk (m : Nat) (s : CT) : Prop := 0 ≤ s.1 ∧ s.1 < m ∧ 0 ≤ s.2.1 ∧ s.2.1 ≤ 999 ∧ s.2.2.length = m ∧ s.2.2[s.1.toNat]? = some 0 ∧ ∀ g ∈ s.2.2, 0 ≤ g ∧ g ≤ 999
structure VT (L : List (List Int)) (C S : List CT) : Prop where
  n1 : 1 ≤ L.length
  n8 : L.length ≤ 8
  l : ∀ l ∈ L, Ch l
  c : ∀ c ∈ C, cOk L.length c
  ca : C.Pairwise cLt
  s : ∀ s ∈ S, sOk L.length s
  sa : S.Pairwise fun s t => s.1 < t.1
theorem map_id_of {α : Type} {f : α → α} : ∀ {l : List α}, (∀ a ∈ l, f a = a) → l.map f = l
  | [], _ => rfl
  | a :: l, h => by rw [List.map_cons, h a List.mem_cons_self, map_id_of fun x hx => h x (List.mem_cons_of_mem _ hx)]
theorem mkB {L : List (List Int)} {C S : List CT} (h : VT L C S) : ∃ b : Bk, (L, C, S) = tB b ∧ Vb b := by
  refine ⟨⟨L, C.map fun c => (c.1.toNat, c.2.1.toNat, c.2.2), S.map fun s => (s.1.toNat, s.2.1, s.2.2)⟩, ?_, ⟨h.n1, h.n8, h.l, fun c hc => ?_, ?_, fun s hs => ?_, ?_⟩⟩
  · unfold tB
    simp only [List.map_map]
    rw [map_id_of fun c hc => ?_, map_id_of fun s hs => ?_]
    · have := h.s s hs
      show ((s.1.toNat : Int), s.2.1, s.2.2) = s
      rw [Int.toNat_of_nonneg this.1]
    · have := h.c c hc
      unfold cOk at this
      have h2 : 0 ≤ c.2.1 := by omega
      show ((c.1.toNat : Int), (c.2.1.toNat : Int), c.2.2) = c
      rw [Int.toNat_of_nonneg this.1, Int.toNat_of_nonneg h2]
  · obtain ⟨d, hd, rfl⟩ := List.mem_map.mp hc
    obtain ⟨h1, h2, h3, h4⟩ := h.c d hd
    exact ⟨by show d.1.toNat < d.2.1.toNat; omega, by show d.2.1.toNat < L.length; omega, h4⟩
  · refine List.pairwise_map.mpr (h.ca.imp_of_mem fun {a b} ha hb hab => ?_)
    have h1 := h.c a ha
    have h2 := h.c b hb
    unfold cOk at h1 h2
    unfold cLt at hab
    show a.1.toNat < b.1.toNat ∨ (a.1.toNat = b.1.toNat ∧ a.2.1.toNat < b.2.1.toNat)
    omega
  · obtain ⟨d, hd, rfl⟩ := List.mem_map.mp hs
    obtain ⟨h1, h2, h3, h4, h5, h6, h7⟩ := h.s d hd
    exact ⟨by show d.1.toNat < L.length; omega, h3, h4, h5, h6, h7⟩
  · refine List.pairwise_map.mpr (h.sa.imp_of_mem fun {a b} ha hb hab => ?_)
    have h1 := h.s a ha
    have h2 := h.s b hb
    unfold sOk at h1 h2
    show a.1.toNat < b.1.toNat
    omega
theorem pw_snoc {α : Type} {r : α → α → Prop} {l : List α} {x : α} (h : l.Pairwise r) (hx : ∀ y ∈ l, r y x) : (l ++ [x]).Pairwise r := List.pairwise_append.mpr ⟨h, by simp, fun y hy z hz => by rw [List.mem_singleton.mp hz]; exact hx y hy⟩
theorem d_book {ds : List Int} (h : Dr ds) {mo : Nat} (hmo : 1 ≤ mo ∧ mo ≤ 8) : Ok (t__law_book ds (mo : Int)) fun r => (∃ b, r.1 = tB b ∧ Vb b ∧ L4 b ∧ b.ls.length ≤ mo ∧ ∀ s ∈ b.su, s.2.1 ≤ 5) ∧ Dr r.2 := by
  unfold t__law_book
  refine ok_bnd2 (P := fun m s => (∃ n : Nat, m = (n : Int) ∧ 1 ≤ n ∧ n ≤ mo) ∧ Dr s) (ok_mapS ((d_modG (by omega) h).imp fun r x => ⟨⟨(1 + r.1).toNat, by have := x.1; omega, by have := x.1; omega, by have := x.1; omega⟩, x.2⟩)) fun many s5 hm => ?_
  obtain ⟨⟨m, rfl, hm1, hm5⟩, h5⟩ := hm
  refine ok_bnd2 (P := fun t s => (1 ≤ t ∧ t ≤ 3) ∧ Dr s) (ok_mapS ((d_mod (by decide) h5).imp fun r x => ⟨by have := x.1; omega, x.2⟩)) fun top s10 ht => ?_
  obtain ⟨⟨ht1, ht3⟩, h10⟩ := ht
  refine ok_bnd2 (P := fun _ s => Dr s) (ok_mapS ((d_mod (by decide) h10).imp fun r x => x.2)) fun same s16 h16 => ?_
  have hr : Ok (Gd (rgOk 0 (m : Int) = true) (.ok (rng 0 (m : Int)))) fun xs => xs = rng 0 (m : Int) := ok_gd (rgk (by decide) (by omega)) (ok_ok rfl)
  refine ok_bnd2 (P := fun L s => (L.length = m ∧ ∀ l ∈ L, ChT top l) ∧ Dr s) (ok_bind hr fun xs hxs => ?_) fun L s21 hL => ?_
  · subst hxs
    refine (ok_mapTS (I := Dr) (P := fun _ l => ChT top l) h16 fun x _ s hs => ok_if (fun _ => ok_withS (ok_gd (by omega) (ok_ok ⟨⟨fun e => ?_, rng_asc _ _, fun c hc => ?_⟩, hs⟩))) fun _ => d_list hs (by omega) (by omega)).imp fun r hr => ⟨⟨by rw [hr.1.1, rng_len]; omega, fun l hl => ?_⟩, hr.2⟩
    · have e2 : rng 0 (top + 1) = [] := e
      have := congrArg List.length e2
      rw [rng_len, List.length_nil] at this
      omega
    · have := mem_rng.mp hc
      omega
    · obtain ⟨i, hi⟩ := List.getElem?_of_mem hl
      have hlt := (List.getElem?_eq_some_iff.mp hi).1
      rw [hr.1.1] at hlt
      exact hr.1.2 i _ l (List.getElem?_eq_getElem hlt) hi
  obtain ⟨⟨hLm, hLc⟩, h21⟩ := hL
  refine ok_bind hr fun xs hxs => ?_
  subst hxs
  -- the clashes
  refine ok_bind (P := fun s => Dr s.1 ∧ (∀ c ∈ s.2, cOk m c) ∧ s.2.Pairwise cLt) ?_ fun s73 h73 => ?_
  · refine (ok_forR (I := fun k (s : List Int × List CT) => Dr s.1 ∧ s.2.length ≤ 8 * k ∧ (∀ c ∈ s.2, cOk m c ∧ c.1 < (k : Int)) ∧ s.2.Pairwise cLt) (k := 0) ⟨h21, by simp, by simp, by simp⟩ fun i x s hx hs => ?_).imp fun s hs => ⟨hs.1, fun c hc => (hs.2.2.1 c hc).1, hs.2.2.2⟩
    rw [Nat.zero_add] at hs ⊢
    have hil := (List.getElem?_eq_some_iff.mp hx).1
    rw [rng_len] at hil
    obtain ⟨rfl, hxm⟩ := rng_get hx
    refine ok_bind (P := fun xs => xs = rng (0 + (i : Int) + 1) (m : Int)) (ok_gd (rgk (by omega) (by omega)) (ok_ok rfl)) fun ys hys => ?_
    subst hys
    refine ok_bind (P := fun (s : List Int × List CT) => Dr s.1 ∧ s.2.length ≤ 8 * (i + 1) ∧ (∀ c ∈ s.2, cOk m c ∧ c.1 < ((i + 1 : Nat) : Int)) ∧ s.2.Pairwise cLt) ?_ fun s h => ok_ok h
    refine (ok_forR (I := fun k (s : List Int × List CT) => Dr s.1 ∧ s.2.length ≤ 8 * i + k ∧ (∀ c ∈ s.2, cOk m c ∧ (c.1 < (i : Int) ∨ c.1 = (i : Int) ∧ c.2.1 < (i : Int) + 1 + (k : Int))) ∧ s.2.Pairwise cLt) (k := 0) ⟨hs.1, by have := hs.2.1; show s.2.length ≤ _; omega, fun c hc => ⟨(hs.2.2.1 c hc).1, .inl (hs.2.2.1 c hc).2⟩, hs.2.2.2⟩ fun j y s' hy hs' => ?_).imp fun s' hs' => ⟨hs'.1, ?_, fun c hc => ⟨(hs'.2.2.1 c hc).1, ?_⟩, hs'.2.2.2⟩
    · rw [Nat.zero_add] at hs' ⊢
      obtain ⟨rfl, hym⟩ := rng_get hy
      refine ok_bnd2 (P := fun _ s => Dr s) (ok_mapS ((d_mod (by decide) hs'.1).imp fun r x => x.2)) fun c66 s67 h67 => ok_if (fun _ => ?_) fun _ => ok_ok ⟨h67, by have := hs'.2.1; show s'.2.length ≤ _; omega, fun c hc => ⟨(hs'.2.2.1 c hc).1, ?_⟩, hs'.2.2.2⟩
      · refine ok_bnd2 (P := fun (c : CT) s => (c.1 = (i : Int) ∧ c.2.1 = (i : Int) + 1 + (j : Int) ∧ Ch c.2.2) ∧ Dr s) (ok_mapS ?_) fun c s71 hc => ?_
        · refine (ok_if (P := fun r => Ch r.1 ∧ Dr r.2) (fun _ => ok_ok ⟨⟨by simp, by simp, fun c hc => by rw [List.mem_singleton.mp hc]; decide⟩, h67⟩) fun _ => d_distances h67 (by omega) (by omega)).imp fun r hr => ⟨⟨by show (0 : Int) + (i : Int) = _; omega, by show (0 : Int) + (i : Int) + 1 + (j : Int) = _; omega, hr.1⟩, hr.2⟩
        · obtain ⟨⟨c1, c2, c3⟩, hd⟩ := hc
          refine ok_gd (szl (by have := hs'.2.1; omega)) (ok_ok ⟨hd, by rw [List.length_append, List.length_singleton]; have := hs'.2.1; omega, fun d hd => ?_, pw_snoc hs'.2.2.2 fun d hd => ?_⟩)
          · rcases List.mem_append.mp hd with hd | hd
            · have := (hs'.2.2.1 d hd).2
              exact ⟨(hs'.2.2.1 d hd).1, by omega⟩
            · rw [List.mem_singleton.mp hd]
              refine ⟨⟨by omega, by omega, by omega, c3⟩, by omega⟩
          · have := (hs'.2.2.1 d hd).2
            unfold cLt
            omega
      · have := (hs'.2.2.1 c hc).2
        omega
    · have := hs'.2.1
      rw [rng_len] at this
      omega
    · have := (hs'.2.2.1 c hc).2
      omega
  -- the sums
  obtain ⟨hd73, hc73, hp73⟩ := h73
  refine ok_bind hr fun xs hxs => ?_
  subst hxs
  refine ok_bind (P := fun s => Dr s.1 ∧ (∀ c ∈ s.2, sOk m c ∧ c.2.1 ≤ 5) ∧ s.2.Pairwise fun s t => s.1 < t.1) ?_ fun s123 h123 => ?_
  · refine (ok_forR (I := fun k (s : List Int × List CT) => Dr s.1 ∧ s.2.length ≤ k ∧ (∀ c ∈ s.2, (sOk m c ∧ c.2.1 ≤ 5) ∧ c.1 < (k : Int)) ∧ s.2.Pairwise fun s t => s.1 < t.1) (k := 0) (s := (s73.1, [])) ⟨hd73, by simp, by simp, by simp⟩ fun i x s hx hs => ?_).imp fun s hs => ⟨hs.1, fun c hc => (hs.2.2.1 c hc).1, hs.2.2.2⟩
    rw [Nat.zero_add] at hs ⊢
    have hil := (List.getElem?_eq_some_iff.mp hx).1
    rw [rng_len] at hil
    obtain ⟨rfl, hxm⟩ := rng_get hx
    refine ok_bnd2 (P := fun _ s => Dr s) (ok_bnd2 (P := fun _ s => Dr s) (ok_ok hs.1) fun b s hs => ok_if (fun _ => ok_mapS ((d_mod (by decide) hs).imp fun r x => x.2)) fun _ => ok_ok hs) fun c s107 h107 => ok_if (fun _ => ?_) fun _ => ok_ok ⟨h107, by have := hs.2.1; show s.2.length ≤ _; omega, fun c hc => ⟨(hs.2.2.1 c hc).1, by have := (hs.2.2.1 c hc).2; omega⟩, hs.2.2.2⟩
    refine ok_bnd2 (P := fun (g : List Int) s => (g.length = m ∧ g[i]? = some 0 ∧ ∀ y ∈ g, 0 ≤ y ∧ y ≤ 4) ∧ Dr s) (ok_mapS (ok_bind hr fun xs hxs => ?_)) fun g s116 hg => ?_
    · subst hxs
      refine Ok.imp (ok_mapTS (I := Dr) (P := fun z y => (0 ≤ y ∧ y ≤ 4) ∧ (z = (0 : Int) + (i : Int) → y = 0)) h107 fun z _ s hs => ok_if (fun _ => ok_ok ⟨⟨⟨Int.le_refl 0, (by decide : (0 : Int) ≤ 4)⟩, fun _ => rfl⟩, hs⟩) fun hz => ok_mapS ((d_next hs).imp fun r x => ⟨⟨⟨Int.emod_nonneg _ (by decide), ?_⟩, fun e => absurd e (of_decide_eq_false hz)⟩, x.2⟩)) fun r hr => ⟨⟨by rw [hr.1.1, rng_len]; omega, ?_, fun y hy => ?_⟩, hr.2⟩
      · have := Int.emod_lt_of_pos r.1 (show (0 : Int) < 5 by decide)
        show r.1 % 5 ≤ 4
        omega
      · have hlt : i < r.1.length := by rw [hr.1.1, rng_len]; omega
        have := (hr.1.2 i _ _ hx (List.getElem?_eq_getElem hlt)).2 rfl
        rw [List.getElem?_eq_getElem hlt, this]
      · obtain ⟨k, hk⟩ := List.getElem?_of_mem hy
        have hlt := (List.getElem?_eq_some_iff.mp hk).1
        rw [hr.1.1] at hlt
        exact (hr.1.2 k _ y (List.getElem?_eq_getElem hlt) hk).1
    · obtain ⟨⟨g1, g2, g3⟩, hd⟩ := hg
      refine ok_bnd2 (P := fun (c : CT) s => (c.1 = (i : Int) ∧ 0 ≤ c.2.1 ∧ c.2.1 ≤ 5 ∧ c.2.2 = g) ∧ Dr s) (ok_mapS ((d_mod (by decide) hd).imp fun r x => ⟨⟨by show (0 : Int) + (i : Int) = _; omega, x.1.1, by have := x.1.2; show r.1 ≤ 5; omega, rfl⟩, x.2⟩)) fun c s122 hc => ?_
      obtain ⟨⟨c1, c2, c3, c4⟩, hd2⟩ := hc
      refine ok_gd (szl (by have := hs.2.1; omega)) (ok_ok ⟨hd2, by rw [List.length_append, List.length_singleton]; have := hs.2.1; omega, fun d hd => ?_, pw_snoc hs.2.2.2 fun d hd => ?_⟩)
      · rcases List.mem_append.mp hd with hd | hd
        · have := (hs.2.2.1 d hd).2
          exact ⟨(hs.2.2.1 d hd).1, by omega⟩
        · rw [List.mem_singleton.mp hd]
          refine ⟨⟨⟨by omega, by omega, c2, by omega, by rw [c4]; exact g1, by rw [c4, c1]; simpa using g2, fun y hy => ?_⟩, c3⟩, by omega⟩
          rw [c4] at hy
          have := g3 y hy
          omega
      · have := (hs.2.2.1 d hd).2
        show d.1 < c.1
        omega
  · obtain ⟨b, e, hb⟩ := mkB (L := L) (C := s73.2) (S := s123.2) ⟨by omega, by omega, fun l hl => (hLc l hl).ch (by omega), fun c hc => by rw [hLm]; exact hc73 c hc, hp73, fun c hc => by rw [hLm]; exact (h123.2.1 c hc).1, h123.2.2⟩
    have hbl : b.ls = L := (congrArg Prod.fst e).symm
    have hsu : s123.2 = b.su.map fun s => ((s.1 : Int), s.2.1, s.2.2) := congrArg (fun x => x.2.2) e
    refine ok_ok ⟨⟨b, e, hb, fun l hl => ?_, by rw [hbl]; omega, fun s hs => (h123.2.1 ((s.1 : Int), s.2.1, s.2.2) (by rw [hsu]; exact List.mem_map.mpr ⟨s, hs, rfl⟩)).2⟩, h123.1⟩
    rw [hbl] at hl
    have hc := hLc l hl
    have := asc_len (n := 4) (k := 0) hc.2.1 (fun c hx => ⟨(hc.2.2 c hx).1, by have := (hc.2.2 c hx).2; omega⟩) (by decide)
    omega
end K01
/-! K01f: a looser book. -/
namespace K01
open PySem PySem.Spec PyProof.Rows L2 DL TL BK

theorem cut_l {α : Type} {xs : List α} (n : Nat) : cutL xs none (some (n : Int)) = xs.take n := cutL_to xs n
theorem cut_r {α : Type} {xs : List α} (n : Nat) : cutL xs (some ((n : Int) + 1)) none = xs.drop (n + 1) := cutL_from xs (n + 1)
def lessC (b : Bk) (n : Nat) : Bk := ⟨b.ls, b.cl.take n ++ b.cl.drop (n + 1), b.su⟩
def lessS (b : Bk) (n : Nat) : Bk := ⟨b.ls, b.cl, b.su.take n ++ b.su.drop (n + 1)⟩
theorem cut_sub {α : Type} (xs : List α) (n : Nat) : (xs.take n ++ xs.drop (n + 1)).Sublist xs := by
  have h : xs.take n ++ xs.drop n = xs := List.take_append_drop n xs
  conv => rhs; rw [← h]
  refine List.Sublist.append_left ?_ _
  rw [← List.drop_drop]
  exact List.drop_sublist 1 _
theorem Vb.lessC {b : Bk} (h : Vb b) (n : Nat) : Vb (lessC b n) := ⟨h.n1, h.n8, h.l, fun c hc => h.c c ((cut_sub b.cl n).subset hc), h.ca.sublist (cut_sub b.cl n), h.s, h.sa⟩
theorem Vb.lessS {b : Bk} (h : Vb b) (n : Nat) : Vb (lessS b n) := ⟨h.n1, h.n8, h.l, h.c, h.ca, fun c hc => h.s c ((cut_sub b.su n).subset hc), h.sa.sublist (cut_sub b.su n)⟩
theorem loose_C (b : Bk) (n : Nat) : Loose b (lessC b n) := ⟨rfl, fun s c h => h, fun p h => ⟨h.1, fun c hc => h.2.1 c ((cut_sub b.cl n).subset hc), h.2.2⟩⟩
theorem loose_S (b : Bk) (n : Nat) : Loose b (lessS b n) := ⟨rfl, fun s c h => h, fun p h => ⟨h.1, h.2.1, fun c hc => h.2.2 c ((cut_sub b.su n).subset hc)⟩⟩
/-- a limit greater -/
def moreS (b : Bk) (n : Nat) (s : Nat × Int × List Int) (l : Int) : Bk := ⟨b.ls, b.cl, b.su.take n ++ (s.1, l, s.2.2) :: b.su.drop (n + 1)⟩
theorem split_at {α : Type} {xs : List α} {n : Nat} {x : α} (h : xs[n]? = some x) : xs = xs.take n ++ x :: xs.drop (n + 1) := by
  obtain ⟨hl, rfl⟩ := List.getElem?_eq_some_iff.mp h
  rw [← List.drop_eq_getElem_cons hl, List.take_append_drop]
theorem Vb.moreS {b : Bk} (h : Vb b) {n : Nat} {s : Nat × Int × List Int} (hs : b.su[n]? = some s) {l : Int} (h0 : 0 ≤ l) (h9 : l ≤ 999) : Vb (moreS b n s l) := by
  have e := split_at hs
  refine ⟨h.n1, h.n8, h.l, h.c, h.ca, fun r hr => ?_, ?_⟩
  · rcases List.mem_append.mp hr with hr | hr
    · exact h.s r (by rw [e]; exact List.mem_append_left _ hr)
    · rcases List.mem_cons.mp hr with rfl | hr
      · have := h.s s (List.mem_of_getElem? hs)
        exact ⟨this.1, h0, h9, this.2.2.2⟩
      · exact h.s r (by rw [e]; exact List.mem_append_right _ (List.mem_cons_of_mem _ hr))
  · have p := h.sa
    rw [e] at p
    obtain ⟨p1, p2, p3⟩ := List.pairwise_append.mp p
    obtain ⟨p4, p5⟩ := List.pairwise_cons.mp p2
    refine List.pairwise_append.mpr ⟨p1, List.pairwise_cons.mpr ⟨p4, p5⟩, fun x hx y hy => ?_⟩
    rcases List.mem_cons.mp hy with rfl | hy
    · exact p3 x hx s List.mem_cons_self
    · exact p3 x hx y (List.mem_cons_of_mem _ hy)
theorem loose_more {b : Bk} {n : Nat} {s : Nat × Int × List Int} (hs : b.su[n]? = some s) {l : Int} (hl : s.2.1 ≤ l) : Loose b (moreS b n s l) := ⟨rfl, fun s c h => h, fun p h => ⟨h.1, h.2.1, fun r hr => by
  have e := split_at hs
  rcases List.mem_append.mp hr with hr | hr
  · exact h.2.2 r (by rw [e]; exact List.mem_append_left _ hr)
  · rcases List.mem_cons.mp hr with rfl | hr
    · exact fun hn => Int.le_trans (h.2.2 s (List.mem_of_getElem? hs) hn) hl
    · exact h.2.2 r (by rw [e]; exact List.mem_append_right _ (List.mem_cons_of_mem _ hr))⟩⟩
/-- a list longer -/
def longL (b : Bk) (n : Nat) (l : List Int) : Bk := ⟨b.ls.set n l, b.cl, b.su⟩
theorem vb_long {b : Bk} (h : Vb b) (n : Nat) {l : List Int} (hl : Ch l) : Vb (longL b n l) := by
  have e : (longL b n l).ls.length = b.ls.length := List.length_set
  refine ⟨by rw [e]; exact h.n1, by rw [e]; exact h.n8, fun x hx => ?_, fun c hc => by rw [e]; exact h.c c hc, h.ca, fun c hc => by rw [e]; exact h.s c hc, h.sa⟩
  rcases List.mem_or_eq_of_mem_set hx with hx | rfl
  · exact h.l x hx
  · exact hl
theorem loose_L {b : Bk} {n : Nat} {l : List Int} (hs : ∀ c ∈ lst b n, c ∈ l) : Loose b (longL b n l) := by
  have sub : ∀ s, ∀ c ∈ lst b s, c ∈ lst (longL b n l) s := fun s c hc => by
    have hc0 := hc
    unfold lst at hc ⊢
    unfold longL
    rw [List.getD_eq_getElem?_getD] at hc ⊢
    rw [List.getElem?_set]
    split
    · rename_i h
      subst h
      split
      · exact hs c hc0
      · rename_i h2
        rw [List.getElem?_eq_none (by omega)] at hc
        simp at hc
    · exact hc
  exact ⟨List.length_set, sub, fun p h => ⟨fun i hi hn => sub i _ (h.1 i hi hn), h.2⟩⟩
theorem at_ix {α : Type} {xs : List α} (hx : xs ≠ []) {n : Int} (h : 0 ≤ n ∧ n < (xs.length : Int)) : ∃ k : Nat, n = (k : Int) ∧ k < xs.length := ⟨n.toNat, by omega, by omega⟩
theorem tB_C (b : Bk) (n : Nat) : (b.ls, (tB b).2.1.take n ++ (tB b).2.1.drop (n + 1), (tB b).2.2) = tB (lessC b n) := by
  unfold tB lessC
  simp only [List.map_append, List.map_take, List.map_drop]
theorem tB_S (b : Bk) (n : Nat) : (b.ls, (tB b).2.1, (tB b).2.2.take n ++ (tB b).2.2.drop (n + 1)) = tB (lessS b n) := by
  unfold tB lessS
  simp only [List.map_append, List.map_take, List.map_drop]
theorem tB_M (b : Bk) (n : Nat) (s : Nat × Int × List Int) (l : Int) : (b.ls, (tB b).2.1, (tB b).2.2.take n ++ [((s.1 : Int), l, s.2.2)] ++ (tB b).2.2.drop (n + 1)) = tB (moreS b n s l) := by
  unfold tB moreS
  simp only [List.map_append, List.map_take, List.map_drop, List.map_cons, List.append_assoc, List.singleton_append]
theorem d_looser {ds : List Int} (h : Dr ds) {b : Bk} (hb : Vb b) (h5 : ∀ s ∈ b.su, s.2.1 ≤ 5) : Ok (t__law_looser ds (tB b)) fun r => (∃ b', r.1 = tB b' ∧ Vb b' ∧ Loose b b') ∧ Dr r.2 := by
  have c64 := hb.cl_len
  have s8 := hb.su_len
  have n8 := hb.n8
  have n1 := hb.n1
  have lc : (tB b).2.1.length = b.cl.length := by unfold tB; simp
  have ls : (tB b).2.2.length = b.su.length := by unfold tB; simp
  unfold t__law_looser
  refine ok_bnd2 (P := fun _ s => Dr s) ((d_mod (by decide) h).imp fun r x => x.2) fun kind s hs => ok_if (fun hk => ?_) fun _ => ok_if (fun hk => ?_) fun _ => ok_if (fun hk => ?_) fun _ => ?_
  · have hne : 0 < (tB b).2.1.length := by
      rw [Bool.and_eq_true] at hk
      cases e : (tB b).2.1 with
      | nil => rw [e] at hk; simp at hk
      | cons _ _ => simp
    refine ok_bnd2 (P := fun n s => (∃ k : Nat, n = (k : Int)) ∧ Dr s) ((d_modG (by omega) hs).imp fun r x => ⟨⟨r.1.toNat, by have := x.1; omega⟩, x.2⟩) fun n s hn => ?_
    obtain ⟨⟨k, rfl⟩, hd⟩ := hn
    rw [cut_l, cut_r]
    refine ok_bind (P := fun x => x = tB (lessC b k)) (ok_bind (P := fun x => x = (tB b).2.1.take k ++ (tB b).2.1.drop (k + 1)) (ok_gd (sz (by rw [List.length_take, List.length_drop]; omega)) (ok_ok rfl)) fun x hx => ok_ok (by rw [hx]; exact tB_C b k)) fun x hx => ok_ok ⟨⟨_, hx, hb.lessC k, loose_C b k⟩, hd⟩
  · have hne : 0 < (tB b).2.2.length := by
      rw [Bool.and_eq_true] at hk
      cases e : (tB b).2.2 with
      | nil => rw [e] at hk; simp at hk
      | cons _ _ => simp
    refine ok_bnd2 (P := fun n s => (∃ k : Nat, n = (k : Int)) ∧ Dr s) ((d_modG (by omega) hs).imp fun r x => ⟨⟨r.1.toNat, by have := x.1; omega⟩, x.2⟩) fun n s hn => ?_
    obtain ⟨⟨k, rfl⟩, hd⟩ := hn
    rw [cut_l, cut_r]
    refine ok_bind (P := fun x => x = tB (lessS b k)) (ok_bind (P := fun x => x = (tB b).2.2.take k ++ (tB b).2.2.drop (k + 1)) (ok_gd (sz (by rw [List.length_take, List.length_drop]; omega)) (ok_ok rfl)) fun x hx => ok_ok (by rw [hx]; exact tB_S b k)) fun x hx => ok_ok ⟨⟨_, hx, hb.lessS k, loose_S b k⟩, hd⟩
  · have hne : 0 < (tB b).2.2.length := by
      rw [Bool.and_eq_true] at hk
      cases e : (tB b).2.2 with
      | nil => rw [e] at hk; simp at hk
      | cons _ _ => simp
    refine ok_bnd2 (P := fun n s => (∃ k : Nat, n = (k : Int) ∧ k < b.su.length) ∧ Dr s) ((d_modG (by omega) hs).imp fun r x => ⟨⟨r.1.toNat, by have := x.1; omega, by have := x.1; omega⟩, x.2⟩) fun n s hn => ?_
    obtain ⟨⟨k, rfl, hkl⟩, hd⟩ := hn
    obtain ⟨u, hu⟩ : ∃ u, b.su[k]? = some u := ⟨_, List.getElem?_eq_getElem hkl⟩
    have hm := List.mem_of_getElem? hu
    have hv := hb.s u hm
    have hv5 := h5 u hm
    rw [ixT_nat, cut_l, cut_r]
    have eu : (tB b).2.2[k]? = some ((u.1 : Int), u.2.1, u.2.2) := by unfold tB; simp [hu]
    rw [eu, Rs.of_some, Rs.bind_ok]
    refine ok_bnd2 (P := fun x s => (∃ l, u.2.1 ≤ l ∧ l ≤ 999 ∧ x = tB (moreS b k u l)) ∧ Dr s) (ok_mapS (ok_bnd2 (P := fun x s => (∃ l, u.2.1 ≤ l ∧ l ≤ 999 ∧ x = (tB b).2.2.take k ++ [((u.1 : Int), l, u.2.2)]) ∧ Dr s) (ok_bnd2 (P := fun x s => (∃ l, u.2.1 ≤ l ∧ l ≤ 999 ∧ x = [((u.1 : Int), l, u.2.2)]) ∧ Dr s) (ok_mapS (ok_mapS (ok_mapS ((d_mod (by decide) hd).imp fun r x => ⟨⟨u.2.1 + 1 + r.1, by have := x.1; omega, by have := x.1; omega, rfl⟩, x.2⟩)))) fun x s hx => ok_withS ?_) fun x s hx => ok_withS ?_)) fun x s hx => ?_
    · obtain ⟨⟨l, l1, l2, rfl⟩, hd⟩ := hx
      exact ok_gd (sz (by rw [List.length_take, List.length_singleton]; omega)) (ok_ok ⟨⟨l, l1, l2, rfl⟩, hd⟩)
    · obtain ⟨⟨l, l1, l2, rfl⟩, hd⟩ := hx
      exact ok_gd (sz (by rw [List.length_append, List.length_take, List.length_singleton, List.length_drop]; omega)) (ok_ok ⟨⟨l, l1, l2, tB_M b k u l⟩, hd⟩)
    · obtain ⟨⟨l, l1, l2, rfl⟩, hd⟩ := hx
      exact ok_ok ⟨⟨_, rfl, hb.moreS hu (by omega) l2, loose_more hu l1⟩, hd⟩
  · refine ok_bnd2 (P := fun n s => (∃ k : Nat, n = (k : Int) ∧ k < b.ls.length) ∧ Dr s) ((d_modG (by show (0 : Int) < (b.ls.length : Int); omega) hs).imp fun r x => ⟨⟨r.1.toNat, by have := x.1; omega, by have := x.1.2; have := x.1.1; have : r.1 < (b.ls.length : Int) := x.1.2; omega⟩, x.2⟩) fun n s hn => ?_
    obtain ⟨⟨k, rfl, hkl⟩, hd⟩ := hn
    have el : (tB b).1[k]? = some (lst b k) := by
      unfold lst tB
      rw [List.getD_eq_getElem?_getD, List.getElem?_eq_getElem hkl]
      rfl
    have hc := hb.l _ (lst_mem hkl)
    rw [ixT_nat, cut_l, cut_r, el]
    refine ok_bnd2 (P := fun l s => (Ch l ∧ ∀ c ∈ lst b k, c ∈ l) ∧ Dr s) (ok_mapS (ok_bnd2 (P := fun xs s => (∃ x, 0 ≤ x ∧ x ≤ 4 ∧ xs = lst b k ++ [x]) ∧ Dr s) (ok_bnd2 (P := fun xs s => xs = lst b k ∧ Dr s) (ok_withS (ok_ok ⟨rfl, hd⟩)) fun xs s hx => ok_bnd2 (P := fun ys s => (∃ x, 0 ≤ x ∧ x ≤ 4 ∧ ys = [x]) ∧ Dr s) (ok_mapS ((d_mod (by decide) hx.2).imp fun r y => ⟨⟨r.1, y.1.1, by have := y.1.2; omega, rfl⟩, y.2⟩)) fun ys s hy => ok_withS ?_) fun xs s hx => ok_withS ?_)) fun l s hl => ?_
    · obtain ⟨⟨x, x0, x4, rfl⟩, hd⟩ := hy
      refine ok_gd (sz (by rw [hx.1, List.length_singleton]; have := hc.len; omega)) (ok_ok ⟨⟨x, x0, x4, by rw [hx.1]⟩, hd⟩)
    · obtain ⟨⟨x, x0, x4, rfl⟩, hd⟩ := hx
      have nd := dedI_nd (lst b k ++ [x])
      have mem : ∀ c, c ∈ srtI (dedI (lst b k ++ [x])) ↔ c ∈ lst b k ∨ c = x := fun c => by rw [(srtI_perm _).mem_iff, dedI_mem]; simp
      refine ok_gd (by rw [List.length_append, List.length_singleton]; have := hc.len; omega) (ok_ok ⟨⟨⟨fun e => ?_, lt_of_le_nodup _ (srtI_pw _) ((srtI_perm _).nodup_iff.mpr nd), fun c hm => ?_⟩, fun c hm => (mem c).mpr (.inl hm)⟩, hd⟩)
      · have := (mem x).mpr (.inr rfl)
        rw [show srtI (dedI (lst b k ++ [x])) = [] from e] at this
        cases this
      · rcases (mem c).mp hm with hm | rfl
        · exact hc.2.2 c hm
        · omega
    · refine ok_bind (P := fun x => x = tB (longL b k l)) (ok_bind (P := fun xs => xs = b.ls.take k ++ l :: b.ls.drop (k + 1)) (ok_bind (P := fun xs => xs = b.ls.take k ++ [l]) (ok_gd (sz (by show (b.ls.take k).length + [l].length ≤ _; rw [List.length_take, List.length_singleton]; omega)) (ok_ok rfl)) fun xs hx => ok_gd (sz ?_) (ok_ok ?_)) fun xs hx => ok_ok ?_) fun x hx => ok_ok ⟨⟨_, hx, vb_long hb k hl.1.1, loose_L hl.1.2⟩, hl.2⟩
      · rw [hx, List.length_append, List.length_take, List.length_singleton]
        show _ + (b.ls.drop (k + 1)).length ≤ _
        rw [List.length_drop]
        omega
      · rw [hx]
        show b.ls.take k ++ [l] ++ b.ls.drop (k + 1) = _
        simp
      · rw [hx, set_cut b.ls k l hkl]
        rfl
end K01
/-! K01g: the packings that the law finds; the law. -/
namespace K01
open PySem PySem.Spec PyProof.Rows L2 DL TL BK

theorem forR_map {α β S : Type} {f : β → S → Rs S} {g : α → β} : ∀ (xs : List α) (s : S), forR f (xs.map g) s = forR (fun x => f (g x)) xs s
  | [], _ => rfl
  | x :: xs, s => by
    rw [List.map_cons]
    unfold forR
    cases f (g x) s with
    | ok a => exact forR_map xs a
    | xc n as => rfl
    | bad => rfl
theorem inj_rows : Inj (eL (eT eI)) := (qL (qT qI)).inj
theorem eLD (ds : List D) : eL eD ds = .list ds := by
  show PyData.list (ds.map fun d => d) = _
  rw [List.map_id']
theorem g_faults {b : Bk} {p : List Int} (h : Vb b) (hp : p.length = b.ls.length) (hn : ∀ i, -1 ≤ ch p i) : t__law_faults (tB b) p = .ok (fl b p) := by
  unfold t__law_faults
  refine relF_ok (injL injD) ?_
  rw [eLD, enc_tB]
  exact e_law_faults h hp hn
theorem eq_nilD {b : Bk} {p : List Int} : eqR ((eL eD) (fl b p)) ((eL eD) ([] : List D)) = .ok (decide (right b p)) := by
  rw [eLD, eLD]
  unfold eqR
  rw [fl_sh, sh_nil]
  show Rs.ok (PyData.eqv _ _) = _
  rw [PyData.eqv, eqv_nil, fl_nil]
def Pw (n : Nat) (p : List Int) : Prop := p.length = n ∧ ∀ i, -1 ≤ ch p i
theorem Pw.set {n : Nat} {p : List Int} (h : Pw n p) {s : Nat} {c : Int} (hs : s < n) (hc : 0 ≤ c) : Pw n (p.set s c) := ⟨by rw [List.length_set]; exact h.1, fun i => by
  rw [ch_set (by rw [h.1]; exact hs)]
  split
  · omega
  · exact h.2 i⟩
theorem Pw.kids {b : Bk} (hb : Vb b) {n s : Nat} (hs : s < n) {rows : List (List Int)} (h : ∀ p ∈ rows, Pw n p) : ∀ p ∈ kids b s rows, Pw n p := fun o ho => by
  obtain ⟨_, p, hp, c, hc, rfl⟩ := kids_mem ho
  exact (h p hp).set hs (by
    have hsl : s < b.ls.length := by
      refine Classical.byContradiction fun z => ?_
      unfold lst at hc
      rw [List.getD_eq_getElem?_getD, List.getElem?_eq_none (by omega)] at hc
      cases hc
    exact ((hb.l _ (lst_mem hsl)).2.2 c hc).1)
theorem lp_in {b : Bk} (h : Vb b) {p : List Int} (hp : Pw b.ls.length p) {s : Nat} (hs : s < b.ls.length) : ∀ (cs : List Int) (acc : List (List Int)), (∀ c ∈ cs, 0 ≤ c) → acc.length + cs.length ≤ 1000000 → forR (fun (x51 : Int) (s52 : ((List (List Int)))) =>
    (((Gd ((cutL p (none : Option Int) (some (s : Int))).length + [x51].length ≤ sizeLine) (.ok ((cutL p (none : Option Int) (some (s : Int))) ++ [x51]))).bind fun a53 => Gd (a53.length + (cutL p (some ((s : Int) + 1)) (none : Option Int)).length ≤ sizeLine) (.ok (a53 ++ (cutL p (some ((s : Int) + 1)) (none : Option Int))))).bind fun other54 => (((t__law_faults (tB b) other54)).bind fun a55 => eqR ((eL eD) a55) ((eL eD) ([] : (List D)))).bind fun c56 => if c56 = true then Gd (s52.length < sizeLine) (.ok (s52 ++ [other54])) else .ok s52 : Rs ((List (List Int))))) cs acc = .ok (acc ++ cs.filterMap (kid b s p))
  | [], acc, _, _ => by simp [forR]
  | c :: cs, acc, hc, hl => by
    have n8 := h.n8
    have hp1 := hp.1
    have hsp := hp.set hs (hc c List.mem_cons_self)
    have e : p.take s ++ [c] ++ p.drop (s + 1) = p.set s c := by rw [List.append_assoc, List.singleton_append]; exact set_cut p s c (by omega)
    unfold forR
    rw [cut_l, cut_r, Gd_pos (sz (by rw [List.length_take, List.length_singleton]; omega)), Rs.bind_ok, Gd_pos (sz (by rw [List.length_append, List.length_take, List.length_singleton, List.length_drop]; omega)), Rs.bind_ok, e, g_faults h hsp.1 hsp.2, Rs.bind_ok, eq_nilD, Rs.bind_ok, List.filterMap_cons]
    unfold kid
    rw [List.length_cons] at hl
    by_cases hr : right b (p.set s c)
    · rw [decide_eq_true hr, if_pos rfl, Gd_pos (szl (by omega)), Rs.bind_ok, if_pos hr]
      have := lp_in h hp hs cs (acc ++ [p.set s c]) (fun x hx => hc x (List.mem_cons_of_mem _ hx)) (by rw [List.length_append, List.length_singleton]; omega)
      rw [cut_l, cut_r] at this
      rw [this, List.append_assoc]
      rfl
    · rw [decide_eq_false hr, if_neg (by simp), Rs.bind_ok, if_neg hr]
      have := lp_in h hp hs cs acc (fun x hx => hc x (List.mem_cons_of_mem _ hx)) (by omega)
      rw [cut_l, cut_r] at this
      exact this
theorem fold_kids (b : Bk) (s : Nat) (rows acc : List (List Int)) : rows.foldl (fun a p => a ++ (lst b s).filterMap (kid b s p)) acc = acc ++ kids b s rows := kids_fold b s rows acc
theorem ixT_lst {b : Bk} {s : Nat} (hs : s < b.ls.length) : ixT (tB b).1 (s : Int) = .ok (lst b s) := by
  rw [ixT_nat]
  unfold lst tB
  rw [List.getD_eq_getElem?_getD, List.getElem?_eq_getElem hs]
  rfl
theorem lp_all {b : Bk} (h : Vb b) (h4 : L4 b) {sts : List Nat} (hs : Vs b sts) (h5 : sts.length ≤ 5) : t__law_packings (tB b) (sts.map fun (n : Nat) => (n : Int)) = .ok (srtT (R b sts (sil b.ls.length))) := by
  have n1 := h.n1
  have n8 := h.n8
  have hlen : ((tB b).1.length : Int) = (b.ls.length : Int) := rfl
  unfold t__law_packings
  rw [hlen, Gd_pos ⟨by omega, by omega, by simp, by simp⟩, Rs.bind_ok, Rs.bind_ok, forR_map]
  have hrep : rep [(-1 : Int)] (b.ls.length : Int) = sil b.ls.length := by
    unfold rep sil
    rw [Int.toNat_natCast]
    generalize b.ls.length = m
    induction m with
    | zero => rfl
    | succ m ih => rw [List.replicate_succ, List.flatten_cons, ih, List.replicate_succ]; rfl
  rw [hrep]
  have hnn : ∀ s, ∀ c ∈ lst b s, 0 ≤ c := fun s c hc => by
    by_cases hsl : s < b.ls.length
    · exact ((h.l _ (lst_mem hsl)).2.2 c hc).1
    · unfold lst at hc
      rw [List.getD_eq_getElem?_getD, List.getElem?_eq_none (by omega)] at hc
      cases hc
  have key : ∀ (ss : List Nat) (rows : List (List Int)), (∀ s ∈ ss, s < b.ls.length) → (∀ p ∈ rows, Pw b.ls.length p) → rows.length * 4 ^ ss.length ≤ 1024 → forR (fun (x : Nat) (s31 : ((List (List Int)))) =>
    ((forR (fun (x44 : (List Int)) (s45 : ((List (List Int)))) =>
    (((ixT (tB b).1 (x : Int)).bind fun a => .ok a).bind fun xs46 => (forR (fun (x51 : Int) (s52 : ((List (List Int)))) =>
    (((Gd ((cutL x44 (none : Option Int) (some (x : Int))).length + [x51].length ≤ sizeLine) (.ok ((cutL x44 (none : Option Int) (some (x : Int))) ++ [x51]))).bind fun a53 => Gd (a53.length + (cutL x44 (some ((x : Int) + 1)) (none : Option Int)).length ≤ sizeLine) (.ok (a53 ++ (cutL x44 (some ((x : Int) + 1)) (none : Option Int))))).bind fun other54 => (((t__law_faults (tB b) other54)).bind fun a55 => eqR ((eL eD) a55) ((eL eD) ([] : (List D)))).bind fun c56 => if c56 = true then Gd (s52.length < sizeLine) (.ok (s52 ++ [other54])) else .ok s52 : Rs ((List (List Int))))) xs46 s45).bind fun s57 =>
  .ok s57 : Rs ((List (List Int))))) s31 ([] : (List (List Int)))).bind fun s58 =>
  .ok s58 : Rs ((List (List Int))))) ss rows = .ok (LR b ss rows) := fun ss => by
    induction ss with
    | nil => exact fun rows _ _ _ => rfl
    | cons s ss ih =>
      intro rows hss hrows hl
      have hsl := hss s List.mem_cons_self
      rw [List.length_cons, Nat.pow_succ] at hl
      have hr1 : rows.length ≤ 1024 := by
        have := Nat.pow_pos (n := ss.length) (show 0 < 4 by decide)
        have : rows.length * 1 ≤ rows.length * (4 ^ ss.length * 4) := Nat.mul_le_mul_left _ (by omega)
        omega
      have mid : ∀ (rs acc : List (List Int)), (∀ p ∈ rs, Pw b.ls.length p) → acc.length + 4 * rs.length ≤ 100000 → forR (fun (x44 : (List Int)) (s45 : ((List (List Int)))) =>
          (((ixT (tB b).1 (s : Int)).bind fun a => .ok a).bind fun xs46 => (forR (fun (x51 : Int) (s52 : ((List (List Int)))) =>
          (((Gd ((cutL x44 (none : Option Int) (some (s : Int))).length + [x51].length ≤ sizeLine) (.ok ((cutL x44 (none : Option Int) (some (s : Int))) ++ [x51]))).bind fun a53 => Gd (a53.length + (cutL x44 (some ((s : Int) + 1)) (none : Option Int)).length ≤ sizeLine) (.ok (a53 ++ (cutL x44 (some ((s : Int) + 1)) (none : Option Int))))).bind fun other54 => (((t__law_faults (tB b) other54)).bind fun a55 => eqR ((eL eD) a55) ((eL eD) ([] : (List D)))).bind fun c56 => if c56 = true then Gd (s52.length < sizeLine) (.ok (s52 ++ [other54])) else .ok s52 : Rs ((List (List Int))))) xs46 s45).bind fun s57 =>
          .ok s57 : Rs ((List (List Int))))) rs acc = .ok (acc ++ kids b s rs) := fun rs => by
        induction rs with
        | nil => exact fun acc _ _ => by simp [forR, kids]
        | cons p rs ih2 =>
          intro acc hrs hacc
          have l4 := lst4 h4 s
          rw [List.length_cons] at hacc
          have e1 := lp_in h (hrs p List.mem_cons_self) hsl (lst b s) acc (hnn s) (by omega)
          have fl := List.length_filterMap_le (kid b s p) (lst b s)
          have e2 := ih2 (acc ++ (lst b s).filterMap (kid b s p)) (fun q hq => hrs q (List.mem_cons_of_mem _ hq)) (by rw [List.length_append]; omega)
          rw [ixT_lst hsl] at e2 ⊢
          unfold forR
          simp only [Rs.bind_ok] at e2 ⊢
          rw [e1]
          simp only [Rs.bind_ok]
          rw [e2, List.append_assoc]
          rfl
      have e3 := mid rows [] hrows (by simp; omega)
      unfold forR
      rw [e3, List.nil_append, Rs.bind_ok, Rs.bind_ok]
      refine ih (kids b s rows) (fun t ht => hss t (List.mem_cons_of_mem _ ht)) (Pw.kids h hsl hrows) ?_
      have := Nat.mul_le_mul_right (4 ^ ss.length) (kids_len (rows := rows) (lst4 h4 s))
      have e : 4 * rows.length * 4 ^ ss.length = rows.length * (4 ^ ss.length * 4) := by rw [Nat.mul_comm 4, Nat.mul_assoc, Nat.mul_comm 4]
      omega
  have h1 := key sts [sil b.ls.length] hs.2 (fun p hp => by rw [List.mem_singleton.mp hp]; exact ⟨by simp [sil], fun i => by rw [ch_sil]; decide⟩) (by
    rw [List.length_singleton, Nat.one_mul]
    exact pow4 h5)
  rw [h1, Rs.bind_ok]
  have hR : LR b sts [sil b.ls.length] = R b sts (sil b.ls.length) := by
    rw [LR_eq h.pos (m := b.ls.length) hs.stn, List.flatMap_singleton]
    intro p hp
    rw [List.mem_singleton.mp hp]
    exact ⟨by simp [sil], fun s _ => ch_sil, right_sil fun i => ch_sil⟩
  have hne : ∀ p ∈ R b sts (sil b.ls.length), p ≠ [] := fun p hp e => by
    have := E_len (List.mem_filter.mp hp).1
    rw [e] at this
    simp [sil] at this
    omega
  rw [hR, Gd_pos hne, Rs.bind_ok]
end K01
/-! K01h: the law, as plain Lean. -/
namespace K01
open PySem PySem.Spec PyProof.Rows L2 DL TL BK

abbrev iN (sts : List Nat) : List Int := sts.map fun (n : Nat) => (n : Int)
theorem inj_bk : Inj (eP3 (eT (eT eI)) (eT (eP3 eI eI (eT eI))) (eT (eP3 eI eI (eT eI)))) := injP3 (injT (injT injI)) (injT (injP3 injI injI (injT injI))) (injT (injP3 injI injI (injT injI)))
abbrev Rw (b : Bk) (sts : List Nat) : List (List Int) := R b sts (sil b.ls.length)
theorem g_packable {b : Bk} (h : Vb b) {sts : List Nat} (hs : Vs b sts) (h5 : sts.length ≤ 5) : t_is_packable (tB b) (iN sts) = .ok (decide (Rw b sts ≠ [])) := by
  unfold t_is_packable
  refine relF_ok qB.inj ?_
  rw [enc_tB]
  exact e_is_packable h hs h5
theorem g_packings {b : Bk} (h : Vb b) (h4 : L4 b) {sts : List Nat} (hs : Vs b sts) (h5 : sts.length ≤ 5) : t_packings (tB b) (iN sts) = .ok (srtT (Rw b sts)) := by
  unfold t_packings
  refine relF_ok inj_rows ?_
  rw [enc_tB]
  exact e_packings h h4 hs h5
theorem g_part {b : Bk} (h : Vb b) (h4 : L4 b) {sts : List Nat} (hs : Vs b sts) (hne : sts ≠ []) (h5 : sts.length ≤ 5) : t_packings (tB (BK.part b sts)) (iN (List.range sts.length)) = .ok ((srtT (Rw b sts)).map (proj sts)) := by
  unfold t_packings
  refine relF_ok inj_rows ?_
  rw [enc_tB]
  exact e_part_packings h h4 hs hne h5
theorem g_with {b : Bk} (h : Vb b) {sts : List Nat} (hs : Vs b sts) (hne : sts ≠ []) (h8 : sts.length ≤ 8) : t_with_stations (tB b) (iN sts) = .ok (tB (BK.part b sts)) := by
  unfold t_with_stations
  refine relF_ok inj_bk ?_
  rw [enc_tB, enc_tB]
  exact e_with h hs hne h8
theorem optI_eO (o : Option Int) : optI o = eO eI o := by cases o <;> rfl
theorem g_least {b : Bk} (h : Vb b) {sts : List Nat} (hs : Vs b sts) (h5 : sts.length ≤ 5) : ∃ bd, Band b bd ∧ t_least_band (tB b) (iN sts) = .ok (lb b bd sts) := by
  obtain ⟨bd, h1, h2⟩ := e_least_band h hs h5
  refine ⟨bd, h1, ?_⟩
  unfold t_least_band
  refine relF_ok (qO qI nnI).inj ?_
  rw [enc_tB, ← optI_eO]
  exact h2
theorem g_right {b : Bk} {p : List Int} (h : Vb b) (hp : Vp b p) : t_is_right (tB b) p = .ok (decide (right b p)) := by
  unfold t_is_right
  refine relF_ok qB.inj ?_
  rw [enc_tB]
  exact e_is_right h hp
theorem g_silenced {b : Bk} {p : List Int} {s : Nat} (h : Vb b) (hp : Vp b p) (hs : s < b.ls.length) : t_silenced (tB b) p (s : Int) = .ok (p.set s (-1)) := by
  unfold t_silenced
  refine relF_ok (qT qI).inj ?_
  rw [enc_tB]
  exact e_silenced h hp hs
/-! ### rows that may be shown -/
def Gr (rows : List (List Int)) : Prop := rows.length ≤ 1024 ∧ ∀ p ∈ rows, p.length ≤ 8 ∧ ∀ c ∈ p, smI c
theorem repr_rows {rows : List (List Int)} (h : Gr rows) : ∃ s, reprT ((eL (eT eI)) rows) = .ok s ∧ TL.sOk s = true := ⟨_, repr_e (qL (qT qI)) (by decide) (rpL 1024 (rpT 8 rpI)) (by decide) rfl h⟩
theorem LR_len {b : Bk} (h4 : L4 b) : ∀ (sts : List Nat) (rows : List (List Int)), (LR b sts rows).length ≤ rows.length * 4 ^ sts.length
  | [], rows => by simp [LR]
  | s :: ss, rows => by
    have h1 := LR_len h4 ss (kids b s rows)
    have h2 := Nat.mul_le_mul_right (4 ^ ss.length) (kids_len (rows := rows) (lst4 h4 s))
    have e : 4 * rows.length * 4 ^ ss.length = rows.length * (4 ^ ss.length * 4) := by rw [Nat.mul_comm 4, Nat.mul_assoc, Nat.mul_comm 4]
    rw [List.length_cons, Nat.pow_succ]
    show (LR b ss (kids b s rows)).length ≤ _
    omega
theorem R_len {b : Bk} (h : Vb b) (h4 : L4 b) {sts : List Nat} (hs : Vs b sts) (h5 : sts.length ≤ 5) : (Rw b sts).length ≤ 1024 := by
  have e : LR b sts [sil b.ls.length] = Rw b sts := by
    rw [LR_eq h.pos (m := b.ls.length) hs.stn, List.flatMap_singleton]
    intro p hp
    rw [List.mem_singleton.mp hp]
    exact ⟨by simp [sil], fun s _ => ch_sil, right_sil fun i => ch_sil⟩
  rw [← e]
  refine Nat.le_trans (LR_len h4 sts _) ?_
  rw [List.length_singleton, Nat.one_mul]
  exact pow4 h5
theorem R_plan {b : Bk} (h : Vb b) {sts : List Nat} (hs : Vs b sts) {p : List Int} (hp : p ∈ Rw b sts) : Vp b p ∧ right b p := by
  obtain ⟨h1, h2⟩ := List.mem_filter.mp hp
  obtain ⟨h3, h4, h5⟩ := (E_mem (by simpa [sil] using hs.stn)).mp h1
  have hl : p.length = b.ls.length := by simpa [sil] using h3
  refine ⟨⟨hl, fun c hc => ?_⟩, by simpa using h2⟩
  obtain ⟨i, hi, rfl⟩ := List.getElem_of_mem hc
  rw [← ch_lt hi]
  by_cases hm : i ∈ sts
  · have := (h.l _ (lst_mem (hs.2 i hm))).2.2 _ (h5 i hm)
    omega
  · rw [h4 i hm, ch_sil]
    decide
theorem gr_R {b : Bk} (h : Vb b) (h4 : L4 b) {sts : List Nat} (hs : Vs b sts) (h5 : sts.length ≤ 5) : Gr (srtT (Rw b sts)) := ⟨by rw [(srtT_perm _).length_eq]; exact R_len h h4 hs h5, fun p hp => by
  have := (R_plan h hs ((srtT_perm _).mem_iff.mp hp)).1
  refine ⟨by rw [this.1]; exact h.n8, fun c hc => ?_⟩
  have := this.2 c hc
  unfold smI
  omega⟩
theorem gr_proj {b : Bk} (h : Vb b) (h4 : L4 b) {sts : List Nat} (hs : Vs b sts) (h5 : sts.length ≤ 5) : Gr ((srtT (Rw b sts)).map (proj sts)) := ⟨by rw [List.length_map, (srtT_perm _).length_eq]; exact R_len h h4 hs h5, fun p hp => by
  obtain ⟨q, hq, rfl⟩ := List.mem_map.mp hp
  have := (R_plan h hs ((srtT_perm _).mem_iff.mp hq)).1
  refine ⟨by unfold proj; rw [List.length_map]; omega, fun c hc => ?_⟩
  obtain ⟨s, hs', rfl⟩ := List.mem_map.mp hc
  have hl : s < q.length := by rw [this.1]; exact hs.2 s hs'
  rw [ch_lt hl]
  have := this.2 _ (List.getElem_mem hl)
  unfold smI
  omega⟩
/-! ### the known book -/
def b0 : Bk := ⟨[[0], [0], [0, 1]], [(0, 1, [0])], []⟩
theorem vb0 : Vb b0 := ⟨by decide, by decide, by unfold b0 Ch; decide, by unfold b0 Ch; decide, by unfold b0; decide, by unfold b0; decide, by unfold b0; decide⟩
theorem l40 : L4 b0 := by unfold L4 b0; decide
theorem tb0 : tB b0 = ([[0], [0], [0, 1]], [(0, 1, [0])], ([] : (List (Int × Int × (List Int))))) := rfl
theorem ok_ne {x y : Rs Str} {s : Str} (hx : x = .ok s) (hy : y = .ok s) (hs : TL.sOk s = true) : (x.bind fun a => y.bind fun b => neR (eS a) (eS b)) = .ok false := by
  rw [hx, hy]
  exact (eqS_same hs).2
theorem t_law_ok (ns : List Int) (hl : ns.length ≤ 63) : Ok (t_law ns) fun r => r = true := by
  unfold t_law
  refine ok_bind (d_draws hl) fun draws hdr => ?_
  refine ok_bnd2 (P := fun ds _ => Dr ds) (d_more (m := 90) hdr (by decide)) fun ds s3 hds => ?_
  -- the known book
  have k1 : t_is_packable ([[0], [0], [0, 1]], [(0, 1, [0])], ([] : (List (Int × Int × (List Int))))) [0, 2] = .ok true := by
    rw [← tb0, show ([0, 2] : List Int) = iN [0, 2] from rfl, g_packable vb0 (by unfold Vs b0; decide) (by decide)]
    exact congrArg Rs.ok (by decide +kernel)
  have k2 : t_is_packable ([[0], [0], [0, 1]], [(0, 1, [0])], ([] : (List (Int × Int × (List Int))))) [0, 1] = .ok false := by
    rw [← tb0, show ([0, 1] : List Int) = iN [0, 1] from rfl, g_packable vb0 (by unfold Vs b0; decide) (by decide)]
    exact congrArg Rs.ok (by decide +kernel)
  have k3 : t_packings ([[0], [0], [0, 1]], [(0, 1, [0])], ([] : (List (Int × Int × (List Int))))) [1, 2] = .ok [[(-1), 0, 0], [(-1), 0, 1]] := by
    rw [← tb0, show ([1, 2] : List Int) = iN [1, 2] from rfl, g_packings vb0 l40 (by unfold Vs b0; decide) (by decide)]
    exact congrArg Rs.ok (by decide +kernel)
  obtain ⟨s0, hr0, hs0⟩ := repr_rows (rows := [[(-1), 0, 0], [(-1), 0, 1]]) ⟨by decide, by unfold smI; decide⟩
  have hk : (((t_packings ([[0], [0], [0, 1]], [(0, 1, [0])], ([] : (List (Int × Int × (List Int))))) [1, 2]).bind fun a6 => reprT ((eL (eT eI)) a6)).bind fun a7 => (reprT ((eL (eT eI)) [[(-1), 0, 0], [(-1), 0, 1]])).bind fun a8 => neR (eS a7) (eS a8)) = .ok false := ok_ne (by rw [k3]; exact hr0) hr0 hs0
  rw [k1, k2, hk]
  simp only [Rs.bind_ok, decide_true, Bool.not_true, if_false, Bool.false_eq_true]
  -- the book
  refine ok_bnd2 (P := fun bk s => (∃ b, bk = tB b ∧ Vb b ∧ L4 b ∧ b.ls.length ≤ 5 ∧ ∀ s ∈ b.su, s.2.1 ≤ 5) ∧ Dr s) (d_book hds (mo := 5) ⟨by decide, by decide⟩) fun bk s13 hb => ?_
  obtain ⟨⟨b, rfl, hb, h4, hb5, hsu⟩, h13⟩ := hb
  have n1 := hb.n1
  have hlen : ((tB b).1.length : Int) = (b.ls.length : Int) := rfl
  rw [hlen]
  refine ok_bndTO (P := Dr) (ok_forF' (I := Dr) h13 fun turn _ s72 h72 => ?_) fun s _ => ok_ok rfl
  refine ok_bnd2 (P := fun st s => (∃ sts, st = iN sts ∧ Vs b sts ∧ sts.length ≤ 5) ∧ Dr s) ((d_some (m := b.ls.length) h72 (by omega)).imp fun r hr => ⟨?_, hr.2⟩) fun st s74 hst => ?_
  · obtain ⟨⟨sts, e, h1, h2⟩, _⟩ := hr
    refine ⟨sts, e, ⟨h1, h2⟩, ?_⟩
    have := asc_len (n := (b.ls.length : Int)) (k := 0) (l := iN sts) (List.pairwise_map.mpr (h1.imp fun {a b} x => by omega)) (fun c hc => by
      obtain ⟨s, hs, rfl⟩ := List.mem_map.mp hc
      have := h2 s hs
      omega) (by omega)
    rw [List.length_map] at this
    omega
  obtain ⟨⟨sts, rfl, hs, h5⟩, h74⟩ := hst
  obtain ⟨sr, hr, hsr⟩ := repr_rows (gr_R hb h4 hs h5)
  rw [g_packings hb h4 hs h5, Rs.bind_ok]
  have hc1 : ((reprT ((eL (eT eI)) (srtT (Rw b sts)))).bind fun a77 => (((t__law_packings (tB b) (iN sts))).bind fun a76 => reprT ((eL (eT eI)) a76)).bind fun a78 => neR (eS a77) (eS a78)) = .ok false := ok_ne hr (by rw [lp_all hb h4 hs h5]; exact hr) hsr
  rw [hc1, Rs.bind_ok, if_neg (by simp)]
  -- the part
  refine ok_bndTO (P := fun _ => True) (ok_if (fun he => ?_) fun _ => ok_ok trivial) fun _ _ => ?_
  · have hne : sts ≠ [] := by
      intro e
      subst e
      simp at he
    rw [g_with hb hs hne (by omega), Rs.bind_ok]
    obtain ⟨sp, hp, hsp⟩ := repr_rows (gr_proj hb h4 hs h5)
    have el : ((iN sts).length : Int) = ((sts.length : Nat) : Int) := by rw [List.length_map]
    have e1 : ((((Gd ((((iN sts).length : Int)).natAbs ≤ 16777216) (.ok (rng 0 ((iN sts).length : Int)))).bind fun a81 => t_packings (tB (BK.part b sts)) a81).bind fun a82 => reprT ((eL (eT eI)) a82))) = .ok sp := by
      rw [el, Gd_pos (by omega), Rs.bind_ok, rng0, g_part hb h4 hs hne h5, Rs.bind_ok]
      exact hp
    have e2 : ((mapT (fun x83 => (mapT (fun x84 => ixT x83 x84) (iN sts)).bind fun a85 => .ok a85) (srtT (Rw b sts))).bind fun a86 => reprT ((eL (eT eI)) a86)) = .ok sp := by
      rw [mapT_ok (h := proj sts) fun p hp => ?_, Rs.bind_ok]
      · exact hp
      · have hv := (R_plan hb hs ((srtT_perm _).mem_iff.mp hp)).1
        rw [mapT_ok (h := fun k => ch p k.toNat) fun k hk => ?_, Rs.bind_ok]
        · unfold proj
          rw [List.map_map]
          rfl
        · obtain ⟨s, hs', rfl⟩ := List.mem_map.mp hk
          have hlt : s < p.length := by rw [hv.1]; exact hs.2 s hs'
          rw [ixT_nat, List.getElem?_eq_getElem hlt, Int.toNat_natCast, ch_lt hlt]
          rfl
    have hc2 := ok_ne e1 e2 hsp
    rw [hc2, Rs.bind_ok, if_neg (by simp)]
    exact trivial
  -- silent stations
  refine ok_bndTO (P := Dr) (ok_forF' (I := Dr) h74 fun p hp s101 h101 => ?_) fun s111 h111 => ?_
  · have hm : p ∈ Rw b sts := (srtT_perm _).mem_iff.mp (by rw [show (3 : Int) = ((3 : Nat) : Int) from rfl, cut_l] at hp; exact List.mem_of_mem_take hp)
    obtain ⟨hv, hrt⟩ := R_plan hb hs hm
    refine ok_bnd2 (P := fun a s => (∃ k : Nat, a = (k : Int) ∧ k < b.ls.length) ∧ Dr s) ((d_modG (by omega) h101).imp fun r x => ⟨⟨r.1.toNat, by have := x.1; omega, by have := x.1; omega⟩, x.2⟩) fun a s105 ha => ?_
    obtain ⟨⟨k, rfl, hk⟩, h105⟩ := ha
    have hv2 : Vp b (p.set k (-1)) := ⟨by rw [List.length_set]; exact hv.1, fun c hc => by
      rcases List.mem_or_eq_of_mem_set hc with hc | rfl
      · exact hv.2 c hc
      · decide⟩
    have hrt2 : right b (p.set k (-1)) := right_mono hb.pos ⟨List.length_set, fun i _ => by
      rw [ch_set (by rw [hv.1]; exact hk)]
      split
      · exact .inr rfl
      · exact .inl rfl⟩ hrt
    rw [g_right hb hv, g_silenced hb hv hk]
    simp only [Rs.bind_ok, g_right hb hv2, decide_eq_true hrt, decide_eq_true hrt2]
    simp only [Rs.bind_ok, decide_true, Bool.not_true, if_false, Bool.false_eq_true]
    exact h105
  -- parts of the set
  have el : ((iN sts).length : Int) = ((sts.length : Nat) : Int) := by rw [List.length_map]
  have hemp : (srtT (Rw b sts) = []) ↔ Rw b sts = [] := ⟨fun e => (List.nil_perm.mp (by rw [← e]; exact srtT_perm _)), fun e => by rw [e]; rfl⟩
  rw [el, Gd_pos (rgk (by decide) (by omega)), Rs.bind_ok]
  refine ok_bndTO (P := fun _ => True) (ok_forF' (I := fun _ => True) trivial fun x hx _ _ => ?_) fun _ _ => ?_
  · have hxr := mem_rng.mp hx
    obtain ⟨k, rfl⟩ : ∃ k : Nat, x = (k : Int) := ⟨x.toNat, by omega⟩
    rw [cut_l, cut_r, Gd_pos (sz (by rw [List.length_take, List.length_drop, List.length_map]; omega)), Rs.bind_ok]
    have ecut : (iN sts).take k ++ (iN sts).drop (k + 1) = iN (sts.take k ++ sts.drop (k + 1)) := by
      simp only [iN, List.map_append, List.map_take, List.map_drop]
    have hsub := cut_sub sts k
    have hvs : Vs b (sts.take k ++ sts.drop (k + 1)) := ⟨hs.1.sublist hsub, fun s h => hs.2 s (hsub.subset h)⟩
    rw [ecut, g_packable hb hvs (Nat.le_trans hsub.length_le h5), Rs.bind_ok]
    by_cases he : Rw b sts = []
    · rw [decide_eq_true (hemp.mpr he)]
      exact trivial
    · rw [decide_eq_false (fun z => he (hemp.mp z)), decide_eq_true (R_less hb.pos hs.stn hsub he)]
      exact trivial
  -- a looser book
  refine ok_bnd2 (P := fun bk s => (∃ b', bk = tB b' ∧ Vb b' ∧ Loose b b') ∧ Dr s) (d_looser h111 hb hsu) fun bk s123 hlo => ?_
  obtain ⟨⟨b', rfl, hb', hlo⟩, h123⟩ := hlo
  have hs' : Vs b' sts := ⟨hs.1, fun s h => by rw [hlo.len]; exact hs.2 s h⟩
  obtain ⟨bd, hbd, e1⟩ := g_least hb hs h5
  obtain ⟨bd', hbd', e2⟩ := g_least hb' hs' h5
  rw [e1, e2, Rs.bind_ok, Rs.bind_ok, Rs.bind_ok]
  have hn := lb_none hb.pos hb.nn hbd hs.stn
  cases hq : lb b bd sts with
  | none =>
    have he : srtT (Rw b sts) = [] := hemp.mpr (hn.mp hq)
    rw [he]
    exact h123
  | some x =>
    have he : ¬ srtT (Rw b sts) = [] := fun z => by
      have := hn.mpr (hemp.mp z)
      rw [hq] at this
      cases this
    obtain ⟨y, hy, hle⟩ := lb_loose hlo hb.pos hb.nn hb'.pos hb'.nn hbd' hs.stn hq
    rw [hy]
    have hd : decide (x < y) = false := decide_eq_false (by omega)
    simp only [Option.isNone_some, Option.isSome_some, decide_eq_false he, decide_true, Bool.not_true, Bool.false_eq_true, if_false, if_true, Rs.of_some, Rs.bind_ok, hd]
    exact h123
theorem law_pure (ns : List Int) (hl : ns.length ≤ 63) : f_law [.list (ns.map PyData.int)] = .ok (.bool true) := by
  obtain ⟨r, e, h⟩ := (t_law_ok ns hl).ex
  have := ct_law ns
  rw [e, h] at this
  exact this
end K01
open PySem PySem.W PyProof.Rows DL
set_option maxHeartbeats 0 in
theorem PySem.Challenge.cw_heardclear_k01_whole_silence_makes_no_fa_holds : PySem.Challenge.rw_heardclear_k01_whole_silence_makes_no_fa.Holds := by
  w_on; o_law; k_head; (case hw => w_witness2)
  k_fill
  refine DL.walk_G (l := PySem.Challenge.rw_heardclear_k01_whole_silence_makes_no_fa) (n := 63) (k := 12) (x := "script") (f := K01.f_law) rfl (by decide) rfl ⟨rfl, by decide, by decide⟩ (fun w h Y => PySem.W.kIn_of Y) ?hno ?F (fun ns hl => K01.law_pure ns hl)
  case hno =>
    intro w
    rfl
  case F =>
    intro w mg fa h KX G hmg
    have T := K01.Top.of (mg := mg) KX (by
      refine' ⟨(PySem.W.mg_none_of KX G ?z_abs), (PySem.W.mg_none_of KX G ?z_all), (PySem.W.mg_none_of KX G ?z_enumerate), (PySem.W.mg_none_of KX G ?z_int), (PySem.W.mg_none_of KX G ?z_len), (PySem.W.mg_none_of KX G ?z_list), (PySem.W.mg_none_of KX G ?z_range), (PySem.W.mg_none_of KX G ?z_repr), (PySem.W.mg_none_of KX G ?z_set), (PySem.W.mg_none_of KX G ?z_sorted), (PySem.W.mg_none_of KX G ?z_sum), (PySem.W.mg_none_of KX G ?z_tuple), (PySem.W.mg_none_of KX G ?z_zip), (gI_mk KX G ?c_MOST_CHANNEL), (gI_mk KX G ?c_MOST_GAIN), (gI_mk KX G ?c_MOST_PACKINGS), (gI_mk KX G ?c_MOST_STATIONS), (gS_mk KX G ?c_OF_CLASH), (gS_mk KX G ?c_OF_LIST), (gS_mk KX G ?c_OF_SUM), (gI_mk KX G ?c_SILENT), (defAt_mk KX G ?a__law_number ?l__law_number ?d__law_number ?k__law_number), (defAt_mk KX G ?a__law_draws ?l__law_draws ?d__law_draws ?k__law_draws), (defAt_mk KX G ?a__law_next ?l__law_next ?d__law_next ?k__law_next), (defAt_mk KX G ?a__law_more ?l__law_more ?d__law_more ?k__law_more), (defAt_mk KX G ?a__law_list ?l__law_list ?d__law_list ?k__law_list), (defAt_mk KX G ?a__law_distances ?l__law_distances ?d__law_distances ?k__law_distances), (defAt_mk KX G ?a__law_book ?l__law_book ?d__law_book ?k__law_book), (defAt_mk KX G ?a__law_some ?l__law_some ?d__law_some ?k__law_some), (defAt_mk KX G ?a_ascends ?l_ascends ?d_ascends ?k_ascends), (defAt_mk KX G ?a_are_channels ?l_are_channels ?d_are_channels ?k_are_channels), (defAt_mk KX G ?a_are_lists ?l_are_lists ?d_are_lists ?k_are_lists), (defAt_mk KX G ?a_are_clashes ?l_are_clashes ?d_are_clashes ?k_are_clashes), (defAt_mk KX G ?a_is_sum ?l_is_sum ?d_is_sum ?k_is_sum), (defAt_mk KX G ?a_is_book ?l_is_book ?d_is_book ?k_is_book), (defAt_mk KX G ?a_check_book ?l_check_book ?d_check_book ?k_check_book), (defAt_mk KX G ?a_are_stations ?l_are_stations ?d_are_stations ?k_are_stations), (defAt_mk KX G ?a_check_stations ?l_check_stations ?d_check_stations ?k_check_stations), (defAt_mk KX G ?a_put ?l_put ?d_put ?k_put), (defAt_mk KX G ?a_clash_stands ?l_clash_stands ?d_clash_stands ?k_clash_stands), (defAt_mk KX G ?a_is_above ?l_is_above ?d_is_above ?k_is_above), (defAt_mk KX G ?a_faults_of ?l_faults_of ?d_faults_of ?k_faults_of), (dflt_mk (defAt_mk KX G ?a_first_packing ?l_first_packing ?d_first_packing ?k_first_packing) ?t_first_packing ?u_first_packing), (defAt_mk KX G ?a_band_of ?l_band_of ?d_band_of ?k_band_of), (defAt_mk KX G ?a_packings_of ?l_packings_of ?d_packings_of ?k_packings_of), (defAt_mk KX G ?a_packings ?l_packings ?d_packings ?k_packings), (defAt_mk KX G ?a__law_looser ?l__law_looser ?d__law_looser ?k__law_looser), (defAt_mk KX G ?a_packing_of ?l_packing_of ?d_packing_of ?k_packing_of), (defAt_mk KX G ?a_packing ?l_packing ?d_packing ?k_packing), (defAt_mk KX G ?a_is_packable ?l_is_packable ?d_is_packable ?k_is_packable), (defAt_mk KX G ?a_with_stations ?l_with_stations ?d_with_stations ?k_with_stations), (defAt_mk KX G ?a_least_band ?l_least_band ?d_least_band ?k_least_band), (defAt_mk KX G ?a__law_faults ?l__law_faults ?d__law_faults ?k__law_faults), (defAt_mk KX G ?a__law_packings ?l__law_packings ?d__law_packings ?k__law_packings), (defAt_mk KX G ?a_fits_book ?l_fits_book ?d_fits_book ?k_fits_book), (defAt_mk KX G ?a_is_plan ?l_is_plan ?d_is_plan ?k_is_plan), (defAt_mk KX G ?a_check_plan ?l_check_plan ?d_check_plan ?k_check_plan), (defAt_mk KX G ?a_faults ?l_faults ?d_faults ?k_faults), (defAt_mk KX G ?a_is_right ?l_is_right ?d_is_right ?k_is_right), (defAt_mk KX G ?a_silenced ?l_silenced ?d_silenced ?k_silenced)⟩
      (case z_abs => k_is)
      (case z_all => k_is)
      (case z_enumerate => k_is)
      (case z_int => k_is)
      (case z_len => k_is)
      (case z_list => k_is)
      (case z_range => k_is)
      (case z_repr => k_is)
      (case z_set => k_is)
      (case z_sorted => k_is)
      (case z_sum => k_is)
      (case z_tuple => k_is)
      (case z_zip => k_is)
      (case c_MOST_CHANNEL => k_is)
      (case c_MOST_GAIN => k_is)
      (case c_MOST_PACKINGS => k_is)
      (case c_MOST_STATIONS => k_is)
      (case c_OF_CLASH => k_is)
      (case c_OF_LIST => k_is)
      (case c_OF_SUM => k_is)
      (case c_SILENT => k_is)
      (case a__law_number => k_is)
      (case l__law_number => k_is)
      (case d__law_number => k_is)
      (case k__law_number => k_is)
      (case a__law_draws => k_is)
      (case l__law_draws => k_is)
      (case d__law_draws => k_is)
      (case k__law_draws => k_is)
      (case a__law_next => k_is)
      (case l__law_next => k_is)
      (case d__law_next => k_is)
      (case k__law_next => k_is)
      (case a__law_more => k_is)
      (case l__law_more => k_is)
      (case d__law_more => k_is)
      (case k__law_more => k_is)
      (case a__law_list => k_is)
      (case l__law_list => k_is)
      (case d__law_list => k_is)
      (case k__law_list => k_is)
      (case a__law_distances => k_is)
      (case l__law_distances => k_is)
      (case d__law_distances => k_is)
      (case k__law_distances => k_is)
      (case a__law_book => k_is)
      (case l__law_book => k_is)
      (case d__law_book => k_is)
      (case k__law_book => k_is)
      (case a__law_some => k_is)
      (case l__law_some => k_is)
      (case d__law_some => k_is)
      (case k__law_some => k_is)
      (case a_ascends => k_is)
      (case l_ascends => k_is)
      (case d_ascends => k_is)
      (case k_ascends => k_is)
      (case a_are_channels => k_is)
      (case l_are_channels => k_is)
      (case d_are_channels => k_is)
      (case k_are_channels => k_is)
      (case a_are_lists => k_is)
      (case l_are_lists => k_is)
      (case d_are_lists => k_is)
      (case k_are_lists => k_is)
      (case a_are_clashes => k_is)
      (case l_are_clashes => k_is)
      (case d_are_clashes => k_is)
      (case k_are_clashes => k_is)
      (case a_is_sum => k_is)
      (case l_is_sum => k_is)
      (case d_is_sum => k_is)
      (case k_is_sum => k_is)
      (case a_is_book => k_is)
      (case l_is_book => k_is)
      (case d_is_book => k_is)
      (case k_is_book => k_is)
      (case a_check_book => k_is)
      (case l_check_book => k_is)
      (case d_check_book => k_is)
      (case k_check_book => k_is)
      (case a_are_stations => k_is)
      (case l_are_stations => k_is)
      (case d_are_stations => k_is)
      (case k_are_stations => k_is)
      (case a_check_stations => k_is)
      (case l_check_stations => k_is)
      (case d_check_stations => k_is)
      (case k_check_stations => k_is)
      (case a_put => k_is)
      (case l_put => k_is)
      (case d_put => k_is)
      (case k_put => k_is)
      (case a_clash_stands => k_is)
      (case l_clash_stands => k_is)
      (case d_clash_stands => k_is)
      (case k_clash_stands => k_is)
      (case a_is_above => k_is)
      (case l_is_above => k_is)
      (case d_is_above => k_is)
      (case k_is_above => k_is)
      (case a_faults_of => k_is)
      (case l_faults_of => k_is)
      (case d_faults_of => k_is)
      (case k_faults_of => k_is)
      (case a_first_packing => k_is)
      (case l_first_packing => k_is)
      (case d_first_packing => k_is)
      (case k_first_packing => k_is)
      (case t_first_packing => k_is)
      (case u_first_packing => exact rfl)
      (case a_band_of => k_is)
      (case l_band_of => k_is)
      (case d_band_of => k_is)
      (case k_band_of => k_is)
      (case a_packings_of => k_is)
      (case l_packings_of => k_is)
      (case d_packings_of => k_is)
      (case k_packings_of => k_is)
      (case a_packings => k_is)
      (case l_packings => k_is)
      (case d_packings => k_is)
      (case k_packings => k_is)
      (case a__law_looser => k_is)
      (case l__law_looser => k_is)
      (case d__law_looser => k_is)
      (case k__law_looser => k_is)
      (case a_packing_of => k_is)
      (case l_packing_of => k_is)
      (case d_packing_of => k_is)
      (case k_packing_of => k_is)
      (case a_packing => k_is)
      (case l_packing => k_is)
      (case d_packing => k_is)
      (case k_packing => k_is)
      (case a_is_packable => k_is)
      (case l_is_packable => k_is)
      (case d_is_packable => k_is)
      (case k_is_packable => k_is)
      (case a_with_stations => k_is)
      (case l_with_stations => k_is)
      (case d_with_stations => k_is)
      (case k_with_stations => k_is)
      (case a_least_band => k_is)
      (case l_least_band => k_is)
      (case d_least_band => k_is)
      (case k_least_band => k_is)
      (case a__law_faults => k_is)
      (case l__law_faults => k_is)
      (case d__law_faults => k_is)
      (case k__law_faults => k_is)
      (case a__law_packings => k_is)
      (case l__law_packings => k_is)
      (case d__law_packings => k_is)
      (case k__law_packings => k_is)
      (case a_fits_book => k_is)
      (case l_fits_book => k_is)
      (case d_fits_book => k_is)
      (case k_fits_book => k_is)
      (case a_is_plan => k_is)
      (case l_is_plan => k_is)
      (case d_is_plan => k_is)
      (case k_is_plan => k_is)
      (case a_check_plan => k_is)
      (case l_check_plan => k_is)
      (case d_check_plan => k_is)
      (case k_check_plan => k_is)
      (case a_faults => k_is)
      (case l_faults => k_is)
      (case d_faults => k_is)
      (case k_faults => k_is)
      (case a_is_right => k_is)
      (case l_is_right => k_is)
      (case d_is_right => k_is)
      (case k_is_right => k_is)
      (case a_silenced => k_is)
      (case l_silenced => k_is)
      (case d_silenced => k_is)
      (case k_silenced => k_is))
    refine' DL.law_mk (st := K01.st_law) KX G hmg K01.sc_law rfl (fun base => K01.bd_law T) (fun s v => .of_eq rfl) ?aL ?lL ?cL
    (case aL => k_is); (case lL => k_is); (case cL => k_is)
