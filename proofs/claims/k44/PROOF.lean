import PyProof.Rows.All
import HandS.ForMost
import HandS.Deep
import HandS.Flow
import HandS.TupAny
import HandS.Conv
import HandS.SortRule
import HandS.SortInts
import PyProof.ReprRoads
import HandS.SetFor
import HandS.Strs
import HandS.Style
import KE.DataMinMax
import KE.SortData
import KE.KDictZip
import PySem.Challenge.RW_hornwright_k44_whole_services
section
set_option Elab.async false
set_option linter.all false
set_option maxRecDepth 100000
set_option maxHeartbeats 4000000
/-! QL: a layer of pure data over HandS. Data D, its place in the heap (Rp), the state of a def's body (W), expressions by pure functions (QE). -/
namespace QL
open PySem PySem.Spec L2

inductive D where
  | non | bl (b : Bool) | int (i : Int) | str (x : Str) | hd (n : Nat)
  | lst (xs : List D) | tup (xs : List D) | brw (i : Nat) (d : D)
  | dct (t : Bool) (kvs : List (List Key × D))

abbrev Hs := Nat → Option Addr
/-! a dict: its keys are atoms (t = false), told as lists of one, or flat tuples -/
def key1 (k : List Key) : Key := k.headD (.inl 0)
def hoD (t : Bool) (xs : List (List Key × V)) : HO := match t with
  | true => .dT xs
  | false => .dK (xs.map fun kv => (key1 kv.1, kv.2))
def okD (t : Bool) (xs : List (List Key × V)) : Prop := t = false → ∀ kv ∈ xs, kv.1.length = 1

mutual
inductive Rp (hs : Hs) (F : Hp) : V → D → Prop
  | non : Rp hs F .non .non
  | bl (b : Bool) : Rp hs F (.bl b) (.bl b)
  | int (i : Int) : Rp hs F (.int i) (.int i)
  | str (x : Str) : Rp hs F (.str x) (.str x)
  | hd {n : Nat} {a : Addr} : hs n = some a → Rp hs F (.ref a) (.hd n)
  | lst {a : Addr} {xs : List V} {ds : List D} : F a = some (.lst xs) → RpL hs F xs ds → Rp hs F (.ref a) (.lst ds)
  | tup {a : Addr} {xs : List V} {ds : List D} : F a = some (.tup xs) → RpL hs F xs ds → Rp hs F (.ref a) (.tup ds)
  | dct {a : Addr} {t : Bool} {xs : List (List Key × V)} {kvs : List (List Key × D)} : F a = some (hoD t xs) → okD t xs → RpA hs F xs kvs → Rp hs F (.ref a) (.dct t kvs)
inductive RpA (hs : Hs) (F : Hp) : List (List Key × V) → List (List Key × D) → Prop
  | nil : RpA hs F [] []
  | cons {k : List Key} {v : V} {vs : List (List Key × V)} {d : D} {ds : List (List Key × D)} : Rp hs F v d → RpA hs F vs ds → RpA hs F ((k, v) :: vs) ((k, d) :: ds)
inductive RpL (hs : Hs) (F : Hp) : List V → List D → Prop
  | nil : RpL hs F [] []
  | cons {v : V} {vs : List V} {d : D} {ds : List D} : Rp hs F v d → RpL hs F vs ds → RpL hs F (v :: vs) (d :: ds)
end

section
variable {hs : Hs} {F F' : Hp}
mutual
theorem Rp.mono (h : Same F F') : ∀ {v : V} {d : D}, Rp hs F v d → Rp hs F' v d
  | _, _, .non => .non
  | _, _, .bl b => .bl b
  | _, _, .int i => .int i
  | _, _, .str x => .str x
  | _, _, .hd e => .hd e
  | _, _, .lst e r => .lst (h _ _ e) (RpL.mono h r)
  | _, _, .tup e r => .tup (h _ _ e) (RpL.mono h r)
  | _, _, .dct e o r => .dct (h _ _ e) o (RpA.mono h r)
theorem RpA.mono (h : Same F F') : ∀ {vs : List (List Key × V)} {ds : List (List Key × D)}, RpA hs F vs ds → RpA hs F' vs ds
  | _, _, .nil => .nil
  | _, _, .cons r t => .cons (Rp.mono h r) (RpA.mono h t)
theorem RpL.mono (h : Same F F') : ∀ {vs : List V} {ds : List D}, RpL hs F vs ds → RpL hs F' vs ds
  | _, _, .nil => .nil
  | _, _, .cons r t => .cons (Rp.mono h r) (RpL.mono h t)
end
theorem RpL.length : ∀ {vs : List V} {ds : List D}, RpL hs F vs ds → vs.length = ds.length
  | _, _, .nil => rfl
  | _, _, .cons _ t => by rw [List.length_cons, List.length_cons, t.length]
theorem RpL.get : ∀ {vs : List V} {ds : List D} {i : Nat} {d : D}, RpL hs F vs ds → ds[i]? = some d → ∃ v, vs[i]? = some v ∧ Rp hs F v d
  | _, _, _, _, .nil, e => by simp at e
  | _, _, 0, _, .cons r _, e => by simp at e; subst e; exact ⟨_, rfl, r⟩
  | _, _, i + 1, _, .cons _ t, e => by
    obtain ⟨v, h1, h2⟩ := RpL.get (i := i) t (by simpa using e)
    exact ⟨v, by simpa using h1, h2⟩
theorem RpL.getV : ∀ {vs : List V} {ds : List D} {i : Nat} {v : V}, RpL hs F vs ds → vs[i]? = some v → ∃ d, ds[i]? = some d ∧ Rp hs F v d
  | _, _, _, _, .nil, e => by simp at e
  | _, _, 0, _, .cons r _, e => by simp at e; subst e; exact ⟨_, rfl, r⟩
  | _, _, i + 1, _, .cons _ t, e => by
    obtain ⟨v, h1, h2⟩ := RpL.getV (i := i) t (by simpa using e)
    exact ⟨v, by simpa using h1, h2⟩
theorem RpL.append : ∀ {vs ws : List V} {ds es : List D}, RpL hs F vs ds → RpL hs F ws es → RpL hs F (vs ++ ws) (ds ++ es)
  | _, _, _, _, .nil, s => s
  | _, _, _, _, .cons r t, s => .cons r (RpL.append t s)
theorem RpL.set {v : V} {d : D} (r : Rp hs F v d) : ∀ {vs : List V} {ds : List D} (i : Nat), RpL hs F vs ds → RpL hs F (vs.set i v) (ds.set i d)
  | _, _, _, .nil => .nil
  | _, _, 0, .cons _ t => .cons r t
  | _, _, i + 1, .cons q t => .cons q (RpL.set r i t)
theorem RpL.take : ∀ {vs : List V} {ds : List D} (n : Nat), RpL hs F vs ds → RpL hs F (vs.take n) (ds.take n)
  | _, _, 0, _ => .nil
  | _, _, _ + 1, .nil => .nil
  | _, _, n + 1, .cons r t => .cons r (RpL.take n t)
theorem RpL.drop : ∀ {vs : List V} {ds : List D} (n : Nat), RpL hs F vs ds → RpL hs F (vs.drop n) (ds.drop n)
  | _, _, 0, r => r
  | _, _, _ + 1, .nil => .nil
  | _, _, n + 1, .cons _ t => RpL.drop n t
theorem RpL.one {vs : List V} {d : D} (r : RpL hs F vs [d]) : ∃ v, vs = [v] ∧ Rp hs F v d := by
  cases r with
  | cons r t => cases t; exact ⟨_, rfl, r⟩
theorem RpL.two {vs : List V} {d e : D} (r : RpL hs F vs [d, e]) : ∃ v w, vs = [v, w] ∧ Rp hs F v d ∧ Rp hs F w e := by
  cases r with
  | cons r t =>
    obtain ⟨w, rfl, q⟩ := t.one
    exact ⟨_, _, rfl, r, q⟩
end

/-! ### what a slot holds -/
inductive Slot where
  | non | val (d : D) | own (d : D) | deep (dss : List (List D))
abbrev Ev := List Slot

def OwnAt (hs : Hs) (F H : Hp) (a : Addr) : D → Prop
  | .lst ds => ∃ xs, H a = some (.lst xs) ∧ RpL hs F xs ds
  | .dct t kvs => ∃ xs, H a = some (hoD t xs) ∧ okD t xs ∧ RpA hs F xs kvs
  | _ => False
theorem OwnAt.there {hs : Hs} {F H : Hp} {a : Addr} {d : D} (o : OwnAt hs F H a d) : H a ≠ none := by
  cases d with
  | lst ds => obtain ⟨xs, e, _⟩ := o; rw [e]; simp
  | dct t kvs => obtain ⟨xs, e, _⟩ := o; rw [e]; simp
  | _ => exact o.elim
theorem OwnAt.keep {hs : Hs} {F F' H H' : Hp} {a : Addr} {d : D} (o : OwnAt hs F H a d) (hF : Same F F') (e : H' a = H a) : OwnAt hs F' H' a d := by
  cases d with
  | lst ds => obtain ⟨xs, q, r⟩ := o; exact ⟨xs, e.trans q, r.mono hF⟩
  | dct t kvs => obtain ⟨xs, q, o, r⟩ := o; exact ⟨xs, e.trans q, o, r.mono hF⟩
  | _ => exact o.elim

/-- a region: objects outside the data that the code may change -/
structure RK where
  S : Type
  fp : Hs → Addr → Prop
  /-- the state, by what stands fast and the heap -/
  rep : Hs → S → Hp → Hp → Prop
  live : ∀ hs st F H b, rep hs st F H → fp hs b → H b ≠ none
  keep : ∀ hs st F F' H H', rep hs st F H → Same F F' → (∀ b, fp hs b → H' b = H b) → rep hs st F' H'
def R0 : RK := ⟨Unit, fun _ _ => False, fun _ _ _ _ => True, fun _ _ _ _ _ _ z => z.elim, fun _ _ _ _ _ _ _ _ _ => trivial⟩

/-! ### lists of lists that a slot owns, the inner ones too -/
def DeepL (hs : Hs) (F H : Hp) : List Addr → List (List D) → Prop
  | [], [] => True
  | b :: as, ds :: dss => (∃ xs, H b = some (.lst xs) ∧ RpL hs F xs ds) ∧ DeepL hs F H as dss
  | _, _ => False
theorem DeepL.keep {hs : Hs} {F F' H H' : Hp} (hF : Same F F') : ∀ {as : List Addr} {dss : List (List D)}, (∀ b ∈ as, H' b = H b) → DeepL hs F H as dss → DeepL hs F' H' as dss
  | [], [], _, _ => trivial
  | b :: as, ds :: dss, h, ⟨⟨xs, e, r⟩, t⟩ => ⟨⟨xs, (h b List.mem_cons_self).trans e, r.mono hF⟩, DeepL.keep hF (fun c hc => h c (List.mem_cons_of_mem _ hc)) t⟩
  | [], _ :: _, _, z => z.elim
  | _ :: _, [], _, z => z.elim
theorem DeepL.there {hs : Hs} {F H : Hp} : ∀ {as : List Addr} {dss : List (List D)}, DeepL hs F H as dss → ∀ b ∈ as, H b ≠ none
  | [], [], _, b, h => by cases h
  | c :: as, ds :: dss, ⟨⟨xs, e, r⟩, t⟩, b, h => by
    rcases List.mem_cons.mp h with rfl | h
    · rw [e]; simp
    · exact DeepL.there t b h
  | [], _ :: _, z, _, _ => z.elim
  | _ :: _, [], z, _, _ => z.elim
theorem DeepL.length {hs : Hs} {F H : Hp} : ∀ {as : List Addr} {dss : List (List D)}, DeepL hs F H as dss → as.length = dss.length
  | [], [], _ => rfl
  | _ :: _, _ :: _, ⟨_, t⟩ => by rw [List.length_cons, List.length_cons, DeepL.length t]
  | [], _ :: _, z => z.elim
  | _ :: _, [], z => z.elim
theorem refs_inj : ∀ {as bs : List Addr}, as.map V.ref = bs.map V.ref → as = bs
  | [], [], _ => rfl
  | [], _ :: _, h => by cases h
  | _ :: _, [], h => by cases h
  | a :: as, b :: bs, h => by
    simp only [List.map_cons, List.cons.injEq, V.ref.injEq] at h
    rw [h.1, refs_inj h.2]
/-- b is of a slot's list of lists -/
def DpAt (ρ : Ev) (σ : St) (H : Hp) (b : Addr) : Prop := ∃ (i : Nat) (dss : List (List D)) (a : Addr) (as : List Addr), ρ[i]? = some (.deep dss) ∧ σ[i]? = some (some (.ref a)) ∧ H a = some (.lst (as.map V.ref)) ∧ b ∈ a :: as
structure DeepAt (R : RK) (hs : Hs) (Z : Addr → Prop) (H0 F H : Hp) (a : Addr) (as : List Addr) (dss : List (List D)) : Prop where
  top : H a = some (.lst (as.map V.ref))
  ins : DeepL hs F H as dss
  nd : (a :: as).Nodup
  fr : ∀ b ∈ a :: as, F b = none ∧ ¬ R.fp hs b ∧ (H0 b = none ∨ Z b)
theorem DeepAt.there {R : RK} {hs : Hs} {Z : Addr → Prop} {H0 F H : Hp} {a : Addr} {as : List Addr} {dss : List (List D)} (d : DeepAt R hs Z H0 F H a as dss) : ∀ b ∈ a :: as, H b ≠ none := fun b hb => by
  rcases List.mem_cons.mp hb with rfl | hb
  · rw [d.top]; simp
  · exact d.ins.there b hb
structure Deeps (R : RK) (hs : Hs) (Z : Addr → Prop) (H0 F H : Hp) (ρ : Ev) (σ : St) : Prop where
  at_ : ∀ (i : Nat) (dss : List (List D)), ρ[i]? = some (.deep dss) → ∃ a as, σ[i]? = some (some (.ref a)) ∧ DeepAt R hs Z H0 F H a as dss ∧ ∀ (j : Nat) (e : D) (c : Addr), ρ[j]? = some (.own e) → σ[j]? = some (some (.ref c)) → c ∉ a :: as
  one : ∀ (i j : Nat) (d e : List (List D)), ρ[i]? = some (.deep d) → ρ[j]? = some (.deep e) → i = j
theorem Deeps.move {R : RK} {hs : Hs} {Z Z' : Addr → Prop} {H0 H0' F F' H H' : Hp} {ρ ρ' : Ev} {σ σ' : St} (d : Deeps R hs Z H0 F H ρ σ)
    (hρ : ∀ (i : Nat) (dss : List (List D)), ρ'[i]? = some (.deep dss) → ρ[i]? = some (.deep dss) ∧ σ'[i]? = σ[i]?)
    (hO : ∀ (j : Nat) (e : D) (c : Addr), ρ'[j]? = some (.own e) → σ'[j]? = some (some (.ref c)) → (∃ e', ρ[j]? = some (.own e') ∧ σ[j]? = some (some (.ref c))) ∨ ¬ DpAt ρ σ H c)
    (hF : Same F F')
    (hk : ∀ b, F b = none → ¬ R.fp hs b → (H0 b = none ∨ Z b) → H b ≠ none → DpAt ρ σ H b → (∀ (j : Nat) (e : D), ρ[j]? = some (.own e) → σ[j]? ≠ some (some (.ref b))) → H' b = H b ∧ F' b = none ∧ (H0' b = none ∨ Z' b)) :
    Deeps R hs Z' H0' F' H' ρ' σ' := by
  refine ⟨fun i dss e => ?_, fun i j x y e1 e2 => d.one i j x y (hρ i x e1).1 (hρ j y e2).1⟩
  obtain ⟨e1, e2⟩ := hρ i dss e
  obtain ⟨a, as, g1, g2, g3⟩ := d.at_ i dss e1
  have dp : ∀ b ∈ a :: as, DpAt ρ σ H b := fun b hb => ⟨i, dss, a, as, e1, g1, g2.top, hb⟩
  have k : ∀ b ∈ a :: as, H' b = H b ∧ F' b = none ∧ (H0' b = none ∨ Z' b) := fun b hb => by
    obtain ⟨f1, f2, f3⟩ := g2.fr b hb
    exact hk b f1 f2 f3 (g2.there b hb) (dp b hb) fun j e z w => g3 j e b z w hb
  refine ⟨a, as, e2.trans g1, ⟨(k a List.mem_cons_self).1.trans g2.top, g2.ins.keep hF fun b hb => (k b (List.mem_cons_of_mem _ hb)).1, g2.nd, fun b hb => ⟨(k b hb).2.1, (g2.fr b hb).2.1, (k b hb).2.2⟩⟩, fun j e c q1 q2 hc => ?_⟩
  rcases hO j e c q1 q2 with ⟨e', z1, z2⟩ | z
  · exact g3 j e' c z1 z2 hc
  · exact z (dp c hc)
theorem Deeps.of_no {R : RK} {hs : Hs} {Z : Addr → Prop} {H0 F H : Hp} {ρ : Ev} {σ : St} (h : ∀ (i : Nat) (d : List (List D)), ρ[i]? ≠ some (.deep d)) : Deeps R hs Z H0 F H ρ σ := ⟨fun i d e => absurd e (h i d), fun i j d e q _ => absurd q (h i d)⟩
theorem Deeps.all {R : RK} {hs : Hs} {Z : Addr → Prop} {H0 F H : Hp} {ρ : Ev} {σ : St} (d : Deeps R hs Z H0 F H ρ σ) {b : Addr} (h : DpAt ρ σ H b) : F b = none ∧ ¬ R.fp hs b ∧ (H0 b = none ∨ Z b) ∧ H b ≠ none := by
  obtain ⟨i, dss, a, as, e1, e2, e3, hb⟩ := h
  obtain ⟨a', as', g1, g2, _⟩ := d.at_ i dss e1
  rw [e2] at g1; cases g1
  have := g2.top
  rw [e3] at this
  have e := refs_inj (HO.lst.inj (Option.some.inj this))
  subst e
  exact ⟨(g2.fr b hb).1, (g2.fr b hb).2.1, (g2.fr b hb).2.2, g2.there b hb⟩
theorem Deeps.far {R : RK} {hs : Hs} {Z : Addr → Prop} {H0 F H : Hp} {ρ : Ev} {σ : St} (d : Deeps R hs Z H0 F H ρ σ) {b : Addr} (h : DpAt ρ σ H b) {j : Nat} {e : D} (q : ρ[j]? = some (.own e)) : σ[j]? ≠ some (some (.ref b)) := fun z => by
  obtain ⟨i, dss, a, as, e1, e2, e3, hb⟩ := h
  obtain ⟨a', as', g1, g2, g3⟩ := d.at_ i dss e1
  rw [e2] at g1; cases g1
  have := g2.top
  rw [e3] at this
  have e := refs_inj (HO.lst.inj (Option.some.inj this))
  subst e
  exact g3 j _ b q z hb
structure W (R : RK) (hs : Hs) (Z : Addr → Prop) (H0 F0 : Hp) (ρ : Ev) (st : R.S) (σ : St) (F H : Hp) : Prop where
  sF : Same F0 F
  sH : ∀ b o, H0 b = some o → ¬ Z b → H b = some o
  zfp : ∀ b, R.fp hs b → Z b
  FH : Same F H
  Fn : ∀ b o, F b = some o → F0 b = some o ∨ H0 b = none ∨ Z b
  Fp : ∀ b, R.fp hs b → F b = none
  rep : R.rep hs st F H
  len : ρ.length = σ.length
  val : ∀ (i : Nat) (d : D), ρ[i]? = some (.val d) → ∃ v, σ[i]? = some (some v) ∧ Rp hs F v d
  own : ∀ (i : Nat) (d : D), ρ[i]? = some (.own d) → ∃ a, σ[i]? = some (some (.ref a)) ∧ F a = none ∧ ¬ R.fp hs a ∧ (H0 a = none ∨ Z a) ∧ OwnAt hs F H a d
  dis : ∀ (i j : Nat) (d e : D), ρ[i]? = some (.own d) → ρ[j]? = some (.own e) → i ≠ j → ∀ a b, σ[i]? = some (some (.ref a)) → σ[j]? = some (some (.ref b)) → a ≠ b
  dps : Deeps R hs Z H0 F H ρ σ

section
variable {R : RK} {hs : Hs} {Z : Addr → Prop} {H0 F0 : Hp} {ρ : Ev} {st : R.S} {σ : St} {F H : Hp}
/-- a new object, laid and frozen at once -/
theorem W.alloc (w : W R hs Z H0 F0 ρ st σ F H) {p : Addr} (np : H p = none) (o : HO) : W R hs Z H0 F0 ρ st σ (upd F p o) (upd H p o) := by
  have fn : F p = none := w.FH.free np
  have s1 : Same F (upd F p o) := fun b u e => by rw [upd_ne (ne_of_none e fn)]; exact e
  refine ⟨w.sF.trans s1, fun b u e z => ?_, w.zfp, fun b u e => ?_, fun b u e => ?_, fun b e => ?_, ?_, w.len, fun i d e => ?_, fun i d e => ?_, w.dis, w.dps.move (fun i d e => ⟨e, rfl⟩) (fun j e c q1 q2 => .inl ⟨e, q1, q2⟩) s1 fun b f1 _ f3 hb _ _ => ⟨upd_ne fun q => hb (by rw [q]; exact np), by rw [upd_ne fun q => hb (by rw [q]; exact np)]; exact f1, f3⟩⟩
  · rw [upd_ne (ne_of_none (w.sH b u e z) np)]; exact w.sH b u e z
  · by_cases hb : b = p
    · subst hb; rw [upd_same] at e ⊢; exact e
    · rw [upd_ne hb] at e ⊢; exact w.FH b u e
  · by_cases hb : b = p
    · subst hb
      by_cases z : Z b
      · exact .inr (.inr z)
      · refine .inr (.inl ?_)
        cases q : H0 b with
        | none => rfl
        | some o => have q2 := w.sH b o q z; rw [np] at q2; cases q2
    · rw [upd_ne hb] at e; exact w.Fn b u e
  · have : b ≠ p := fun q => by subst q; exact R.live _ _ _ _ _ w.rep e np
    rw [upd_ne this]; exact w.Fp b e
  · exact R.keep _ _ _ _ _ _ w.rep s1 fun b e => upd_ne fun q => by subst q; exact R.live _ _ _ _ _ w.rep e np
  · obtain ⟨v, h1, h2⟩ := w.val i d e
    exact ⟨v, h1, h2.mono s1⟩
  · obtain ⟨a, h1, h2, h3, h4, h5⟩ := w.own i d e
    have : a ≠ p := fun q => h5.there (by rw [q]; exact np)
    exact ⟨a, h1, by rw [upd_ne this]; exact h2, h3, h4, h5.keep s1 (upd_ne this)⟩
theorem same_alloc (w : W R hs Z H0 F0 ρ st σ F H) {p : Addr} (np : H p = none) (o : HO) : Same F (upd F p o) := fun b u e => by
  rw [upd_ne (ne_of_none e (w.FH.free np))]; exact e

/-! ### values of expressions -/
def RpE (hs : Hs) (ρ : Ev) (σ : St) (F : Hp) (v : V) (d : D) : Prop := Rp hs F v d ∨ ∃ i d', d = .brw i d' ∧ ρ[i]? = some (.own d') ∧ σ[i]? = some (some v)
theorem RpE.mono {F' : Hp} {v : V} {d : D} (s : Same F F') : RpE hs ρ σ F v d → RpE hs ρ σ F' v d
  | .inl r => .inl (r.mono s)
  | .inr r => .inr r
def strip : D → D
  | .brw _ d => d
  | d => d
/-- nothing borrowed -/
def plain : D → Bool
  | .brw _ _ => false
  | _ => true
theorem RpE.pl {v : V} {d : D} (h : RpE hs ρ σ F v d) (p : plain d = true) : Rp hs F v d := by
  rcases h with h | ⟨i, d', rfl, _⟩
  · exact h
  · cases p
/-- the view in the heap -/
theorem RpE.vw {v : V} {d : D} (w : W R hs Z H0 F0 ρ st σ F H) (h : RpE hs ρ σ F v d) : Rp hs H v (strip d) := by
  rcases h with h | ⟨i, d', rfl, h1, h2⟩
  · have : strip d = d := by cases h <;> rfl
    rw [this]; exact h.mono w.FH
  · obtain ⟨a, q1, _, _, _, q5⟩ := w.own i d' h1
    rw [h2] at q1; cases q1
    show Rp hs H _ d'
    cases d' with
    | lst ds => obtain ⟨xs, e, r⟩ := q5; exact .lst e (r.mono w.FH)
    | dct t kvs => obtain ⟨xs, e, o, r⟩ := q5; exact .dct e o (r.mono w.FH)
    | _ => exact q5.elim
theorem RpE.lst {v : V} {d : D} {ds : List D} (w : W R hs Z H0 F0 ρ st σ F H) (h : RpE hs ρ σ F v d) (e : strip d = .lst ds) : ∃ a xs, v = .ref a ∧ H a = some (.lst xs) ∧ RpL hs F xs ds := by
  rcases h with h | ⟨i, d', rfl, h1, h2⟩
  · cases h with
    | lst e1 r => cases e; exact ⟨_, _, rfl, w.FH _ _ e1, r⟩
    | _ => cases e
  · obtain ⟨a, q1, _, _, _, q5⟩ := w.own i d' h1
    rw [h2] at q1; cases q1
    have e : d' = .lst ds := e
    subst e
    obtain ⟨xs, e, r⟩ := q5
    exact ⟨a, xs, rfl, e, r⟩
theorem RpE.tup {v : V} {d : D} {ds : List D} (w : W R hs Z H0 F0 ρ st σ F H) (h : RpE hs ρ σ F v d) (e : strip d = .tup ds) : ∃ a xs, v = .ref a ∧ F a = some (.tup xs) ∧ RpL hs F xs ds := by
  rcases h with h | ⟨i, d', rfl, h1, h2⟩
  · cases h with
    | tup e1 r => cases e; exact ⟨_, _, rfl, e1, r⟩
    | _ => cases e
  · obtain ⟨a, q1, _, _, _, q5⟩ := w.own i d' h1
    have e : d' = .tup ds := e
    subst e
    exact q5.elim
theorem RpE.int {v : V} {i : Int} (h : RpE hs ρ σ F v (.int i)) : v = .int i := by
  rcases h with h | ⟨_, _, e, _⟩
  · cases h; rfl
  · cases e
theorem RpE.bl {v : V} {b : Bool} (h : RpE hs ρ σ F v (.bl b)) : v = .bl b := by
  rcases h with h | ⟨_, _, e, _⟩
  · cases h; rfl
  · cases e
theorem RpE.str {v : V} {x : Str} (h : RpE hs ρ σ F v (.str x)) : v = .str x := by
  rcases h with h | ⟨_, _, e, _⟩
  · cases h; rfl
  · cases e
theorem RpE.non {v : V} (h : RpE hs ρ σ F v .non) : v = .non := by
  rcases h with h | ⟨_, _, e, _⟩
  · cases h; rfl
  · cases e
end

/-! ### the monad -/
abbrev M (S α : Type) := S → Option (α × S)
section
variable {S α β : Type}
def mr (a : α) : M S α := fun s => some (a, s)
def ml (o : Option α) : M S α := fun s => match o with
  | none => none
  | some a => some (a, s)
def mb (m : M S α) (k : α → M S β) : M S β := fun s => match m s with
  | none => none
  | some (a, s') => k a s'
theorem mb_some {m : M S α} {k : α → M S β} {s s2 : S} {b : β} (h : mb m k s = some (b, s2)) : ∃ a s1, m s = some (a, s1) ∧ k a s1 = some (b, s2) := by
  unfold mb at h
  cases e : m s with
  | none => rw [e] at h; cases h
  | some p => obtain ⟨a, s1⟩ := p; rw [e] at h; exact ⟨a, s1, rfl, h⟩
theorem ml_some {o : Option α} {s s2 : S} {a : α} (h : ml o s = some (a, s2)) : o = some a ∧ s2 = s := by
  unfold ml at h
  cases o with
  | none => cases h
  | some b => cases h; exact ⟨rfl, rfl⟩
theorem mr_some {b : α} {s s2 : S} {a : α} (h : mr b s = some (a, s2)) : b = a ∧ s2 = s := by
  cases h; exact ⟨rfl, rfl⟩
end

/-! ### expressions -/
def tq (R : RK) (f : Ev → M R.S D) : TE := fun σ H Q => ∃ hs Z H0 F0 ρ st F d st', W R hs Z H0 F0 ρ st σ F H ∧ f ρ st = some (d, st') ∧
  ∀ v F' H', W R hs Z H0 F0 ρ st' σ F' H' → Same F F' → RpE hs ρ σ F' v d → Q v H'
def tqT (R : RK) (f : Ev → M R.S Bool) : TT := fun σ H Q => ∃ hs Z H0 F0 ρ st F d st', W R hs Z H0 F0 ρ st σ F H ∧ f ρ st = some (d, st') ∧
  ∀ F' H', W R hs Z H0 F0 ρ st' σ F' H' → Same F F' → Q d H'
def RpEL (hs : Hs) (ρ : Ev) (σ : St) (F : Hp) : List V → List D → Prop
  | [], [] => True
  | v :: vs, d :: ds => RpE hs ρ σ F v d ∧ RpEL hs ρ σ F vs ds
  | _, _ => False
theorem RpEL.mono {hs : Hs} {ρ : Ev} {σ : St} {F F' : Hp} (s : Same F F') : ∀ {vs : List V} {ds : List D}, RpEL hs ρ σ F vs ds → RpEL hs ρ σ F' vs ds
  | [], [], _ => trivial
  | _ :: _, _ :: _, ⟨a, b⟩ => ⟨a.mono s, RpEL.mono s b⟩
  | [], _ :: _, z => z.elim
  | _ :: _, [], z => z.elim
theorem RpEL.pl {hs : Hs} {ρ : Ev} {σ : St} {F : Hp} : ∀ {vs : List V} {ds : List D}, RpEL hs ρ σ F vs ds → ds.all plain = true → RpL hs F vs ds
  | [], [], _, _ => .nil
  | _ :: _, _ :: _, ⟨a, b⟩, p => by
    rw [List.all_cons, Bool.and_eq_true] at p
    exact .cons (a.pl p.1) (RpEL.pl b p.2)
  | [], _ :: _, z, _ => z.elim
  | _ :: _, [], z, _ => z.elim
def tqA (R : RK) (f : Ev → M R.S (List D)) : TA := fun σ H Q => ∃ hs Z H0 F0 ρ st F ds st', W R hs Z H0 F0 ρ st σ F H ∧ f ρ st = some (ds, st') ∧
  ∀ vs F' H', W R hs Z H0 F0 ρ st' σ F' H' → Same F F' → RpEL hs ρ σ F' vs ds → Q vs H'
abbrev QE (X : Cx) (R : RK) (e : Expr) (f : Ev → M R.S D) : Prop := PE X e (tq R f)
abbrev QT (X : Cx) (R : RK) (e : Expr) (f : Ev → M R.S Bool) : Prop := PT X e (tqT R f)
abbrev QW (X : Cx) (R : RK) (e : Expr) (f : Ev → M R.S Bool) : Prop := PW X e (tqT R f)
abbrev QA (X : Cx) (R : RK) (es : List Expr) (f : Ev → M R.S (List D)) : Prop := PA X es (tqA R f)

section
variable {X : Cx} {R : RK} {e : Expr} {es : List Expr}
theorem imp_e {t t' : TE} (h : PE X e t) (w : ∀ σ H Q, t' σ H Q → t σ H Q) : PE X e t' := ⟨fun pins s σ H Q I q => h.run pins s σ H Q I (w _ _ _ q)⟩
theorem imp_t {t t' : TT} (h : PT X e t) (w : ∀ σ H Q, t' σ H Q → t σ H Q) : PT X e t' := ⟨fun pins s σ H Q I q => h.run pins s σ H Q I (w _ _ _ q)⟩
theorem imp_w {t t' : TT} (h : PW X e t) (w : ∀ σ H Q, t' σ H Q → t σ H Q) : PW X e t' := ⟨fun wh pins s σ H Q I q => h.run wh pins s σ H Q I (w _ _ _ q)⟩
theorem imp_a {t t' : TA} (h : PA X es t) (w : ∀ σ H Q, t' σ H Q → t σ H Q) : PA X es t' := ⟨fun pos pins s σ H Q I q => h.run pos pins s σ H Q I (w _ _ _ q)⟩
end

section
variable {X : Cx} {R : RK} {S : Type}
/-! names, constants -/
def dVar (i : Nat) : Ev → M S D := fun ρ => ml (match ρ[i]? with
  | some (.val d) => some d
  | some (.own d) => some (.brw i d)
  | _ => none)
theorem qe_var {e : Expr} {i : Nat} (h : PE X e (tVar i)) : QE X R e (dVar i) := imp_e h fun σ H Q ⟨hs, Z, H0, F0, ρ, st, F, d, st', w, e, q⟩ => by
  obtain ⟨e1, rfl⟩ := ml_some e
  cases r : ρ[i]? with
  | none => rw [r] at e1; cases e1
  | some z =>
    rw [r] at e1
    cases z with
    | non => cases e1
    | deep _ => cases e1
    | val d =>
      cases e1
      obtain ⟨v, h1, h2⟩ := w.val i _ r
      exact ⟨v, h1, q v F H w (Same.refl _) (.inl h2)⟩
    | own d =>
      cases e1
      obtain ⟨a, h1, _⟩ := w.own i _ r
      exact ⟨_, h1, q _ F H w (Same.refl _) (.inr ⟨i, d, rfl, r, h1⟩)⟩
def dC (d : D) : Ev → M S D := fun _ => mr d
theorem tq_c {v : V} {d : D} (h : ∀ hs F, Rp hs F v d) : ∀ σ H Q, tq R (dC d) σ H Q → tC v σ H Q := fun σ H Q ⟨hs, Z, H0, F0, ρ, st, F, d, st', w, e, q⟩ => by
  obtain ⟨rfl, rfl⟩ := mr_some e
  exact q v F H w (Same.refl _) (.inl (h _ _))
theorem qe_int {i : Int} {j pos} : QE X R (.Constant (.int i) j pos) (dC (.int i)) := imp_e pe_int (tq_c fun _ _ => .int i)
theorem qe_bl {b : Bool} {j pos} : QE X R (.Constant (.bool b) j pos) (dC (.bl b)) := imp_e pe_bl (tq_c fun _ _ => .bl b)
theorem qe_non {j pos} : QE X R (.Constant .none j pos) (dC .non) := imp_e pe_non (tq_c fun _ _ => .non)
theorem qe_str {x : Str} {j pos} : QE X R (.Constant (.str x) j pos) (dC (.str x)) := imp_e pe_str (tq_c fun _ _ => .str x)

/-! two values -/
def dOp (g : D → D → Option D) (f1 f2 : Ev → M S D) : Ev → M S D := fun ρ => mb (f1 ρ) fun d => mb (f2 ρ) fun e => ml (g d e)
def rq2 (R : RK) (g : D → D → Option D) : R2 := fun x y H Q => ∃ hs Z H0 F0 ρ st σ F d e z, W R hs Z H0 F0 ρ st σ F H ∧ RpE hs ρ σ F x d ∧ RpE hs ρ σ F y e ∧ g d e = some z ∧
  ∀ v F' H', W R hs Z H0 F0 ρ st σ F' H' → Same F F' → Rp hs F' v z → Q v H'
def OpQ (R : RK) (r : R2) (g : D → D → Option D) : Prop := ∀ x y H Q, rq2 R g x y H Q → r x y H Q
theorem tq_op {r : R2} {g : D → D → Option D} {f1 f2 : Ev → M R.S D} (h : OpQ R r g) : ∀ σ H Q, tq R (dOp g f1 f2) σ H Q → tOp r (tq R f1) (tq R f2) σ H Q := fun σ H Q ⟨hs, Z, H0, F0, ρ, st, F, d, st', w, e, q⟩ => by
  obtain ⟨a, s1, e1, e⟩ := mb_some e
  obtain ⟨b, s2, e2, e⟩ := mb_some e
  obtain ⟨e3, rfl⟩ := ml_some e
  refine ⟨hs, Z, H0, F0, ρ, st, F, a, s1, w, e1, fun v F1 H1 w1 m1 r1 => ?_⟩
  refine ⟨hs, Z, H0, F0, ρ, s1, F1, b, st', w1, e2, fun u F2 H2 w2 m2 r2 => ?_⟩
  exact h _ _ _ _ ⟨hs, Z, H0, F0, ρ, st', σ, F2, a, b, d, w2, r1.mono m2, r2, e3, fun x F3 H3 w3 m3 r3 => q x F3 H3 w3 ((m1.trans m2).trans m3) (.inl r3)⟩
theorem qe_op {op : Operator} {r : R2} {g : D → D → Option D} {a b : Expr} {pos : Pos} {f1 f2 : Ev → M R.S D} (ho : OpR X (binaryOp op) r) (hg : OpQ R r g) (ha : QE X R a f1) (hb : QE X R b f2) : QE X R (.BinOp a op b pos) (dOp g f1 f2) := imp_e (pe_op ho ha hb) (tq_op hg)
theorem qe_cmp {op : CmpOp} {r : R2} {g : D → D → Option D} {a b : Expr} {pos : Pos} {f1 f2 : Ev → M R.S D} (ho : OpR X (compareOp op) r) (hg : OpQ R r g) (ha : QE X R a f1) (hb : QE X R b f2) (hm : behindInMarks op b = false) :
    QE X R (.Compare a [op] [b] pos) (dOp g f1 f2) := imp_e (pe_cmpR ho ha hb hm) (tq_op hg)
theorem qe_ix {r : R2} {g : D → D → Option D} {a b : Expr} {pos : Pos} {f1 f2 : Ev → M R.S D} (ho : IxR X r) (hg : OpQ R r g) (ha : QE X R a f1) (hb : QE X R b f2) (hs : PlainIx b) :
    QE X R (.Subscript a b pos) (dOp g f1 f2) := imp_e (pe_ix ho ha hb hs) (tq_op hg)
/-! one value -/
def dU (g : D → Option D) (f : Ev → M S D) : Ev → M S D := fun ρ => mb (f ρ) fun d => ml (g d)
def rq1 (R : RK) (g : D → Option D) : V → Hp → VK → Prop := fun x H Q => ∃ hs Z H0 F0 ρ st σ F d z, W R hs Z H0 F0 ρ st σ F H ∧ RpE hs ρ σ F x d ∧ g d = some z ∧
  ∀ v F' H', W R hs Z H0 F0 ρ st σ F' H' → Same F F' → Rp hs F' v z → Q v H'
theorem tq_u {r : V → Hp → VK → Prop} {g : D → Option D} {f : Ev → M R.S D} (h : ∀ x H Q, rq1 R g x H Q → r x H Q) : ∀ σ H Q, tq R (dU g f) σ H Q → tUn r (tq R f) σ H Q := fun σ H Q ⟨hs, Z, H0, F0, ρ, st, F, d, st', w, e, q⟩ => by
  obtain ⟨a, s1, e1, e⟩ := mb_some e
  obtain ⟨e3, rfl⟩ := ml_some e
  refine ⟨hs, Z, H0, F0, ρ, st, F, a, st', w, e1, fun v F1 H1 w1 m1 r1 => ?_⟩
  exact h _ _ _ ⟨hs, Z, H0, F0, ρ, st', σ, F1, a, d, w1, r1, e3, fun x F3 H3 w3 m3 r3 => q x F3 H3 w3 (m1.trans m3) (.inl r3)⟩
theorem qe_un {op : UnaryOp} {r : V → Hp → VK → Prop} {g : D → Option D} {a : Expr} {pos : Pos} {f : Ev → M R.S D} (ho : UnR X (unaryOp op) r) (hg : ∀ x H Q, rq1 R g x H Q → r x H Q) (ha : QE X R a f) : QE X R (.UnaryOp op a pos) (dU g f) := imp_e (pe_un ho ha) (tq_u hg)

/-! argument lists, displays -/
def dNil : Ev → M S (List D) := fun _ => mr []
def dCons (f : Ev → M S D) (g : Ev → M S (List D)) : Ev → M S (List D) := fun ρ => mb (f ρ) fun d => mb (g ρ) fun ds => mr (d :: ds)
theorem qa_nil : QA X R [] dNil := imp_a pa_nil fun σ H Q ⟨hs, Z, H0, F0, ρ, st, F, d, st', w, e, q⟩ => by
  obtain ⟨rfl, rfl⟩ := mr_some e
  exact q [] F H w (Same.refl _) trivial
theorem qa_cons {e : Expr} {es : List Expr} {f : Ev → M R.S D} {g : Ev → M R.S (List D)} (ha : QE X R e f) (hr : QA X R es g) (hs : starEach (e :: es) X.env = (false, eval e X.env) :: starEach es X.env := by rfl) : QA X R (e :: es) (dCons f g) :=
  imp_a (pa_cons ha hr hs) fun σ H Q ⟨hs, Z, H0, F0, ρ, st, F, d, st', w, e, q⟩ => by
    obtain ⟨a, s1, e1, e⟩ := mb_some e
    obtain ⟨b, s2, e2, e⟩ := mb_some e
    obtain ⟨rfl, rfl⟩ := mr_some e
    refine ⟨hs, Z, H0, F0, ρ, st, F, a, s1, w, e1, fun v F1 H1 w1 m1 r1 => ?_⟩
    exact ⟨hs, Z, H0, F0, ρ, s1, F1, b, st', w1, e2, fun u F2 H2 w2 m2 r2 => q _ F2 H2 w2 (m1.trans m2) ⟨r1.mono m2, r2⟩⟩
def dTup (f : Ev → M S (List D)) : Ev → M S D := fun ρ => mb (f ρ) fun ds => ml (if ds.all plain = true ∧ ds.length ≤ 1000 then some (.tup ds) else none)
def dLst (f : Ev → M S (List D)) : Ev → M S D := fun ρ => mb (f ρ) fun ds => ml (if ds.all plain = true ∧ ds.length ≤ 1000 then some (.lst ds) else none)
theorem ite_some {c : Prop} [Decidable c] {α : Type} {a b : α} (h : (if c then some a else none) = some b) : c ∧ a = b := by
  by_cases hc : c
  · rw [if_pos hc] at h; cases h; exact ⟨hc, rfl⟩
  · rw [if_neg hc] at h; cases h
theorem le_line {n : Nat} (h : n ≤ 1000) : n ≤ sizeLine := Nat.le_trans h (by decide)
theorem qe_tup {es : List Expr} {x1 : Nat} {pos : Pos} {f : Ev → M R.S (List D)} (h : QA X R es f) : QE X R (.Tuple es x1 pos) (dTup f) := imp_e (pe_tup h) fun σ H Q ⟨hs, Z, H0, F0, ρ, st, F, d, st', w, e, q⟩ => by
  obtain ⟨ds, s1, e1, e⟩ := mb_some e
  obtain ⟨e3, rfl⟩ := ml_some e
  obtain ⟨⟨c1, c2⟩, rfl⟩ := ite_some e3
  refine ⟨hs, Z, H0, F0, ρ, st, F, ds, st', w, e1, fun vs F1 H1 w1 m1 r1 => ?_⟩
  have rl := r1.pl c1
  refine ⟨by rw [rl.length]; exact le_line c2, fun p np => ?_⟩
  have m2 := same_alloc w1 np (.tup vs)
  exact q _ _ _ (w1.alloc np (.tup vs)) (m1.trans m2) (.inl (.tup upd_same (rl.mono m2)))
/-- a new list: the reading in which it is not yet frozen -/
def tqN (R : RK) (f : Ev → M R.S (List D)) : TE := fun σ H Q => ∃ hs Z H0 F0 ρ st F ds st', W R hs Z H0 F0 ρ st σ F H ∧ f ρ st = some (ds, st') ∧
  ∀ p vs F' H', W R hs Z H0 F0 ρ st' σ F' H' → Same F F' → H' p = none → RpL hs F' vs ds → Q (.ref p) (upd H' p (.lst vs))
abbrev QN (X : Cx) (R : RK) (e : Expr) (f : Ev → M R.S (List D)) : Prop := PE X e (tqN R f)
/-- the new list, frozen -/
def dFz (f : Ev → M S (List D)) : Ev → M S D := fun ρ => mb (f ρ) fun ds => mr (.lst ds)
theorem qe_fz {e : Expr} {f : Ev → M R.S (List D)} (h : QN X R e f) : QE X R e (dFz f) := imp_e h fun σ H Q ⟨hs, Z, H0, F0, ρ, st, F, d, st', w, e, q⟩ => by
  obtain ⟨ds, s1, e1, e⟩ := mb_some e
  obtain ⟨rfl, rfl⟩ := mr_some e
  refine ⟨hs, Z, H0, F0, ρ, st, F, ds, st', w, e1, fun p vs F1 H1 w1 m1 np r1 => ?_⟩
  have m2 := same_alloc w1 np (.lst vs)
  exact q _ _ _ (w1.alloc np (.lst vs)) (m1.trans m2) (.inl (.lst upd_same (r1.mono m2)))
def dPl (f : Ev → M S (List D)) : Ev → M S (List D) := fun ρ => mb (f ρ) fun ds => ml (if ds.all plain = true ∧ ds.length ≤ 1000 then some ds else none)
theorem qn_lst {es : List Expr} {pos : Pos} {f : Ev → M R.S (List D)} (h : QA X R es f) : QN X R (.List es pos) (dPl f) := imp_e (pe_lst h) fun σ H Q ⟨hs, Z, H0, F0, ρ, st, F, d, st', w, e, q⟩ => by
  obtain ⟨ds, s1, e1, e⟩ := mb_some e
  obtain ⟨e3, rfl⟩ := ml_some e
  obtain ⟨⟨c1, c2⟩, rfl⟩ := ite_some e3
  refine ⟨hs, Z, H0, F0, ρ, st, F, ds, st', w, e1, fun vs F1 H1 w1 m1 r1 => ?_⟩
  have rl := r1.pl c1
  exact ⟨by rw [rl.length]; exact le_line c2, fun p np => q p vs F1 H1 w1 m1 np rl⟩

/-! tests -/
def dTst (f : Ev → M S D) : Ev → M S Bool := fun ρ => mb (f ρ) fun d => ml (match d with
  | .bl k => some k
  | _ => none)
theorem tq_tst {t : TE} {f : Ev → M R.S D} (h : ∀ σ H Q, tq R f σ H Q → t σ H Q) : ∀ σ H Q, tqT R (dTst f) σ H Q → tTest t σ H Q := fun σ H Q ⟨hs, Z, H0, F0, ρ, st, F, d, st', w, e, q⟩ => by
  obtain ⟨a, s1, e1, e⟩ := mb_some e
  obtain ⟨e3, rfl⟩ := ml_some e
  refine h _ _ _ ⟨hs, Z, H0, F0, ρ, st, F, a, st', w, e1, fun v F1 H1 w1 m1 r1 => ?_⟩
  cases a with
  | bl k => cases e3; exact ⟨_, r1.bl, q F1 H1 w1 m1⟩
  | _ => cases e3
theorem qt_cmp {op : CmpOp} {r : R2} {g : D → D → Option D} {a b : Expr} {pos : Pos} {f1 f2 : Ev → M R.S D} (ho : OpR X (compareOp op) r) (hg : OpQ R r g) (ha : QE X R a f1) (hb : QE X R b f2) (hm : behindInMarks op b = false) :
    QT X R (.Compare a [op] [b] pos) (dTst (dOp g f1 f2)) := imp_t (pt_cmpR ho ha hb hm) (tq_tst (tq_op hg))
def truD : D → Option Bool
  | .bl b => some b
  | .int i => some (i != 0)
  | .non => some false
  | .str x => if x.length ≤ 1000 then some (x.length != 0) else none
  | .lst xs => some (!xs.isEmpty)
  | .tup xs => some (!xs.isEmpty)
  | _ => none
def dTru (f : Ev → M S D) : Ev → M S Bool := fun ρ => mb (f ρ) fun d => ml (truD (strip d))
end
end QL
end
section
set_option Elab.async false
set_option linter.all false
set_option maxRecDepth 100000
set_option maxHeartbeats 4000000
/-! QL: operators on data, tests, statements, targets, loops. -/
namespace QL
open PySem PySem.Spec L2

/-! ### data as the library knows it -/
def fitD : Nat → D → Bool
  | 0, d => match d with
    | .non => true
    | .bl _ => true
    | .int _ => true
    | .str x => PyData.strOk x
    | _ => false
  | n + 1, d => match d with
    | .non => true
    | .bl _ => true
    | .int _ => true
    | .str x => PyData.strOk x
    | .lst xs => xs.all (fitD n)
    | .tup xs => xs.all (fitD n)
    | _ => false
def dat : Nat → D → PyData
  | 0, d => match d with
    | .bl b => .bool b
    | .int i => .int i
    | .str x => .str x
    | _ => .none
  | n + 1, d => match d with
    | .bl b => .bool b
    | .int i => .int i
    | .str x => .str x
    | .lst xs => .list (xs.map (dat n))
    | .tup xs => .tuple (xs.map (dat n))
    | _ => .none
abbrev DEP : Nat := 9
abbrev LIM : Nat := 16000000
theorem lim_line {n : Nat} (h : n ≤ LIM) : n ≤ sizeLine := Nat.le_trans h (by decide)
theorem lim_lt {n : Nat} (h : n ≤ LIM) : n < sizeLine := Nat.lt_of_le_of_lt h (by decide)
def eqD (d e : D) : Bool := PyData.eqv (dat DEP d) (dat DEP e)

theorem dp_all {K : PySem.W.Frag} {hs : Hs} {H : Hp} {g : D → PyData} (ih : ∀ d v, Rp hs H v d → (∃ k, fitD k d = true) → True) : True := trivial
theorem dp_of {K : PySem.W.Frag} {hs : Hs} {H : Hp} : ∀ (n : Nat) (d : D) (v : V), Rp hs H v d → fitD n d = true → Dp K H v (dat n d)
  | 0, _, _, r, f => by
    cases r with
    | non => exact .non
    | bl b => exact .bl b
    | int i => exact .int i
    | str x => exact .str x
    | _ => cases f
  | n + 1, _, _, r, f => by
    have all : ∀ (ds : List D) (vs : List V), RpL hs H vs ds → ds.all (fitD n) = true → DpAll K H vs (ds.map (dat n)) := by
      intro ds
      induction ds with
      | nil => intro vs r _; cases r; exact .nil
      | cons d ds ih =>
        intro vs r f
        cases r with
        | cons r1 r2 =>
          rw [List.all_cons, Bool.and_eq_true] at f
          exact .cons (dp_of n d _ r1 f.1) (ih _ r2 f.2)
    cases r with
    | non => exact .non
    | bl b => exact .bl b
    | int i => exact .int i
    | str x => exact .str x
    | lst e q => exact .lst (SqL.of e) (all _ _ q f)
    | tup e q => exact .tup (SqT.of e) (all _ _ q f)
    | hd _ => cases f
    | dct _ _ _ => cases f
theorem lay_of : ∀ (n : Nat) (d : D), fitD n d = true → (dat n d).canLay0 = true
  | 0, d, f => by
    cases d with
    | str x => simp only [dat, PyData.canLay0]; exact f
    | _ => simp [dat, PyData.canLay0]
  | n + 1, d, f => by
    have all : ∀ ds : List D, ds.all (fitD n) = true → PyData.canLayAll0 (ds.map (dat n)) = true := by
      intro ds
      induction ds with
      | nil => intro _; simp [PyData.canLayAll0]
      | cons d ds ih =>
        intro f
        rw [List.all_cons, Bool.and_eq_true] at f
        simp only [List.map_cons, PyData.canLayAll0, Bool.and_eq_true]
        exact ⟨lay_of n d f.1, ih f.2⟩
    cases d with
    | str x => simp only [dat, PyData.canLay0]; exact f
    | lst xs => simp only [dat, PyData.canLay0]; exact all xs f
    | tup xs => simp only [dat, PyData.canLay0]; exact all xs f
    | _ => simp [dat, PyData.canLay0]
theorem dep_of : ∀ (n : Nat) (d : D), (dat n d).depth ≤ n
  | 0, d => by cases d <;> simp [dat, PyData.depth]
  | n + 1, d => by
    have all : ∀ ds : List D, PyData.depthAll (ds.map (dat n)) ≤ n := by
      intro ds
      induction ds with
      | nil => simp [PyData.depthAll]
      | cons d ds ih =>
        simp only [List.map_cons, PyData.depthAll]
        exact Nat.max_le.mpr ⟨dep_of n d, ih⟩
    cases d with
    | lst xs => simp only [dat, PyData.depth]; exact Nat.succ_le_succ (all xs)
    | tup xs => simp only [dat, PyData.depth]; exact Nat.succ_le_succ (all xs)
    | _ => simp [dat, PyData.depth]
theorem shaped_of {d : D} (f : fitD DEP d = true) : SeqAt.shaped (dat DEP d) = true := by
  unfold SeqAt.shaped
  rw [lay_of _ _ f, Bool.true_and]
  exact decide_eq_true (Nat.le_trans (dep_of _ _) (by decide))

/-! ### operators -/
section
variable {X : Cx} {R : RK}
/-- on two ints -/
def gI (p : Int → Int → Bool) (g : Int → Int → D) : D → D → Option D
  | .int i, .int j => if p i j = true then some (g i j) else none
  | _, _ => none
theorem q_int {C : Int → Int → Prop} {f : Int → Int → V} {p : Int → Int → Bool} {g : Int → Int → D} (hc : ∀ i j, p i j = true → C i j) (hr : ∀ hs F i j, Rp hs F (f i j) (g i j)) : OpQ R (rI C f) (gI p g) := by
  rintro x y H Q ⟨hs, Z, H0, F0, ρ, st, σ, F, d, e, z, w, r1, r2, h3, q⟩
  cases d with
  | int i =>
    cases e with
    | int j =>
      obtain ⟨c, rfl⟩ := ite_some h3
      exact ⟨i, j, r1.int, r2.int, hc i j c, q _ F H w (Same.refl _) (hr _ _ i j)⟩
    | _ => cases h3
  | _ => cases h3
def gI0 (g : Int → Int → D) : D → D → Option D
  | .int i, .int j => some (g i j)
  | _, _ => none
theorem q_int0 {f : Int → Int → V} {g : Int → Int → D} (hr : ∀ hs F i j, Rp hs F (f i j) (g i j)) : OpQ R (rI0 f) (gI0 g) := by
  rintro x y H Q ⟨hs, Z, H0, F0, ρ, st, σ, F, d, e, z, w, r1, r2, h3, q⟩
  cases d with
  | int i =>
    cases e with
    | int j =>
      cases h3
      exact ⟨i, j, r1.int, r2.int, q _ F H w (Same.refl _) (hr _ _ i j)⟩
    | _ => cases h3
  | _ => cases h3
def small64 (i : Int) : Bool := decide (-(2 ^ 64) < i ∧ i < 2 ^ 64)
def subD : D → D → Option D := gI0 fun i j => .int (i - j)
def mulD : D → D → Option D := gI (fun i j => small64 i || small64 j) fun i j => .int (i * j)
def fdivD : D → D → Option D := gI (fun _ j => decide (0 < j ∧ j < 1073741824)) fun i j => .int (i / j)
def modD : D → D → Option D := gI (fun _ j => decide (0 < j)) fun i j => .int (i % j)
def powD : D → D → Option D := gI (fun i j => decide (0 ≤ j ∧ j ≤ 1000 ∧ i.natAbs < 2 ^ 64)) fun i j => .int (i ^ j.toNat)
theorem q_sub : OpQ R (rI0 fun i j => .int (i - j)) subD := q_int0 fun _ _ _ _ => .int _
theorem q_mul : OpQ R (rI CMul fun i j => .int (i * j)) mulD := q_int (fun i j h => by
  rw [Bool.or_eq_true] at h
  rcases h with h | h
  · exact .inl (of_decide_eq_true h)
  · exact .inr (of_decide_eq_true h)) fun _ _ _ _ => .int _
theorem q_fdiv : OpQ R (rI CDiv fun i j => .int (i / j)) fdivD := q_int (fun i j h => show 0 < j ∧ j < 1073741824 from of_decide_eq_true h) fun _ _ _ _ => .int _
theorem q_mod : OpQ R (rI (fun _ j => 0 < j) fun i j => .int (i % j)) modD := q_int (fun i j h => of_decide_eq_true h) fun _ _ _ _ => .int _
theorem q_pow : OpQ R (rI CPow fun i j => .int (i ^ j.toNat)) powD := q_int (fun i j h => by
  obtain ⟨h1, h2, h3⟩ := of_decide_eq_true h
  exact ⟨h1, by omega, h3⟩) fun _ _ _ _ => .int _
def ltD : D → D → Option D := gI0 fun i j => .bl (decide (i < j))
def leD : D → D → Option D := gI0 fun i j => .bl (decide (i ≤ j))
def gtD : D → D → Option D := gI0 fun i j => .bl (decide (j < i))
def geD : D → D → Option D := gI0 fun i j => .bl (decide (j ≤ i))
theorem q_lt : OpQ R (rI0 fun i j => .bl (decide (i < j))) ltD := q_int0 fun _ _ _ _ => .bl _
theorem q_le : OpQ R (rI0 fun i j => .bl (decide (i ≤ j))) leD := q_int0 fun _ _ _ _ => .bl _
theorem q_gt : OpQ R (rI0 fun i j => .bl (decide (j < i))) gtD := q_int0 fun _ _ _ _ => .bl _
theorem q_ge : OpQ R (rI0 fun i j => .bl (decide (j ≤ i))) geD := q_int0 fun _ _ _ _ => .bl _
def isND (b : Bool) : D → D → Option D := fun d e => match e with
  | .non => some (.bl (match d with
    | .non => b
    | _ => !b))
  | _ => none
theorem non_iff {hs : Hs} {ρ : Ev} {σ : L2.St} {F : Hp} {Z : Addr → Prop} {H0 F0 H : Hp} {st : R.S} {v : V} {d : D} (w : W R hs Z H0 F0 ρ st σ F H) (h : RpE hs ρ σ F v d) : decide (v = .non) = (match d with | .non => true | _ => false) := by
  have h' := h.vw w
  rcases h with h | ⟨i, d', rfl, _⟩
  · cases h <;> rfl
  · cases d' with
    | non => rename_i h1; obtain ⟨a, _, _, _, _, z⟩ := w.own _ _ h1.1; exact z.elim
    | _ => cases h' <;> rfl
theorem q_isN : OpQ R (fun x y H Q => y = .non ∧ Q (.bl (decide (x = .non))) H) (isND true) := by
  rintro x y H Q ⟨hs, Z, H0, F0, ρ, st, σ, F, d, e, z, w, r1, r2, h3, q⟩
  cases e with
  | non =>
    refine ⟨r2.non, ?_⟩
    rw [non_iff w r1]
    cases h3
    exact q _ F H w (Same.refl _) (by cases d <;> exact .bl _)
  | _ => cases h3
theorem q_notN : OpQ R (fun x y H Q => y = .non ∧ Q (.bl (!decide (x = .non))) H) (isND false) := by
  rintro x y H Q ⟨hs, Z, H0, F0, ρ, st, σ, F, d, e, z, w, r1, r2, h3, q⟩
  cases e with
  | non =>
    refine ⟨r2.non, ?_⟩
    rw [non_iff w r1]
    cases h3
    exact q _ F H w (Same.refl _) (by cases d <;> exact .bl _)
  | _ => cases h3
/-! ==, != -/
def str2 : D → D → Option (Str × Str)
  | .str x, .str y => some (x, y)
  | _, _ => none
theorem str2_some {d e : D} {p : Str × Str} (h : str2 d e = some p) : d = .str p.1 ∧ e = .str p.2 := by
  cases d with
  | str x =>
    cases e with
    | str y => cases h; exact ⟨rfl, rfl⟩
    | _ => cases h
  | _ => cases h
def eqO (neg : Bool) : D → D → Option D := fun d e => match str2 d e with
  | some p => some (.bl (neg ^^ decide (p.1 = p.2)))
  | none => if fitD DEP (strip d) = true ∧ fitD DEP (strip e) = true then some (.bl (neg ^^ eqD (strip d) (strip e))) else none
theorem o_eq (hu : X.A.units + 64 < cLine) : OpR X (compareOp .Eq) (fun x y H Q => rEq x y H Q ∨ rEqD X.K x y H Q) := op_eq.or (op_eqD hu)
theorem o_ne (hu : X.A.units + 64 < cLine) : OpR X (compareOp .NotEq) (fun x y H Q => rNe x y H Q ∨ rNeD X.K x y H Q) := op_ne.or (op_neD hu)
theorem dec_strV (x y : Str) : decide (V.str x = V.str y) = decide (x = y) := by
  by_cases h : x = y
  · subst h; simp
  · rw [decide_eq_false h]; exact decide_eq_false fun e => h (V.str.inj e)
theorem q_eq {K : PySem.W.Frag} : OpQ R (fun x y H Q => rEq x y H Q ∨ rEqD K x y H Q) (eqO false) := by
  rintro x y H Q ⟨hs, Z, H0, F0, ρ, st, σ, F, d, e, z, w, r1, r2, h3, q⟩
  unfold eqO at h3
  cases c : str2 d e with
  | some p =>
    rw [c] at h3
    obtain ⟨rfl, rfl⟩ := str2_some c
    cases h3
    refine .inl ⟨?_, ?_⟩
    · rw [r1.str, r2.str]; rfl
    · rw [r1.str, r2.str, dec_strV]
      exact q _ F H w (Same.refl _) (by rw [Bool.false_xor]; exact .bl _)
  | none =>
    rw [c] at h3
    obtain ⟨⟨c1, c2⟩, rfl⟩ := ite_some h3
    refine .inr ⟨_, _, dp_of _ _ _ (r1.vw w) c1, dp_of _ _ _ (r2.vw w) c2, shaped_of c1, shaped_of c2, ?_⟩
    exact q _ F H w (Same.refl _) (by rw [Bool.false_xor]; exact .bl _)
theorem q_ne {K : PySem.W.Frag} : OpQ R (fun x y H Q => rNe x y H Q ∨ rNeD K x y H Q) (eqO true) := by
  rintro x y H Q ⟨hs, Z, H0, F0, ρ, st, σ, F, d, e, z, w, r1, r2, h3, q⟩
  unfold eqO at h3
  cases c : str2 d e with
  | some p =>
    rw [c] at h3
    obtain ⟨rfl, rfl⟩ := str2_some c
    cases h3
    refine .inl ⟨?_, ?_⟩
    · rw [r1.str, r2.str]; rfl
    · rw [r1.str, r2.str, dec_strV]
      exact q _ F H w (Same.refl _) (by rw [Bool.true_xor]; exact .bl _)
  | none =>
    rw [c] at h3
    obtain ⟨⟨c1, c2⟩, rfl⟩ := ite_some h3
    refine .inr ⟨_, _, dp_of _ _ _ (r1.vw w) c1, dp_of _ _ _ (r2.vw w) c2, shaped_of c1, shaped_of c2, ?_⟩
    exact q _ F H w (Same.refl _) (by rw [Bool.true_xor]; exact .bl _)
/-! in, not in: a list -/
def inO (neg : Bool) : D → D → Option D := fun d e => match strip e with
  | .lst es => if fitD DEP (strip d) = true ∧ fitD DEP (.lst es) = true then some (.bl (neg ^^ (es.map (dat (DEP - 1))).any fun z => PyData.eqv z (dat DEP (strip d)))) else none
  | _ => none
theorem q_in {K : PySem.W.Frag} : OpQ R (rInD K) (inO false) := by
  rintro x y H Q ⟨hs, Z, H0, F0, ρ, st, σ, F, d, e, z, w, r1, r2, h3, q⟩
  unfold inO at h3
  cases q2 : strip e with
  | lst es =>
    rw [q2] at h3
    obtain ⟨⟨c1, c2⟩, rfl⟩ := ite_some h3
    have v2 := r2.vw w
    rw [q2] at v2
    exact ⟨_, es.map (dat (DEP - 1)), dp_of _ _ _ (r1.vw w) c1, dp_of DEP (.lst es) _ v2 c2, shaped_of c1, shaped_of (d := .lst es) c2, q _ F H w (Same.refl _) (by rw [Bool.false_xor]; exact .bl _)⟩
  | _ => rw [q2] at h3; cases h3
theorem q_notIn {K : PySem.W.Frag} : OpQ R (rNotInD K) (inO true) := by
  rintro x y H Q ⟨hs, Z, H0, F0, ρ, st, σ, F, d, e, z, w, r1, r2, h3, q⟩
  unfold inO at h3
  cases q2 : strip e with
  | lst es =>
    rw [q2] at h3
    obtain ⟨⟨c1, c2⟩, rfl⟩ := ite_some h3
    have v2 := r2.vw w
    rw [q2] at v2
    exact ⟨_, es.map (dat (DEP - 1)), dp_of _ _ _ (r1.vw w) c1, dp_of DEP (.lst es) _ v2 c2, shaped_of c1, shaped_of (d := .lst es) c2, q _ F H w (Same.refl _) (by rw [Bool.true_xor]; exact .bl _)⟩
  | _ => rw [q2] at h3; cases h3
/-! items -/
def idxD : D → D → Option D := fun d e => match strip d, e with
  | .lst ds, .int i => atI ds i
  | .tup ds, .int i => atI ds i
  | _, _ => none
theorem rpl_at {hs : Hs} {F : Hp} {xs : List V} {ds : List D} {i : Int} {d : D} (r : RpL hs F xs ds) (h : atI ds i = some d) : ∃ v, atI xs i = some v ∧ Rp hs F v d := by
  unfold atI at h ⊢
  rw [r.length]
  cases e : ixN ds.length i with
  | none => rw [e] at h; cases h
  | some j =>
    rw [e] at h
    exact r.get h
theorem q_idx {K : PySem.W.Frag} : OpQ R (rIx K) idxD := by
  rintro x y H Q ⟨hs, Z, H0, F0, ρ, st, σ, F, d, e, z, w, r1, r2, h3, q⟩
  unfold idxD at h3
  cases q1 : strip d with
  | lst ds =>
    rw [q1] at h3
    cases e with
    | int i =>
      obtain ⟨a, xs, rfl, e1, rl⟩ := r1.lst w q1
      obtain ⟨v, e2, rv⟩ := rpl_at rl (show atI ds i = some z from h3)
      exact .inl ⟨a, xs, i, v, rfl, r2.int, SqL.of e1, e2, q v F H w (Same.refl _) rv⟩
    | _ => cases h3
  | tup ds =>
    rw [q1] at h3
    cases e with
    | int i =>
      obtain ⟨a, xs, rfl, e1, rl⟩ := r1.tup w q1
      obtain ⟨v, e2, rv⟩ := rpl_at rl (show atI ds i = some z from h3)
      exact .inr (.inl ⟨a, xs, i, v, rfl, r2.int, SqT.of (w.FH _ _ e1), e2, q v F H w (Same.refl _) rv⟩)
    | _ => cases h3
  | _ => rw [q1] at h3; cases h3
/-! + -/
def addD : D → D → Option D := fun d e => match strip d, strip e with
  | .int i, .int j => some (.int (i + j))
  | .str a, .str b => if a.length + b.length ≤ LIM then some (.str (a ++ b)) else none
  | .lst a, .lst b => if a.length + b.length ≤ LIM then some (.lst (a ++ b)) else none
  | .tup a, .tup b => if a.length + b.length ≤ LIM ∧ a ≠ [] ∧ b ≠ [] then some (.tup (a ++ b)) else none
  | _, _ => none
def rAddS : R2 := fun x y H Q => ∃ i j, x = .str i ∧ y = .str j ∧ i.length + j.length ≤ sizeLine ∧ Q (.str (i ++ j)) H
def rAdd4 (K : PySem.W.Frag) : R2 := fun x y H Q => rI0 (fun i j => .int (i + j)) x y H Q ∨ rAddS x y H Q ∨ rCat x y H Q ∨ rCatT K x y H Q
theorem o_add : OpR X (binaryOp .Add) (rAdd4 X.K) := op_add.or (op_add_str.or (op_cat.or op_catT))
theorem strip_int {d : D} {i : Int} {hs : Hs} {ρ : Ev} {σ : L2.St} {F : Hp} {Z : Addr → Prop} {H0 F0 H : Hp} {st : R.S} {v : V} (w : W R hs Z H0 F0 ρ st σ F H) (h : RpE hs ρ σ F v d) (e : strip d = .int i) : v = .int i := by
  have := h.vw w
  rw [e] at this
  cases this; rfl
theorem strip_str {d : D} {i : Str} {hs : Hs} {ρ : Ev} {σ : L2.St} {F : Hp} {Z : Addr → Prop} {H0 F0 H : Hp} {st : R.S} {v : V} (w : W R hs Z H0 F0 ρ st σ F H) (h : RpE hs ρ σ F v d) (e : strip d = .str i) : v = .str i := by
  have := h.vw w
  rw [e] at this
  cases this; rfl
theorem q_add {K : PySem.W.Frag} : OpQ R (rAdd4 K) addD := by
  rintro x y H Q ⟨hs, Z, H0, F0, ρ, st, σ, F, d, e, z, w, r1, r2, h3, q⟩
  unfold addD at h3
  cases q1 : strip d with
  | int i =>
    rw [q1] at h3
    cases q2 : strip e with
    | int j => rw [q2] at h3; cases h3; exact .inl ⟨i, j, strip_int w r1 q1, strip_int w r2 q2, q _ F H w (Same.refl _) (.int _)⟩
    | _ => rw [q2] at h3; cases h3
  | str a =>
    rw [q1] at h3
    cases q2 : strip e with
    | str b =>
      rw [q2] at h3
      obtain ⟨c, rfl⟩ := ite_some h3
      exact .inr (.inl ⟨a, b, strip_str w r1 q1, strip_str w r2 q2, lim_line c, q _ F H w (Same.refl _) (.str _)⟩)
    | _ => rw [q2] at h3; cases h3
  | lst a =>
    rw [q1] at h3
    cases q2 : strip e with
    | lst b =>
      rw [q2] at h3
      obtain ⟨c, rfl⟩ := ite_some h3
      obtain ⟨p1, xs, rfl, e1, rl1⟩ := r1.lst w q1
      obtain ⟨p2, ys, rfl, e2, rl2⟩ := r2.lst w q2
      refine .inr (.inr (.inl ⟨p1, p2, xs, ys, rfl, rfl, e1, e2, by rw [rl1.length, rl2.length]; exact lim_line c, fun p np => ?_⟩))
      have m := same_alloc w np (.lst (xs ++ ys))
      exact q _ _ _ (w.alloc np _) m (.lst upd_same ((rl1.append rl2).mono m))
    | _ => rw [q2] at h3; cases h3
  | tup a =>
    rw [q1] at h3
    cases q2 : strip e with
    | tup b =>
      rw [q2] at h3
      obtain ⟨⟨c, ha, hb⟩, rfl⟩ := ite_some h3
      obtain ⟨p1, xs, rfl, e1, rl1⟩ := r1.tup w q1
      obtain ⟨p2, ys, rfl, e2, rl2⟩ := r2.tup w q2
      have nx : xs ≠ [] := fun z => by subst z; cases rl1; exact ha rfl
      have ny : ys ≠ [] := fun z => by subst z; cases rl2; exact hb rfl
      refine .inr (.inr (.inr ⟨p1, p2, xs, ys, rfl, rfl, SqT.of (w.FH _ _ e1), SqT.of (w.FH _ _ e2), nx, by rw [rl1.length, rl2.length]; exact lim_line c, ?_⟩))
      first
        | (refine ⟨fun z => absurd z ny, fun _ p np => ?_⟩
           have m := same_alloc w np (.tup (xs ++ ys))
           exact q _ _ _ (w.alloc np _) m (.tup upd_same ((rl1.append rl2).mono m)))
        | (rw [if_neg ny]
           intro p np
           have m := same_alloc w np (.tup (xs ++ ys))
           exact q _ _ _ (w.alloc np _) m (.tup upd_same ((rl1.append rl2).mono m)))
    | _ => rw [q2] at h3; cases h3
  | _ => rw [q1] at h3; cases h3
/-! - -/
def negD : D → Option D
  | .int i => some (.int (-i))
  | _ => none
theorem q_neg : ∀ x H Q, rq1 R negD x H Q → rU (fun i => .int (-i)) x H Q := by
  rintro x H Q ⟨hs, Z, H0, F0, ρ, st, σ, F, d, z, w, r1, h3, q⟩
  cases d with
  | int i => cases h3; exact ⟨i, r1.int, q _ F H w (Same.refl _) (.int _)⟩
  | _ => cases h3
end
end QL
end
section
set_option Elab.async false
set_option linter.all false
set_option maxRecDepth 100000
set_option maxHeartbeats 4000000
/-! QL: tests, statements, targets, loops. -/
namespace QL
open PySem PySem.Spec L2

section
variable {X : Cx} {R : RK} {S : Type}
/-! ### tests -/
theorem RpL.consD {hs : Hs} {F : Hp} {vs : List V} {d : D} {ds : List D} (r : RpL hs F vs (d :: ds)) : ∃ v vs', vs = v :: vs' ∧ Rp hs F v d ∧ RpL hs F vs' ds := by
  cases r with
  | cons a b => exact ⟨_, _, rfl, a, b⟩
theorem Rp.tupD {hs : Hs} {F : Hp} {v : V} {ds : List D} (r : Rp hs F v (.tup ds)) : ∃ a xs, v = .ref a ∧ F a = some (.tup xs) ∧ RpL hs F xs ds := by
  cases r with
  | tup a b => exact ⟨_, _, rfl, a, b⟩
theorem Rp.lstD {hs : Hs} {F : Hp} {v : V} {ds : List D} (r : Rp hs F v (.lst ds)) : ∃ a xs, v = .ref a ∧ F a = some (.lst xs) ∧ RpL hs F xs ds := by
  cases r with
  | lst a b => exact ⟨_, _, rfl, a, b⟩
theorem tru_v {K : PySem.W.Frag} {hs : Hs} {ρ : Ev} {σ : L2.St} {F : Hp} {Z : Addr → Prop} {H0 F0 H : Hp} {st : R.S} {v : V} {d : D} {k : Bool} (w : W R hs Z H0 F0 ρ st σ F H) (h : RpE hs ρ σ F v d) (e : truD (strip d) = some k) : TruV K v H k := by
  have r := h.vw w
  cases q : strip d with
  | non => rw [q] at r e; cases r; cases e; exact rfl
  | bl b => rw [q] at r e; cases r; cases e; exact rfl
  | int i => rw [q] at r e; cases r; cases e; exact rfl
  | str x =>
    rw [q] at r e
    obtain ⟨c, rfl⟩ := ite_some e
    cases r
    refine ⟨le_line c, ?_⟩
    by_cases z : x.length = 0
    · rw [z]; rfl
    · have h1 : (x.length != 0) = true := by simpa using z
      have h2 : ((x.length : Int) != 0) = true := by simpa using z
      rw [h1, h2]
  | lst ds =>
    rw [q] at r e
    cases e
    cases r with
    | lst e1 rl =>
      refine .inl ⟨_, SqL.of e1, ?_⟩
      cases rl <;> rfl
  | tup ds =>
    rw [q] at r e
    cases e
    cases r with
    | tup e1 rl =>
      refine .inr (.inl ⟨_, SqT.of e1, ?_⟩)
      cases rl <;> rfl
  | _ => rw [q] at e; cases e
theorem qt_tru {a : Expr} {f : Ev → M R.S D} (ha : QE X R a f) (he : ∀ whole, isTrue a X.env whole = (do let v ← whole; standAt a.pos; holding [v] (truthy v))) : QT X R a (dTru f) :=
  imp_t (pt_truth ha he) fun σ H Q ⟨hs, Z, H0, F0, ρ, st, F, d, st', w, e, q⟩ => by
    obtain ⟨a, s1, e1, e⟩ := mb_some e
    obtain ⟨e3, rfl⟩ := ml_some e
    exact ⟨hs, Z, H0, F0, ρ, st, F, a, st', w, e1, fun v F1 H1 w1 m1 r1 => ⟨d, tru_v w1 r1 e3, q F1 H1 w1 m1⟩⟩
def dAnd (f g : Ev → M S Bool) : Ev → M S Bool := fun ρ => mb (f ρ) fun c => match c with
  | true => g ρ
  | false => mr false
def dOr (f g : Ev → M S Bool) : Ev → M S Bool := fun ρ => mb (f ρ) fun c => match c with
  | true => mr true
  | false => g ρ
def dNot (f : Ev → M S Bool) : Ev → M S Bool := fun ρ => mb (f ρ) fun c => mr (!c)
theorem qw_and1 {a : Expr} {pos : Pos} {f : Ev → M R.S Bool} (ha : QT X R a f) : QW X R (.BoolOp .And [a] pos) f := pw_and1 ha
theorem qw_or1 {a : Expr} {pos : Pos} {f : Ev → M R.S Bool} (ha : QT X R a f) : QW X R (.BoolOp .Or [a] pos) f := pw_or1 ha
theorem qw_and {a b : Expr} {rest : List Expr} {pos : Pos} {f g : Ev → M R.S Bool} (ha : QT X R a f) (hb : QW X R (.BoolOp .And (b :: rest) pos) g) : QW X R (.BoolOp .And (a :: b :: rest) pos) (dAnd f g) :=
  imp_w (pw_and ha hb) fun σ H Q ⟨hs, Z, H0, F0, ρ, st, F, d, st', w, e, q⟩ => by
    obtain ⟨c, s1, e1, e⟩ := mb_some e
    refine ⟨hs, Z, H0, F0, ρ, st, F, c, s1, w, e1, fun F1 H1 w1 m1 => ?_⟩
    cases c with
    | true => exact iteT ⟨hs, Z, H0, F0, ρ, s1, F1, d, st', w1, e, fun F2 H2 w2 m2 => q F2 H2 w2 (m1.trans m2)⟩
    | false =>
      obtain ⟨rfl, rfl⟩ := mr_some e
      exact iteF (q F1 H1 w1 m1)
theorem qw_or {a b : Expr} {rest : List Expr} {pos : Pos} {f g : Ev → M R.S Bool} (ha : QT X R a f) (hb : QW X R (.BoolOp .Or (b :: rest) pos) g) : QW X R (.BoolOp .Or (a :: b :: rest) pos) (dOr f g) :=
  imp_w (pw_or ha hb) fun σ H Q ⟨hs, Z, H0, F0, ρ, st, F, d, st', w, e, q⟩ => by
    obtain ⟨c, s1, e1, e⟩ := mb_some e
    refine ⟨hs, Z, H0, F0, ρ, st, F, c, s1, w, e1, fun F1 H1 w1 m1 => ?_⟩
    cases c with
    | false => exact iteF ⟨hs, Z, H0, F0, ρ, s1, F1, d, st', w1, e, fun F2 H2 w2 m2 => q F2 H2 w2 (m1.trans m2)⟩
    | true =>
      obtain ⟨rfl, rfl⟩ := mr_some e
      exact iteT (q F1 H1 w1 m1)
theorem qt_not {a : Expr} {pos : Pos} {f : Ev → M R.S Bool} (ha : QT X R a f) : QT X R (.UnaryOp .Not a pos) (dNot f) :=
  imp_t (pt_not ha) fun σ H Q ⟨hs, Z, H0, F0, ρ, st, F, d, st', w, e, q⟩ => by
    obtain ⟨c, s1, e1, e⟩ := mb_some e
    obtain ⟨rfl, rfl⟩ := mr_some e
    exact ⟨hs, Z, H0, F0, ρ, st, F, c, _, w, e1, fun F1 H1 w1 m1 => q F1 H1 w1 m1⟩
theorem qt_w {a : Expr} {f : Ev → M R.S Bool} (h : QW X R a f) : QT X R a f := h.pt
/-! as values -/
def dAndV (f g : Ev → M S D) : Ev → M S D := fun ρ => mb (f ρ) fun d => match d with
  | .bl true => g ρ
  | .bl false => mr (.bl false)
  | _ => fun _ => none
def dOrV (f g : Ev → M S D) : Ev → M S D := fun ρ => mb (f ρ) fun d => match d with
  | .bl true => mr (.bl true)
  | .bl false => g ρ
  | _ => fun _ => none
def dNotV (f : Ev → M S D) : Ev → M S D := fun ρ => mb (f ρ) fun d => match d with
  | .bl b => mr (.bl (!b))
  | _ => fun _ => none
theorem qe_one {op} {a : Expr} {pos : Pos} {f : Ev → M R.S D} (ha : QE X R a f) : QE X R (.BoolOp op [a] pos) f := pe_one ha
theorem qe_and {a b : Expr} {rest : List Expr} {pos : Pos} {f g : Ev → M R.S D} (ha : QE X R a f) (hb : QE X R (.BoolOp .And (b :: rest) pos) g) : QE X R (.BoolOp .And (a :: b :: rest) pos) (dAndV f g) :=
  imp_e (pe_and ha hb) fun σ H Q ⟨hs, Z, H0, F0, ρ, st, F, d, st', w, e, q⟩ => by
    obtain ⟨c, s1, e1, e⟩ := mb_some e
    refine ⟨hs, Z, H0, F0, ρ, st, F, c, s1, w, e1, fun v F1 H1 w1 m1 r1 => ?_⟩
    cases c with
    | bl k =>
      cases k with
      | true => exact ⟨true, r1.bl, iteT ⟨hs, Z, H0, F0, ρ, s1, F1, d, st', w1, e, fun v F2 H2 w2 m2 r2 => q v F2 H2 w2 (m1.trans m2) r2⟩⟩
      | false =>
        obtain ⟨rfl, rfl⟩ := mr_some e
        exact ⟨false, r1.bl, iteF (q _ F1 H1 w1 m1 (.inl (.bl _)))⟩
    | _ => cases e
theorem qe_or {a b : Expr} {rest : List Expr} {pos : Pos} {f g : Ev → M R.S D} (ha : QE X R a f) (hb : QE X R (.BoolOp .Or (b :: rest) pos) g) : QE X R (.BoolOp .Or (a :: b :: rest) pos) (dOrV f g) :=
  imp_e (pe_or ha hb) fun σ H Q ⟨hs, Z, H0, F0, ρ, st, F, d, st', w, e, q⟩ => by
    obtain ⟨c, s1, e1, e⟩ := mb_some e
    refine ⟨hs, Z, H0, F0, ρ, st, F, c, s1, w, e1, fun v F1 H1 w1 m1 r1 => ?_⟩
    cases c with
    | bl k =>
      cases k with
      | false => exact ⟨false, r1.bl, iteF ⟨hs, Z, H0, F0, ρ, s1, F1, d, st', w1, e, fun v F2 H2 w2 m2 r2 => q v F2 H2 w2 (m1.trans m2) r2⟩⟩
      | true =>
        obtain ⟨rfl, rfl⟩ := mr_some e
        exact ⟨true, r1.bl, iteT (q _ F1 H1 w1 m1 (.inl (.bl _)))⟩
    | _ => cases e
theorem qe_not {a : Expr} {pos : Pos} {f : Ev → M R.S D} (ha : QE X R a f) : QE X R (.UnaryOp .Not a pos) (dNotV f) :=
  imp_e (pe_not ha) fun σ H Q ⟨hs, Z, H0, F0, ρ, st, F, d, st', w, e, q⟩ => by
    obtain ⟨c, s1, e1, e⟩ := mb_some e
    refine ⟨hs, Z, H0, F0, ρ, st, F, c, s1, w, e1, fun v F1 H1 w1 m1 r1 => ?_⟩
    cases c with
    | bl k =>
      obtain ⟨rfl, rfl⟩ := mr_some e
      exact ⟨k, r1.bl, q _ F1 H1 w1 m1 (.inl (.bl _))⟩
    | _ => cases e
/-- a if c else b -/
def dIf (c : Ev → M S Bool) (f g : Ev → M S D) : Ev → M S D := fun ρ => mb (c ρ) fun b => match b with
  | true => f ρ
  | false => g ρ
theorem qe_if {c a b : Expr} {pos : Pos} {t : Ev → M R.S Bool} {f g : Ev → M R.S D} (hc : QT X R c t) (ha : QE X R a f) (hb : QE X R b g) : QE X R (.IfExp c a b pos) (dIf t f g) :=
  imp_e (pe_ifExp hc ha hb) fun σ H Q ⟨hs, Z, H0, F0, ρ, st, F, d, st', w, e, q⟩ => by
    obtain ⟨c, s1, e1, e⟩ := mb_some e
    refine ⟨hs, Z, H0, F0, ρ, st, F, c, s1, w, e1, fun F1 H1 w1 m1 => ?_⟩
    cases c with
    | true => exact iteT ⟨hs, Z, H0, F0, ρ, s1, F1, d, st', w1, e, fun v F2 H2 w2 m2 r2 => q v F2 H2 w2 (m1.trans m2) r2⟩
    | false => exact iteF ⟨hs, Z, H0, F0, ρ, s1, F1, d, st', w1, e, fun v F2 H2 w2 m2 r2 => q v F2 H2 w2 (m1.trans m2) r2⟩
/-- a op b op' c -/
def dChn (g g' : D → D → Option D) (f1 f2 f3 : Ev → M S D) : Ev → M S D := fun ρ => mb (f1 ρ) fun d => mb (f2 ρ) fun e => mb (ml (g d e)) fun k => match k with
  | .bl true => mb (f3 ρ) fun x => ml (g' e x)
  | .bl false => mr (.bl false)
  | _ => fun _ => none
theorem tq_chn {r r' : R2} {g g' : D → D → Option D} {f1 f2 f3 : Ev → M R.S D} (h : OpQ R r g) (h' : OpQ R r' g') : ∀ σ H Q, tq R (dChn g g' f1 f2 f3) σ H Q → tChain r r' (tq R f1) (tq R f2) (tq R f3) σ H Q := fun σ H Q ⟨hs, Z, H0, F0, ρ, st, F, d, st', w, e, q⟩ => by
  obtain ⟨a, s1, e1, e⟩ := mb_some e
  obtain ⟨b, s2, e2, e⟩ := mb_some e
  obtain ⟨k, s3, e3', e⟩ := mb_some e
  obtain ⟨e3, rfl⟩ := ml_some e3'
  refine ⟨hs, Z, H0, F0, ρ, st, F, a, s1, w, e1, fun v F1 H1 w1 m1 r1 => ?_⟩
  refine ⟨hs, Z, H0, F0, ρ, s1, F1, b, s3, w1, e2, fun u F2 H2 w2 m2 r2 => ?_⟩
  refine h _ _ _ _ ⟨hs, Z, H0, F0, ρ, s3, σ, F2, a, b, k, w2, r1.mono m2, r2, e3, fun x F3 H3 w3 m3 r3 => ?_⟩
  cases k with
  | bl k =>
    have ex : x = .bl k := by cases r3; rfl
    refine ⟨k, ex, ?_⟩
    cases k with
    | false =>
      obtain ⟨rfl, rfl⟩ := mr_some e
      exact iteF (q _ F3 H3 w3 ((m1.trans m2).trans m3) (.inl (.bl _)))
    | true =>
      obtain ⟨y, s4, e4, e⟩ := mb_some e
      obtain ⟨e5, rfl⟩ := ml_some e
      refine iteT ⟨hs, Z, H0, F0, ρ, s3, F3, y, st', w3, e4, fun x F4 H4 w4 m4 r4 => ?_⟩
      exact h' _ _ _ _ ⟨hs, Z, H0, F0, ρ, st', σ, F4, b, y, d, w4, (r2.mono m3).mono m4, r4, e5, fun z F5 H5 w5 m5 r5 => q z F5 H5 w5 ((((m1.trans m2).trans m3).trans m4).trans m5) (.inl r5)⟩
  | _ => cases e
theorem qe_chn {op op' : CmpOp} {r r' : R2} {g g' : D → D → Option D} {a b c : Expr} {pos : Pos} {f1 f2 f3 : Ev → M R.S D} (ho : OpR X (compareOp op) r) (ho' : OpR X (compareOp op') r') (h : OpQ R r g) (h' : OpQ R r' g') (ha : QE X R a f1) (hb : QE X R b f2) (hc : QE X R c f3)
    (hm : lastMarks [op, op'] [b, c] = false := by with_unfolding_all rfl) : QE X R (.Compare a [op, op'] [b, c] pos) (dChn g g' f1 f2 f3) := imp_e (pe_chain ho ho' ha hb hc hm) (tq_chn h h')
theorem qt_chn {op op' : CmpOp} {r r' : R2} {g g' : D → D → Option D} {a b c : Expr} {pos : Pos} {f1 f2 f3 : Ev → M R.S D} (ho : OpR X (compareOp op) r) (ho' : OpR X (compareOp op') r') (h : OpQ R r g) (h' : OpQ R r' g') (ha : QE X R a f1) (hb : QE X R b f2) (hc : QE X R c f3)
    (hm : lastMarks [op, op'] [b, c] = false := by with_unfolding_all rfl) : QT X R (.Compare a [op, op'] [b, c] pos) (dTst (dChn g g' f1 f2 f3)) := imp_t (pt_chain ho ho' ha hb hc hm) (tq_tst (tq_chn h h'))

/-! ### the state's changes -/
section
variable {hs : Hs} {Z : Addr → Prop} {H0 F0 : Hp} {ρ : Ev} {st : R.S} {σ : L2.St} {F H : Hp}
theorem get_set {α : Type} {l : List α} {i j : Nat} {x y : α} (h : (l.set i x)[j]? = some y) : (j = i ∧ y = x ∧ i < l.length) ∨ (j ≠ i ∧ l[j]? = some y) := by
  by_cases e : i = j
  · subst e
    by_cases hl : i < l.length
    · rw [List.getElem?_set_self hl] at h; cases h; exact .inl ⟨rfl, rfl, hl⟩
    · rw [List.getElem?_eq_none (by simpa using hl)] at h; cases h
  · rw [List.getElem?_set_ne e] at h
    exact .inr ⟨fun q => e q.symm, h⟩
/-- what is laid anew is of no list of lists -/
theorem W.noDp (w : W R hs Z H0 F0 ρ st σ F H) {p : Addr} (np : H p = none) (o : HO) : ¬ DpAt ρ σ (upd H p o) p := fun ⟨i, dss, a, as, e1, e2, e3, hb⟩ => by
  obtain ⟨a', as', g1, g2, _⟩ := w.dps.at_ i dss e1
  rw [e2] at g1; cases g1
  have ne : a ≠ p := fun q => g2.there a List.mem_cons_self (by rw [q]; exact np)
  rw [upd_ne ne, g2.top] at e3
  have e := refs_inj (HO.lst.inj (Option.some.inj e3))
  subst e
  exact g2.there p hb np
theorem W.setV (w : W R hs Z H0 F0 ρ st σ F H) {v : V} {d : D} (r : Rp hs F v d) (i : Nat) : W R hs Z H0 F0 (ρ.set i (.val d)) st (σ.set i (some v)) F H := by
  refine ⟨w.sF, w.sH, w.zfp, w.FH, w.Fn, w.Fp, w.rep, by rw [List.length_set, List.length_set]; exact w.len, fun j e q => ?_, fun j e q => ?_, fun j k d1 e1 q1 q2 hne a b h1 h2 => ?_, ?_⟩
  · rcases get_set q with ⟨rfl, e1, hl⟩ | ⟨hne, q⟩
    · cases e1; exact ⟨v, List.getElem?_set_self (by rw [← w.len]; exact hl), r⟩
    · obtain ⟨u, h1, h2⟩ := w.val j e q
      exact ⟨u, by rw [List.getElem?_set_ne (Ne.symm hne)]; exact h1, h2⟩
  · rcases get_set q with ⟨rfl, e1, hl⟩ | ⟨hne, q⟩
    · cases e1
    · obtain ⟨a, h1, h2⟩ := w.own j e q
      exact ⟨a, by rw [List.getElem?_set_ne (Ne.symm hne)]; exact h1, h2⟩
  · rcases get_set q1 with ⟨_, e1, _⟩ | ⟨n1, q1⟩
    · cases e1
    · rcases get_set q2 with ⟨_, e1, _⟩ | ⟨n2, q2⟩
      · cases e1
      · rw [List.getElem?_set_ne (Ne.symm n1)] at h1
        rw [List.getElem?_set_ne (Ne.symm n2)] at h2
        exact w.dis j k d1 e1 q1 q2 hne a b h1 h2
  · refine w.dps.move (fun j dss q => ?_) (fun j e c q1 q2 => ?_) (Same.refl _) fun b f1 _ f3 _ _ _ => ⟨rfl, f1, f3⟩
    · rcases get_set q with ⟨_, e1, _⟩ | ⟨hne, q⟩
      · cases e1
      · exact ⟨q, List.getElem?_set_ne (Ne.symm hne)⟩
    · rcases get_set q1 with ⟨_, e1, _⟩ | ⟨hne, q1⟩
      · cases e1
      · rw [List.getElem?_set_ne (Ne.symm hne)] at q2
        exact .inl ⟨e, q1, q2⟩
/-- a new object, laid and not frozen -/
theorem W.lay (w : W R hs Z H0 F0 ρ st σ F H) {p : Addr} (np : H p = none) (o : HO) : W R hs Z H0 F0 ρ st σ F (upd H p o) := by
  have fn : F p = none := w.FH.free np
  refine ⟨w.sF, fun b u e z => ?_, w.zfp, fun b u e => ?_, w.Fn, w.Fp, ?_, w.len, w.val, fun i d e => ?_, w.dis, w.dps.move (fun i d e => ⟨e, rfl⟩) (fun j e c q1 q2 => .inl ⟨e, q1, q2⟩) (Same.refl _) fun b f1 _ f3 hb _ _ => ⟨upd_ne fun q => hb (by rw [q]; exact np), f1, f3⟩⟩
  · rw [upd_ne (ne_of_none (w.sH b u e z) np)]; exact w.sH b u e z
  · rw [upd_ne (ne_of_none (w.FH b u e) np)]; exact w.FH b u e
  · exact R.keep _ _ _ _ _ _ w.rep (Same.refl _) fun b e => upd_ne fun q => by subst q; exact R.live _ _ _ _ _ w.rep e np
  · obtain ⟨a, h1, h2, h3, h4, h5⟩ := w.own i d e
    have : a ≠ p := fun q => h5.there (by rw [q]; exact np)
    exact ⟨a, h1, h2, h3, h4, h5.keep (Same.refl _) (upd_ne this)⟩
/-- a slot comes to own a new object -/
theorem W.setG (w : W R hs Z H0 F0 ρ st σ F H) {p : Addr} (np : H p = none) {ob : HO} {dd : D} (r : OwnAt hs F (upd H p ob) p dd) (i : Nat) : W R hs Z H0 F0 (ρ.set i (.own dd)) st (σ.set i (some (.ref p))) F (upd H p ob) := by
  have w1 := w.lay np ob
  have far : ∀ (j : Nat) (e : D), ρ[j]? = some (.own e) → ∀ a, σ[j]? = some (some (.ref a)) → a ≠ p := fun j e q a h1 z => by
    obtain ⟨b, h2, _, _, _, h5⟩ := w.own j e q
    rw [h1] at h2; cases h2
    exact h5.there (by rw [z]; exact np)
  refine ⟨w1.sF, w1.sH, w1.zfp, w1.FH, w1.Fn, w1.Fp, w1.rep, by rw [List.length_set, List.length_set]; exact w1.len, fun j e q => ?_, fun j e q => ?_, fun j k d1 e1 q1 q2 hne a b h1 h2 => ?_, ?_⟩
  · rcases get_set q with ⟨rfl, e1, hl⟩ | ⟨hne, q⟩
    · cases e1
    · obtain ⟨u, h1, h2⟩ := w1.val j e q
      exact ⟨u, by rw [List.getElem?_set_ne (Ne.symm hne)]; exact h1, h2⟩
  · rcases get_set q with ⟨rfl, e1, hl⟩ | ⟨hne, q⟩
    · cases e1
      refine ⟨p, List.getElem?_set_self (by rw [← w.len]; exact hl), w.FH.free np, fun z => R.live _ _ _ _ _ w.rep z np, ?_, r⟩
      by_cases z : Z p
      · exact .inr z
      · refine .inl ?_
        cases q2 : H0 p with
        | none => rfl
        | some o => have q3 := w.sH p o q2 z; rw [np] at q3; cases q3
    · obtain ⟨a, h1, h2⟩ := w1.own j e q
      exact ⟨a, by rw [List.getElem?_set_ne (Ne.symm hne)]; exact h1, h2⟩
  · rcases get_set q1 with ⟨i1, e1', l1⟩ | ⟨n1, y1⟩
    · rcases get_set q2 with ⟨i2, _, _⟩ | ⟨n2, y2⟩
      · exact absurd (i1.trans i2.symm) hne
      · subst i1
        rw [List.getElem?_set_self (by rw [← w.len]; exact l1)] at h1
        rw [List.getElem?_set_ne (Ne.symm n2)] at h2
        cases h1
        exact fun z => far k _ y2 b h2 z.symm
    · rcases get_set q2 with ⟨i2, e2', l2⟩ | ⟨n2, y2⟩
      · subst i2
        rw [List.getElem?_set_self (by rw [← w.len]; exact l2)] at h2
        rw [List.getElem?_set_ne (Ne.symm n1)] at h1
        cases h2
        exact far j _ y1 a h1
      · rw [List.getElem?_set_ne (Ne.symm n1)] at h1
        rw [List.getElem?_set_ne (Ne.symm n2)] at h2
        exact w.dis j k d1 e1 y1 y2 hne a b h1 h2
  · refine w1.dps.move (fun j dss q => ?_) (fun j e c q1 q2 => ?_) (Same.refl _) fun b f1 _ f3 _ _ _ => ⟨rfl, f1, f3⟩
    · rcases get_set q with ⟨_, e1, _⟩ | ⟨hne, q⟩
      · cases e1
      · exact ⟨q, List.getElem?_set_ne (Ne.symm hne)⟩
    · rcases get_set q1 with ⟨i1, e1, l1⟩ | ⟨hne, q1⟩
      · subst i1
        rw [List.getElem?_set_self (by rw [← w.len]; exact l1)] at q2
        cases q2
        exact .inr fun z => (w.noDp np _) z
      · rw [List.getElem?_set_ne (Ne.symm hne)] at q2
        exact .inl ⟨e, q1, q2⟩
theorem W.setO (w : W R hs Z H0 F0 ρ st σ F H) {p : Addr} (np : H p = none) {vs : List V} {ds : List D} (r : RpL hs F vs ds) (i : Nat) : W R hs Z H0 F0 (ρ.set i (.own (.lst ds))) st (σ.set i (some (.ref p))) F (upd H p (.lst vs)) := w.setG (ob := .lst vs) (dd := .lst ds) np ⟨vs, upd_same, r⟩ i
/-- an owned object is changed -/
theorem W.mutG (w : W R hs Z H0 F0 ρ st σ F H) {i : Nat} {d0 : D} (q : ρ[i]? = some (.own d0)) {a : Addr} (ha : σ[i]? = some (some (.ref a))) {ob : HO} {dd : D} (r : OwnAt hs F (upd H a ob) a dd) :
    W R hs Z H0 F0 (ρ.set i (.own dd)) st σ F (upd H a ob) := by
  obtain ⟨a', h1, h2, h3, h4, h5⟩ := w.own i d0 q
  rw [ha] at h1; cases h1
  have hi : i < ρ.length := (List.getElem?_eq_some_iff.mp q).1
  refine ⟨w.sF, fun b u e z => ?_, w.zfp, fun b u e => ?_, w.Fn, w.Fp, ?_, by rw [List.length_set]; exact w.len, fun j e q1 => ?_, fun j e q1 => ?_, fun j k d1 e1 q1 q2 hne a1 b1 g1 g2 => ?_, ?_⟩
  · have : b ≠ a := fun z2 => by
      subst z2
      rcases h4 with h4 | h4
      · rw [h4] at e; cases e
      · exact z h4
    rw [upd_ne this]; exact w.sH b u e z
  · have : b ≠ a := fun z2 => by subst z2; rw [h2] at e; cases e
    rw [upd_ne this]; exact w.FH b u e
  · exact R.keep _ _ _ _ _ _ w.rep (Same.refl _) fun b e => upd_ne fun z => by subst z; exact h3 e
  · rcases get_set q1 with ⟨rfl, e1, _⟩ | ⟨_, q1⟩
    · cases e1
    · exact w.val j e q1
  · rcases get_set q1 with ⟨rfl, e1, _⟩ | ⟨hne, q1⟩
    · cases e1; exact ⟨a, ha, h2, h3, h4, r⟩
    · obtain ⟨b, g1, g2, g3, g4, g5⟩ := w.own j e q1
      have : b ≠ a := w.dis j i e d0 q1 q hne b a g1 ha
      exact ⟨b, g1, g2, g3, g4, g5.keep (Same.refl _) (upd_ne this)⟩
  · have own_of : ∀ {n : Nat} {x : D}, (ρ.set i (Slot.own dd))[n]? = some (.own x) → ∃ y, ρ[n]? = some (.own y) := fun {n x} h => by
      rcases get_set h with ⟨rfl, _, _⟩ | ⟨_, h⟩
      · exact ⟨_, q⟩
      · exact ⟨_, h⟩
    obtain ⟨y1, z1⟩ := own_of q1
    obtain ⟨y2, z2⟩ := own_of q2
    exact w.dis j k y1 y2 z1 z2 hne a1 b1 g1 g2
  · refine w.dps.move (fun j dss q1 => ?_) (fun j e c q1 q2 => ?_) (Same.refl _) fun b f1 _ f3 _ _ hfar => ⟨upd_ne fun z => hfar i _ q (by rw [z]; exact ha), f1, f3⟩
    · rcases get_set q1 with ⟨_, e1, _⟩ | ⟨hne, q1⟩
      · cases e1
      · exact ⟨q1, rfl⟩
    · rcases get_set q1 with ⟨i1, e1, l1⟩ | ⟨hne, q1⟩
      · subst i1
        exact .inl ⟨_, q, q2⟩
      · exact .inl ⟨e, q1, q2⟩
theorem W.mut (w : W R hs Z H0 F0 ρ st σ F H) {i : Nat} {d0 : D} (q : ρ[i]? = some (.own d0)) {a : Addr} (ha : σ[i]? = some (some (.ref a))) {vs : List V} {ds : List D} (r : RpL hs F vs ds) :
    W R hs Z H0 F0 (ρ.set i (.own (.lst ds))) st σ F (upd H a (.lst vs)) := w.mutG (ob := .lst vs) (dd := .lst ds) q ha ⟨vs, upd_same, r⟩
/-- an owned list is frozen -/
theorem W.frz (w : W R hs Z H0 F0 ρ st σ F H) {i : Nat} {d : D} (q : ρ[i]? = some (.own d)) : ∃ F', W R hs Z H0 F0 (ρ.set i (.val d)) st σ F' H ∧ Same F F' := by
  obtain ⟨a, h1, h2, h3, h4, h5⟩ := w.own i d q
  obtain ⟨ob, e1, rp⟩ : ∃ ob, H a = some ob ∧ ∀ F' : Hp, Same F F' → F' a = some ob → Rp hs F' (.ref a) d := by
    cases d with
    | lst ds => obtain ⟨xs, e1, r⟩ := h5; exact ⟨_, e1, fun F' s e => .lst e (r.mono s)⟩
    | dct t kvs => obtain ⟨xs, e1, o, r⟩ := h5; exact ⟨_, e1, fun F' s e => .dct e o (r.mono s)⟩
    | _ => exact h5.elim
  · skip
    have s1 : Same F (upd F a ob) := fun b u e => by rw [upd_ne (ne_of_none e h2)]; exact e
    refine ⟨upd F a ob, ⟨w.sF.trans s1, w.sH, w.zfp, fun b u e => ?_, fun b u e => ?_, fun b e => ?_, R.keep _ _ _ _ _ _ w.rep s1 fun _ _ => rfl, by rw [List.length_set]; exact w.len, fun j e q1 => ?_, fun j e q1 => ?_, fun j k d1 e1 q1 q2 hne a1 b1 g1 g2 => ?_, ?_⟩, s1⟩
    · by_cases hb : b = a
      · subst hb; rw [upd_same] at e; cases e; exact e1
      · rw [upd_ne hb] at e; exact w.FH b u e
    · by_cases hb : b = a
      · subst hb; exact .inr h4
      · rw [upd_ne hb] at e; exact w.Fn b u e
    · rw [upd_ne (fun z => h3 (by rw [← z]; exact e))]; exact w.Fp b e
    · rcases get_set q1 with ⟨rfl, e2, _⟩ | ⟨_, q1⟩
      · cases e2; exact ⟨_, h1, rp _ s1 upd_same⟩
      · obtain ⟨v, g1, g2⟩ := w.val j e q1
        exact ⟨v, g1, g2.mono s1⟩
    · rcases get_set q1 with ⟨rfl, e2, _⟩ | ⟨hne, q1⟩
      · cases e2
      · obtain ⟨b, g1, g2, g3, g4, g5⟩ := w.own j e q1
        have : b ≠ a := w.dis j i e _ q1 q hne b a g1 h1
        exact ⟨b, g1, by rw [upd_ne this]; exact g2, g3, g4, g5.keep s1 rfl⟩
    · rcases get_set q1 with ⟨_, e2, _⟩ | ⟨_, q1⟩
      · cases e2
      · rcases get_set q2 with ⟨_, e2, _⟩ | ⟨_, q2⟩
        · cases e2
        · exact w.dis j k d1 e1 q1 q2 hne a1 b1 g1 g2
    · refine w.dps.move (fun j dss q1 => ?_) (fun j e c q1 q2 => ?_) s1 fun b f1 _ f3 _ _ hfar => ⟨rfl, by rw [upd_ne fun z => hfar i _ q (by rw [z]; exact h1)]; exact f1, f3⟩
      · rcases get_set q1 with ⟨_, e1, _⟩ | ⟨hne, q1⟩
        · cases e1
        · exact ⟨q1, rfl⟩
      · rcases get_set q1 with ⟨_, e1, _⟩ | ⟨hne, q1⟩
        · cases e1
        · exact .inl ⟨e, q1, q2⟩
end
end

/-! ### statements -/
inductive Out where
  | nx (ρ : Ev) | rt (d : D) | bk (ρ : Ev) | ct (ρ : Ev)
def endP (R : RK) (hs : Hs) (Z : Addr → Prop) (H0 F0 F : Hp) (D : Ends) (st : R.S) : Out → Prop
  | .nx ρ => ∀ σ F' H', W R hs Z H0 F0 ρ st σ F' H' → Same F F' → D.nx σ H'
  | .bk ρ => ∀ σ F' H', W R hs Z H0 F0 ρ st σ F' H' → Same F F' → D.bk σ H'
  | .ct ρ => ∀ σ F' H', W R hs Z H0 F0 ρ st σ F' H' → Same F F' → D.ct σ H'
  | .rt d => ∀ v ρ σ F' H', W R hs Z H0 F0 ρ st σ F' H' → Same F F' → Rp hs F' v d → D.rt v H'
def tqs (R : RK) (f : Ev → M R.S Out) : TS := fun D σ H => ∃ hs Z H0 F0 ρ st F o st', W R hs Z H0 F0 ρ st σ F H ∧ f ρ st = some (o, st') ∧ endP R hs Z H0 F0 F D st' o
abbrev QS (X : Cx) (R : RK) (s : Stmt) (f : Ev → M R.S Out) : Prop := PS X s (tqs R f)
abbrev QSs (X : Cx) (R : RK) (s : List Stmt) (f : Ev → M R.S Out) : Prop := PSs X s (tqs R f)
theorem endP.mono {R : RK} {hs : Hs} {Z : Addr → Prop} {H0 F0 F F1 : Hp} {D : Ends} {st : R.S} {o : Out} (m : Same F F1) (h : endP R hs Z H0 F0 F D st o) : endP R hs Z H0 F0 F1 D st o := by
  cases o with
  | nx ρ => exact fun σ F' H' w s => h σ F' H' w (m.trans s)
  | bk ρ => exact fun σ F' H' w s => h σ F' H' w (m.trans s)
  | ct ρ => exact fun σ F' H' w s => h σ F' H' w (m.trans s)
  | rt d => exact fun v ρ σ F' H' w s r => h v ρ σ F' H' w (m.trans s) r

section
variable {X : Cx} {R : RK} {S : Type}
theorem imp_s {s : Stmt} {t t' : TS} (h : PS X s t) (w : ∀ D σ H, t' D σ H → t D σ H) : PS X s t' := ⟨fun pins s σ H D I q => h.run pins s σ H D I (w _ _ _ q)⟩
theorem imp_ss {s : List Stmt} {t t' : TS} (h : PSs X s t) (w : ∀ D σ H, t' D σ H → t D σ H) : PSs X s t' := ⟨fun pins s σ H D I q => h.run pins s σ H D I (w _ _ _ q)⟩
def dNx : Ev → M S Out := fun ρ => mr (.nx ρ)
def dSeq (f g : Ev → M S Out) : Ev → M S Out := fun ρ => mb (f ρ) fun o => match o with
  | .nx ρ' => g ρ'
  | o => mr o
theorem qss_nil : QSs X R [] dNx := imp_ss pss_nil fun D σ H ⟨hs, Z, H0, F0, ρ, st, F, o, st', w, e, q⟩ => by
  obtain ⟨rfl, rfl⟩ := mr_some e
  exact q σ F H w (Same.refl _)
theorem qss_one {s : Stmt} {f : Ev → M R.S Out} (h : QS X R s f) : QSs X R [s] f := pss_one h
theorem qss_cons {s : Stmt} {ss : List Stmt} {f g : Ev → M R.S Out} (h : QS X R s f) (hr : QSs X R ss g) : QSs X R (s :: ss) (dSeq f g) :=
  imp_ss (pss_cons h hr) fun D σ H ⟨hs, Z, H0, F0, ρ, st, F, o, st', w, e, q⟩ => by
    obtain ⟨o1, s1, e1, e⟩ := mb_some e
    refine ⟨hs, Z, H0, F0, ρ, st, F, o1, s1, w, e1, ?_⟩
    cases o1 with
    | nx ρ1 => exact fun σ1 F1 H1 w1 m1 => ⟨hs, Z, H0, F0, ρ1, s1, F1, o, st', w1, e, q.mono m1⟩
    | bk ρ1 => obtain ⟨rfl, rfl⟩ := mr_some e; exact q
    | ct ρ1 => obtain ⟨rfl, rfl⟩ := mr_some e; exact q
    | rt d => obtain ⟨rfl, rfl⟩ := mr_some e; exact q
def dPass : Ev → M S Out := fun ρ => mr (.nx ρ)
theorem qs_pass {pos} : QS X R (.Pass pos) dPass := imp_s ps_pass fun D σ H ⟨hs, Z, H0, F0, ρ, st, F, o, st', w, e, q⟩ => by
  obtain ⟨rfl, rfl⟩ := mr_some e
  exact q σ F H w (Same.refl _)
def dBrk : Ev → M S Out := fun ρ => mr (.bk ρ)
theorem qs_break {pos} : QS X R (.Break pos) dBrk := imp_s ps_break fun D σ H ⟨hs, Z, H0, F0, ρ, st, F, o, st', w, e, q⟩ => by
  obtain ⟨rfl, rfl⟩ := mr_some e
  exact q σ F H w (Same.refl _)
def dCnt : Ev → M S Out := fun ρ => mr (.ct ρ)
theorem qs_continue {pos} : QS X R (.Continue pos) dCnt := imp_s ps_continue fun D σ H ⟨hs, Z, H0, F0, ρ, st, F, o, st', w, e, q⟩ => by
  obtain ⟨rfl, rfl⟩ := mr_some e
  exact q σ F H w (Same.refl _)
/-- the owned list in slot i is frozen ahead of the statement -/
def frz (i : Nat) (ρ : Ev) : Ev := match ρ[i]? with
  | some (.own d) => ρ.set i (.val d)
  | _ => ρ
def dFrz (i : Nat) (f : Ev → M S Out) : Ev → M S Out := fun ρ => f (frz i ρ)
theorem qs_frz (i : Nat) {s : Stmt} {f : Ev → M R.S Out} (h : QS X R s f) : QS X R s (dFrz i f) := imp_s h fun D σ H ⟨hs, Z, H0, F0, ρ, st, F, o, st', w, e, q⟩ => by
  have e : f (frz i ρ) st = some (o, st') := e
  unfold frz at e
  cases c : ρ[i]? with
  | none => rw [c] at e; exact ⟨hs, Z, H0, F0, ρ, st, F, o, st', w, e, q⟩
  | some z =>
    rw [c] at e
    cases z with
    | own d =>
      obtain ⟨F1, w1, m1⟩ := w.frz c
      exact ⟨hs, Z, H0, F0, _, st, F1, o, st', w1, e, q.mono m1⟩
    | _ => exact ⟨hs, Z, H0, F0, ρ, st, F, o, st', w, e, q⟩
def plO (d : D) : Option D := if plain d = true then some d else none
theorem plO_some {d e : D} (h : plO d = some e) : plain d = true ∧ d = e := ite_some h
def dExpr (f : Ev → M S D) : Ev → M S Out := fun ρ => mb (f ρ) fun _ => mr (.nx ρ)
theorem qs_expr {e : Expr} {pos : Pos} {f : Ev → M R.S D} (he : QE X R e f) (hs : swapsWith e none pos.line X.env = pure false := by rfl) : QS X R (.Expr e pos) (dExpr f) :=
  imp_s (ps_expr he hs) fun D σ H ⟨hs, Z, H0, F0, ρ, st, F, o, st', w, e, q⟩ => by
    obtain ⟨d, s1, e1, e⟩ := mb_some e
    obtain ⟨rfl, rfl⟩ := mr_some e
    exact ⟨hs, Z, H0, F0, ρ, st, F, d, _, w, e1, fun v F1 H1 w1 m1 r1 => q σ F1 H1 w1 m1⟩
def dRet (f : Ev → M S D) : Ev → M S Out := fun ρ => mb (f ρ) fun d => mb (ml (plO d)) fun d => mr (.rt d)
theorem qs_ret {e : Expr} {pos : Pos} {f : Ev → M R.S D} (he : QE X R e f) : QS X R (.Return (some e) pos) (dRet f) :=
  imp_s (ps_ret he) fun D σ H ⟨hs, Z, H0, F0, ρ, st, F, o, st', w, e, q⟩ => by
    obtain ⟨d, s1, e1, e⟩ := mb_some e
    obtain ⟨d2, s2, e2, e⟩ := mb_some e
    obtain ⟨e3, rfl⟩ := ml_some e2
    obtain ⟨p, rfl⟩ := plO_some e3
    obtain ⟨rfl, rfl⟩ := mr_some e
    exact ⟨hs, Z, H0, F0, ρ, st, F, d, _, w, e1, fun v F1 H1 w1 m1 r1 => q v ρ σ F1 H1 w1 m1 (r1.pl p)⟩
def dRetN : Ev → M S Out := fun _ => mr (.rt .non)
theorem qs_retN {pos : Pos} : QS X R (.Return none pos) dRetN := imp_s ps_retN fun D σ H ⟨hs, Z, H0, F0, ρ, st, F, o, st', w, e, q⟩ => by
  obtain ⟨rfl, rfl⟩ := mr_some e
  exact q .non ρ σ F H w (Same.refl _) .non
def dIfS (c : Ev → M S Bool) (f g : Ev → M S Out) : Ev → M S Out := fun ρ => mb (c ρ) fun b => match b with
  | true => f ρ
  | false => g ρ
theorem qs_if {c : Expr} {a b : List Stmt} {pos : Pos} {t : Ev → M R.S Bool} {f g : Ev → M R.S Out} (hc : QT X R c t) (ha : QSs X R a f) (hb : QSs X R b g) : QS X R (.If c a b pos) (dIfS t f g) :=
  imp_s (ps_if hc ha hb) fun D σ H ⟨hs, Z, H0, F0, ρ, st, F, o, st', w, e, q⟩ => by
    obtain ⟨b, s1, e1, e⟩ := mb_some e
    refine ⟨hs, Z, H0, F0, ρ, st, F, b, s1, w, e1, fun F1 H1 w1 m1 => ?_⟩
    cases b with
    | true => exact iteT ⟨hs, Z, H0, F0, ρ, s1, F1, o, st', w1, e, q.mono m1⟩
    | false => exact iteF ⟨hs, Z, H0, F0, ρ, s1, F1, o, st', w1, e, q.mono m1⟩

/-! ### targets -/
def tqg (R : RK) (vs : List Nat) (g : D → Ev → Option Ev) : TG := fun v σ H Q => ∃ hs Z H0 F0 ρ st F d ρ', W R hs Z H0 F0 ρ st σ F H ∧ Rp hs F v d ∧ g d ρ = some ρ' ∧ ∀ σ' F' H', W R hs Z H0 F0 ρ' st σ' F' H' → Same F F' → wipe σ' vs = wipe σ vs → Q σ' H'
def tqgs (R : RK) (ws : List Nat) (g : List D → Ev → Option Ev) : TGs := fun vs σ H Q => ∃ hs Z H0 F0 ρ st F ds ρ', W R hs Z H0 F0 ρ st σ F H ∧ RpL hs F vs ds ∧ g ds ρ = some ρ' ∧ ∀ σ' F' H', W R hs Z H0 F0 ρ' st σ' F' H' → Same F F' → wipe σ' ws = wipe σ ws → Q σ' H'
abbrev QG (X : Cx) (R : RK) (vs : List Nat) (tg : Expr) (g : D → Ev → Option Ev) : Prop := PG X tg (tqg R vs g)
abbrev QGs (X : Cx) (R : RK) (vs : List Nat) (tg : List Expr) (g : List D → Ev → Option Ev) : Prop := PGs X tg (tqgs R vs g)
theorem imp_g {tg : Expr} {t t' : TG} (h : PG X tg t) (w : ∀ v σ H Q, t' v σ H Q → t v σ H Q) : PG X tg t' := ⟨fun pins s σ H v u Q I r q => h.run pins s σ H v u Q I r (w _ _ _ _ q)⟩
theorem imp_gs {tg : List Expr} {t t' : TGs} (h : PGs X tg t) (w : ∀ v σ H Q, t' v σ H Q → t v σ H Q) : PGs X tg t' := ⟨fun pins s σ H v u Q I r q => h.run pins s σ H v u Q I r (w _ _ _ _ q)⟩
def gN (i : Nat) : D → Ev → Option Ev := fun d ρ => some (ρ.set i (.val d))
theorem wipe_get (σ : L2.St) (j : Nat) : ∀ vs : List Nat, (wipe σ vs)[j]? = if j ∈ vs ∧ j < σ.length then some none else σ[j]?
  | [] => by simp [wipe]
  | v :: vs => by
    unfold wipe
    by_cases h : v = j
    · subst h
      by_cases hl : v < σ.length
      · rw [List.getElem?_set_self (by rw [wipe_length]; exact hl), if_pos ⟨List.mem_cons_self, hl⟩]
      · rw [if_neg fun z => hl z.2, List.getElem?_eq_none (by rw [List.length_set, wipe_length]; omega), List.getElem?_eq_none (by omega)]
    · rw [List.getElem?_set_ne h, wipe_get σ j vs]
      by_cases hm : j ∈ vs ∧ j < σ.length
      · rw [if_pos hm, if_pos ⟨List.mem_cons_of_mem _ hm.1, hm.2⟩]
      · rw [if_neg hm, if_neg fun z => ?_]
        rcases List.mem_cons.mp z.1 with e | e
        · exact h e.symm
        · exact hm ⟨e, z.2⟩
theorem wipe_set {σ : L2.St} {i : Nat} {x : Option V} {vs : List Nat} (h : i ∈ vs) : wipe (σ.set i x) vs = wipe σ vs := by
  refine List.ext_getElem? fun j => ?_
  rw [wipe_get, wipe_get, List.length_set]
  by_cases hm : j ∈ vs ∧ j < σ.length
  · rw [if_pos hm, if_pos hm]
  · rw [if_neg hm, if_neg hm]
    by_cases e : i = j
    · subst e
      have : ¬ i < σ.length := fun z => hm ⟨h, z⟩
      rw [List.getElem?_eq_none (by rw [List.length_set]; omega), List.getElem?_eq_none (by omega)]
    · rw [List.getElem?_set_ne e]
theorem qg_name {i : Nat} {tg : Expr} {vs : List Nat} (h : PG X tg (gName i)) (hi : i ∈ vs := by decide) : QG X R vs tg (gN i) := imp_g h fun v σ H Q ⟨hs, Z, H0, F0, ρ, st, F, d, ρ', w, r, e, q⟩ => by
  cases e
  exact q _ F H (w.setV r i) (Same.refl _) (wipe_set hi)
def gNil' : List D → Ev → Option Ev := fun ds ρ => match ds with
  | [] => some ρ
  | _ => none
def gCons' (g : D → Ev → Option Ev) (g' : List D → Ev → Option Ev) : List D → Ev → Option Ev := fun ds ρ => match ds with
  | [] => none
  | d :: ds => match g d ρ with
    | none => none
    | some ρ' => g' ds ρ'
theorem qgs_nil {vs : List Nat} : QGs X R vs [] gNil' := imp_gs pgs_nil fun v σ H Q ⟨hs, Z, H0, F0, ρ, st, F, d, ρ', w, r, e, q⟩ => by
  cases r with
  | nil => cases e; exact ⟨rfl, q _ F H w (Same.refl _) rfl⟩
  | cons _ _ => cases e
theorem qgs_cons {vs : List Nat} {e : Expr} {es : List Expr} {g : D → Ev → Option Ev} {g' : List D → Ev → Option Ev} (h1 : QG X R vs e g) (h2 : QGs X R vs es g')
    (hs : (assignEach (e :: es) X.env).map (·.2) = assign e X.env :: (assignEach es X.env).map (·.2) := by rfl) : QGs X R vs (e :: es) (gCons' g g') :=
  imp_gs (pgs_cons h1 h2 hs) fun v σ H Q ⟨hs, Z, H0, F0, ρ, st, F, ds, ρ', w, r, e, q⟩ => by
    cases ds with
    | nil => cases e
    | cons d1 ds1 =>
      obtain ⟨v1, vs1, rfl, r1, r2⟩ := r.consD
      refine ⟨v1, vs1, rfl, ?_⟩
      have e : (match g d1 ρ with
        | none => none
        | some ρ' => g' ds1 ρ') = some ρ' := e
      cases c : g d1 ρ with
      | none => rw [c] at e; cases e
      | some ρ1 =>
        rw [c] at e
        exact ⟨hs, Z, H0, F0, ρ, st, F, d1, ρ1, w, r1, c, fun σ1 F1 H1 w1 m1 z1 => ⟨hs, Z, H0, F0, ρ1, st, F1, ds1, ρ', w1, r2.mono m1, e, fun σ2 F2 H2 w2 m2 z2 => q σ2 F2 H2 w2 (m1.trans m2) (z2.trans z1)⟩⟩
def gTp (n : Nat) (g : List D → Ev → Option Ev) : D → Ev → Option Ev := fun d ρ => match d with
  | .tup ds => if ds.length = n then g ds ρ else none
  | _ => none
theorem qg_tup {vs : List Nat} {es : List Expr} {k : Nat} {pos : Pos} {g : List D → Ev → Option Ev} {n : Nat} (hc : X.calm = true) (h : QGs X R vs es g)
    (hn : (assignEach es X.env).length = n := by rfl) (hst : (assignEach es X.env).findIdx? (·.1) = none := by rfl) : QG X R vs (.Tuple es k pos) (gTp n g) :=
  imp_g (pg_tup hc h hn hst) fun v σ H Q ⟨hs, Z, H0, F0, ρ, st, F, d, ρ', w, r, e, q⟩ => by
    cases d with
    | tup ds =>
      obtain ⟨a, xs, rfl, e1, rl⟩ := r.tupD
      have e : (if ds.length = n then g ds ρ else none) = some ρ' := e
      by_cases hl : ds.length = n
      · rw [if_pos hl] at e
        exact ⟨a, xs, rfl, SqT.of (w.FH _ _ e1), by rw [rl.length]; exact hl, hs, Z, H0, F0, ρ, st, F, ds, ρ', w, rl, e, q⟩
      · rw [if_neg hl] at e; cases e
    | _ => cases e
/-! ### assignments -/
def dAsg (f : Ev → M S D) (g : D → Ev → Option Ev) : Ev → M S Out := fun ρ => mb (f ρ) fun d => mb (ml (plO d)) fun d => mb (ml (g d ρ)) fun ρ' => mr (.nx ρ')
theorem tqs_asg {vs : List Nat} {f : Ev → M R.S D} {g : D → Ev → Option Ev} : ∀ D σ H, tqs R (dAsg f g) D σ H → tAsg (tq R f) (tqg R vs g) D σ H := fun D σ H ⟨hs, Z, H0, F0, ρ, st, F, o, st', w, e, q⟩ => by
  obtain ⟨d, s1, e1, e⟩ := mb_some e
  obtain ⟨d2, s2, e2, e⟩ := mb_some e
  obtain ⟨e4, rfl⟩ := ml_some e2
  obtain ⟨p, rfl⟩ := plO_some e4
  obtain ⟨ρ1, s3, e3, e6⟩ := mb_some e
  obtain ⟨e5, rfl⟩ := ml_some e3
  obtain ⟨rfl, rfl⟩ := mr_some e6
  exact ⟨hs, Z, H0, F0, ρ, st, F, d, _, w, e1, fun v F1 H1 w1 m1 r1 => ⟨hs, Z, H0, F0, ρ, _, F1, d, ρ1, w1, r1.pl p, e5, fun σ2 F2 H2 w2 m2 _ => q σ2 F2 H2 w2 (m1.trans m2)⟩⟩
theorem qs_asg {vs : List Nat} {tg e : Expr} {pos : Pos} {f : Ev → M R.S D} {g : D → Ev → Option Ev} (he : QE X R e f) (hg : QG X R vs tg g) (hs : swapsWithSole [tg] e pos.line X.env = pure false := by rfl) (hw : swappedStores [tg] e X.env = pure none := by rfl)
    (h1 : (assignEach [tg] X.env).map (·.2) = [assign tg X.env] := by rfl) : QS X R (.Assign [tg] e pos) (dAsg f g) := imp_s (ps_asg he hg hs hw h1) tqs_asg
theorem qs_set {i : Nat} {x : Str} {e : Expr} {pos pos' : Pos} {f : Ev → M R.S D} (hN : X.N.Nodup) (hi : X.N[i]? = some x) (hx : Loc X.env.scope x) (he : QE X R e f) (hs : swapsWith e (some (.Name x pos')) pos.line X.env = pure false := by rfl) (hf : X.fn x = true ∨ X.env.scope.names.lookup x = some .local := by first | exact .inl rfl | exact .inr rfl | assumption) :
    QS X R (.Assign [.Name x pos'] e pos) (dAsg f (gN i)) := imp_s (ps_set hN hi hx he hs hf) fun D σ H h => by
  obtain ⟨hs, Z, H0, F0, ρ, st, F, d, st', w, e, q⟩ := tqs_asg (vs := [i]) D σ H h
  refine ⟨hs, Z, H0, F0, ρ, st, F, d, st', w, e, fun v F1 H1 w1 m1 r1 => ?_⟩
  obtain ⟨hs', Z', H0', F0', ρ', s3, F3, d3, ρ3, w3, r3, e3, q3⟩ := q v F1 H1 w1 m1 r1
  cases e3
  exact q3 _ _ _ (w3.setV r3 i) (Same.refl _) (wipe_set List.mem_cons_self)
/-- x = a new list: the slot owns it -/
def dSetO (i : Nat) (f : Ev → M S (List D)) : Ev → M S Out := fun ρ => mb (f ρ) fun ds => mr (.nx (ρ.set i (.own (.lst ds))))
theorem tqs_setO {i : Nat} {f : Ev → M R.S (List D)} : ∀ D σ H, tqs R (dSetO i f) D σ H → tAsg (tqN R f) (gName i) D σ H := fun D σ H ⟨hs, Z, H0, F0, ρ, st, F, o, st', w, e, q⟩ => by
  obtain ⟨ds, s1, e1, e⟩ := mb_some e
  obtain ⟨rfl, rfl⟩ := mr_some e
  exact ⟨hs, Z, H0, F0, ρ, st, F, ds, _, w, e1, fun p vs F1 H1 w1 m1 np r1 => q _ F1 _ (w1.setO np r1 i) m1⟩
theorem qs_setO {i : Nat} {x : Str} {e : Expr} {pos pos' : Pos} {f : Ev → M R.S (List D)} (hN : X.N.Nodup) (hi : X.N[i]? = some x) (hx : Loc X.env.scope x) (he : QN X R e f) (hs : swapsWith e (some (.Name x pos')) pos.line X.env = pure false := by rfl) (hf : X.fn x = true ∨ X.env.scope.names.lookup x = some .local := by first | exact .inl rfl | exact .inr rfl | assumption) :
    QS X R (.Assign [.Name x pos'] e pos) (dSetO i f) := imp_s (ps_set hN hi hx he hs hf) tqs_setO
/-- a, b = e1, e2 -/
def dPar (i j : Nat) (f : Ev → M S (List D)) : Ev → M S Out := fun ρ => mb (f ρ) fun ds => ml (match ds with
  | [d, e] => if plain d = true ∧ plain e = true then some (.nx ((ρ.set i (.val d)).set j (.val e))) else none
  | _ => none)
theorem qs_par {i j : Nat} {x y : Str} {a b : Expr} {pos px py pt : Pos} {kt k2 pt2} {f : Ev → M R.S (List D)} (hc : X.calm = true) (hN : X.N.Nodup) (hi : X.N[i]? = some x) (hj : X.N[j]? = some y) (hij : i ≠ j)
    (hx : X.env.scope.names.lookup x = some .local) (hy : X.env.scope.names.lookup y = some .local) (ha : QA X R [a, b] f)
    (hw : swappedStores [.Tuple [.Name x px, .Name y py] kt pt] (.Tuple [a, b] k2 pt2) X.env = pure (some [x, y]))
    (hs : swapsWithSole [.Tuple [.Name x px, .Name y py] kt pt] (.Tuple [a, b] k2 pt2) pos.line X.env = pure false := by rfl) :
    QS X R (.Assign [.Tuple [.Name x px, .Name y py] kt pt] (.Tuple [a, b] k2 pt2) pos) (dPar i j f) :=
  imp_s (ps_par hc hN hi hj hij hx hy ha hw hs) fun D σ H ⟨hs, Z, H0, F0, ρ, st, F, o, st', w, e, q⟩ => by
    obtain ⟨ds, s1, e1, e⟩ := mb_some e
    obtain ⟨e2, rfl⟩ := ml_some e
    refine ⟨hs, Z, H0, F0, ρ, st, F, ds, _, w, e1, fun vs F1 H1 w1 m1 r1 => ?_⟩
    match ds, e2 with
    | [d1, d2], e2 =>
      obtain ⟨⟨p1, p2⟩, rfl⟩ := ite_some e2
      have rl := r1.pl (by simp [p1, p2])
      obtain ⟨v1, v2, rfl, r1, r2⟩ := rl.two
      exact ⟨v1, v2, rfl, q _ F1 H1 ((w1.setV r1 i).setV r2 j) m1⟩
    | [], e2 => cases e2
    | [_], e2 => cases e2
    | _ :: _ :: _ :: _, e2 => cases e2
/-- x.append(e), x owned -/
def upO (i : Nat) (g : List D → Option (List D)) (ρ : Ev) : Option Ev := match ρ[i]? with
  | some (.own (.lst ds)) => match g ds with
    | some es => some (ρ.set i (.own (.lst es)))
    | none => none
  | _ => none
theorem upO_some {i : Nat} {g : List D → Option (List D)} {ρ ρ' : Ev} (h : upO i g ρ = some ρ') : ∃ ds es, ρ[i]? = some (.own (.lst ds)) ∧ g ds = some es ∧ ρ' = ρ.set i (.own (.lst es)) := by
  unfold upO at h
  split at h
  · rename_i ds e
    split at h
    · rename_i es e2
      cases h
      exact ⟨ds, es, e, e2, rfl⟩
    · cases h
  · cases h
def dApp (i : Nat) (f : Ev → M S D) : Ev → M S Out := fun ρ => mb (f ρ) fun d => ml (if plain d = true then (upO i (fun ds => if ds.length < LIM then some (ds ++ [d]) else none) ρ).map .nx else none)
theorem map_some' {α β : Type} {g : α → β} {o : Option α} {b : β} (h : o.map g = some b) : ∃ a, o = some a ∧ g a = b := by
  cases o with
  | none => cases h
  | some a => cases h; exact ⟨a, rfl, rfl⟩
theorem qs_app {i : Nat} {x e : Expr} {apos mpos pos : Pos} {f : Ev → M R.S D} (hx : PE X x (tVar i)) (he : QE X R e f)
    (h : ∀ {t : TA}, PA X [e] t → PE X (.Call (.Attribute x "append" apos) [e] [] mpos) (tBM X.K "list" rAppend (tVar i) t)) (hsw : swapsWith (.Call (.Attribute x "append" apos) [e] [] mpos) none pos.line X.env = pure false := by rfl)
    (hst : starEach [e] X.env = (false, eval e X.env) :: starEach [] X.env := by rfl) :
    QS X R (.Expr (.Call (.Attribute x "append" apos) [e] [] mpos) pos) (dApp i f) :=
  imp_s (ps_expr (h (pa_cons he pa_nil hst)) hsw) fun D σ H ⟨hs, Z, H0, F0, ρ, st, F, o, st', w, e, q⟩ => by
    obtain ⟨d, s1, e1, e⟩ := mb_some e
    obtain ⟨e2, rfl⟩ := ml_some e
    by_cases p : plain d = true
    · rw [if_pos p] at e2
      obtain ⟨ρ', e3, rfl⟩ := map_some' e2
      obtain ⟨ds, es, e4, e5, rfl⟩ := upO_some e3
      obtain ⟨c, rfl⟩ := ite_some e5
      obtain ⟨a, h1, h2, h3, h4, xs, h5, h6⟩ := w.own i _ e4
      refine ⟨_, h1, .inl ⟨rfl, xs, .inl (.inl h5)⟩, hs, Z, H0, F0, ρ, st, F, d, _, w, e1, fun v F1 H1 w1 m1 r1 => ?_⟩
      obtain ⟨a', g1, g2, g3, g4, ys, g5, g6⟩ := w1.own i _ e4
      rw [h1] at g1; cases g1
      have rv := r1.pl p
      refine ⟨a, ys, v, rfl, rfl, g5, by rw [g6.length]; exact lim_lt (Nat.le_of_lt c), ?_⟩
      exact q σ F1 _ (w1.mut e4 h1 (g6.append (.cons rv .nil))) m1
    · rw [if_neg p] at e2; cases e2
/-- x[k] = e, x owned -/
def setAt (k : D) (d : D) (ds : List D) : Option (List D) := match k with
  | .int i => match ixN ds.length i with
    | some j => some (ds.set j d)
    | none => none
  | _ => none
def dStI (i : Nat) (fe fk : Ev → M S D) : Ev → M S Out := fun ρ => mb (fe ρ) fun d => mb (fk ρ) fun k => ml (if plain d = true then (upO i (setAt k d) ρ).map .nx else none)
theorem qs_stI {i : Nat} {x k e : Expr} {p pos : Pos} {fe fk : Ev → M R.S D} (hx : PE X x (tVar i)) (hk : QE X R k fk) (he : QE X R e fe)
    (ha : ∀ v, assign (.Subscript x k p) X.env v = (do
      let ov ← holding [v] (eval x X.env)
      let iv ← holding [v, ov] (eval k X.env)
      standAt p
      holding [v, ov, iv] (setItem ov iv v)
      release [v, ov, iv] []) := by intro _; rfl)
    (hs : swapsWithSole [.Subscript x k p] e pos.line X.env = pure false := by rfl) (hw : swappedStores [.Subscript x k p] e X.env = pure none := by rfl)
    (h1 : (assignEach [.Subscript x k p] X.env).map (·.2) = [assign (.Subscript x k p) X.env] := by rfl) : QS X R (.Assign [.Subscript x k p] e pos) (dStI i fe fk) :=
  imp_s (ps_asg he (pg_sub hx hk set_list ha) hs hw h1) fun D σ H ⟨hs, Z, H0, F0, ρ, st, F, o, st', w, e, q⟩ => by
    obtain ⟨d, s1, e1, e⟩ := mb_some e
    obtain ⟨k, s2, e2, e⟩ := mb_some e
    obtain ⟨e3, rfl⟩ := ml_some e
    by_cases p : plain d = true
    · rw [if_pos p] at e3
      obtain ⟨ρ', e4, rfl⟩ := map_some' e3
      obtain ⟨ds, es, e5, e6, rfl⟩ := upO_some e4
      refine ⟨hs, Z, H0, F0, ρ, st, F, d, s1, w, e1, fun v F1 H1 w1 m1 r1 => ?_⟩
      obtain ⟨a, h1, h2, h3, h4, xs, h5, h6⟩ := w1.own i _ e5
      refine ⟨_, h1, hs, Z, H0, F0, ρ, s1, F1, k, _, w1, e2, fun u F2 H2 w2 m2 r2 => ?_⟩
      obtain ⟨a', g1, g2, g3, g4, ys, g5, g6⟩ := w2.own i _ e5
      rw [h1] at g1; cases g1
      unfold setAt at e6
      cases k with
      | int n =>
        have e6 : (match ixN ds.length n with
          | some j => some (ds.set j d)
          | none => none) = some es := e6
        cases c : ixN ds.length n with
        | none => rw [c] at e6; cases e6
        | some j =>
          rw [c] at e6
          cases e6
          refine ⟨a, ys, n, j, rfl, r2.int, g5, by rw [g6.length]; exact c, ?_⟩
          exact q σ F2 _ (w2.mut e5 h1 (g6.set (r1.pl p |>.mono m2) j)) (m1.trans m2)
      | _ => cases e6
    · rw [if_neg p] at e3; cases e3
end
end QL
end
section
set_option Elab.async false
set_option linter.all false
set_option maxRecDepth 100000
set_option maxHeartbeats 4000000
/-! QL: loops, comprehensions, calls, defs. -/
namespace QL
open PySem PySem.Spec L2

section
variable {X : Cx} {R : RK} {S : Type}
/-! ### while -/
def whl (c : Ev → M S Bool) (b : Ev → M S Out) : Nat → Ev → M S Out
  | 0 => fun _ _ => none
  | n + 1 => fun ρ => mb (c ρ) fun k => match k with
    | false => mr (.nx ρ)
    | true => mb (b ρ) fun o => match o with
      | .nx ρ' => whl c b n ρ'
      | .ct ρ' => whl c b n ρ'
      | .bk ρ' => mr (.nx ρ')
      | .rt d => mr (.rt d)
abbrev FUEL : Nat := 1000000000
def dWhl (c : Ev → M S Bool) (b : Ev → M S Out) : Ev → M S Out := whl c b FUEL
theorem qs_while {c : Expr} {body : List Stmt} {pos : Pos} {t : Ev → M R.S Bool} {f : Ev → M R.S Out} (hp : PassesOwn (model X.prog X.w) X.A X.env X.xe) (hc : QT X R c t) (hb : QSs X R body f) : QS X R (.While c body [] pos) (dWhl t f) :=
  imp_s (ps_while hp hc hb) fun D σ H ⟨hs, Z, H0, F0, ρ, st, F, o, st', w, e, q⟩ => by
    refine ⟨fun m σ1 H1 => ∃ ρ1 s1 F1, W R hs Z H0 F0 ρ1 s1 σ1 F1 H1 ∧ Same F F1 ∧ whl t f m ρ1 s1 = some (o, st'), ⟨FUEL, ρ, st, F, w, Same.refl _, e⟩, ?_⟩
    rintro m σ1 H1 ⟨ρ1, s1, F1, w1, m1, e1⟩
    cases m with
    | zero => cases e1
    | succ n =>
      obtain ⟨k, s2, e2, e3⟩ := mb_some e1
      refine ⟨hs, Z, H0, F0, ρ1, s1, F1, k, s2, w1, e2, fun F2 H2 w2 m2 => ?_⟩
      cases k with
      | false =>
        obtain ⟨rfl, rfl⟩ := mr_some e3
        exact iteF (q σ1 F2 H2 w2 (m1.trans m2))
      | true =>
        obtain ⟨o1, s3, e4, e5⟩ := mb_some e3
        refine iteT ⟨fun σ3 H3 => ∃ ρ3 F3, W R hs Z H0 F0 ρ3 s3 σ3 F3 H3 ∧ Same F F3 ∧ whl t f n ρ3 s3 = some (o, st'), fun σ3 H3 ⟨ρ3, F3, w3, m3, e6⟩ => ⟨n, Nat.lt_succ_self n, ρ3, s3, F3, w3, m3, e6⟩, hs, Z, H0, F0, ρ1, s2, F2, o1, s3, w2, e4, ?_⟩
        cases o1 with
        | nx ρ2 => exact fun σ3 F3 H3 w3 m3 => ⟨ρ2, F3, w3, (m1.trans m2).trans m3, e5⟩
        | ct ρ2 => exact fun σ3 F3 H3 w3 m3 => ⟨ρ2, F3, w3, (m1.trans m2).trans m3, e5⟩
        | bk ρ2 =>
          obtain ⟨rfl, rfl⟩ := mr_some e5
          exact fun σ3 F3 H3 w3 m3 => q σ3 F3 H3 w3 ((m1.trans m2).trans m3)
        | rt d =>
          obtain ⟨rfl, rfl⟩ := mr_some e5
          exact fun v ρ3 σ3 F3 H3 w3 m3 r3 => q v ρ3 σ3 F3 H3 w3 ((m1.trans m2).trans m3) r3

/-! ### what is walked -/
def ItOk (R : RK) (hs : Hs) (Z : Addr → Prop) (H0 F0 F : Hp) (ds : List D) (J : It) : Prop :=
  ∀ (i : Nat) ρ st σ F2 H2, W R hs Z H0 F0 ρ st σ F2 H2 → Same F F2 →
    (ds.length ≤ i → J.stop i H2) ∧ ∀ d, ds[i]? = some d → J.go i H2 ∧ ∀ x H3, J.yld i H2 x H3 → ∃ F3, W R hs Z H0 F0 ρ st σ F3 H3 ∧ Same F2 F3 ∧ Rp hs F3 x d ∧ ∀ b o, H2 b = some o → H3 b = some o
def tqi (R : RK) (f : Ev → M R.S (List D)) : TI := fun σ H G => ∃ hs Z H0 F0 ρ st F ds st', W R hs Z H0 F0 ρ st σ F H ∧ f ρ st = some (ds, st') ∧
  ∀ J F' H', W R hs Z H0 F0 ρ st' σ F' H' → Same F F' → (∀ Z' H0' F0', ItOk R hs Z' H0' F0' F' ds J) → G J H'
abbrev QI (X : Cx) (R : RK) (tg iter : Expr) (f : Ev → M R.S (List D)) : Prop := PI X tg iter (tqi R f)
theorem imp_i {tg iter : Expr} {t t' : TI} (h : PI X tg iter t) (w : ∀ σ H G, t' σ H G → t σ H G) : PI X tg iter t' := ⟨fun pins s σ H G I q => h.run pins s σ H G I (w _ _ _ q)⟩
def lstO : D → Option (List D)
  | .lst ds => some ds
  | _ => none
def tupO : D → Option (List D)
  | .tup ds => some ds
  | _ => none
/-- over a list -/
def dIL (f : Ev → M S D) : Ev → M S (List D) := fun ρ => mb (f ρ) fun d => ml (lstO d)
def dIT (f : Ev → M S D) : Ev → M S (List D) := fun ρ => mb (f ρ) fun d => ml (tupO d)
theorem qi_list {tg l : Expr} {f : Ev → M R.S D} (hl : QE X R l f) : QI X R tg l (dIL f) := imp_i (pi_list hl) fun σ H G ⟨hs, Z, H0, F0, ρ, st, F, ds, st', w, e, q⟩ => by
  obtain ⟨d, s1, e1, e2⟩ := mb_some e
  obtain ⟨e3, rfl⟩ := ml_some e2
  refine ⟨hs, Z, H0, F0, ρ, st, F, d, _, w, e1, fun v F1 H1 w1 m1 r1 => ?_⟩
  cases d with
  | lst es =>
    cases e3
    obtain ⟨a, xs, rfl, ea, rl⟩ := (r1.pl rfl).lstD
    refine ⟨a, rfl, ⟨xs, SqL.of (w1.FH _ _ ea)⟩, q _ F1 H1 w1 m1 fun Z' H0' F0' i ρ2 st2 σ2 F2 H2 w2 m2 => ?_⟩
    have eH : H2 a = some (.lst xs) := w2.FH _ _ (m2 _ _ ea)
    refine ⟨fun hi => ⟨xs, SqL.of eH, by rw [rl.length]; exact hi⟩, fun d hd => ?_⟩
    obtain ⟨v, hv, rv⟩ := rl.get hd
    refine ⟨⟨xs, v, SqL.of eH, hv⟩, fun x H3 hy => ?_⟩
    obtain ⟨rfl, hx⟩ := hy
    have := hx xs (SqL.of eH)
    rw [hv] at this; cases this
    exact ⟨F2, w2, Same.refl _, rv.mono m2, fun _ _ e => e⟩
  | _ => cases e3
theorem qi_tup {tg l : Expr} {f : Ev → M R.S D} (hl : QE X R l f) : QI X R tg l (dIT f) := imp_i (pi_tup hl) fun σ H G ⟨hs, Z, H0, F0, ρ, st, F, ds, st', w, e, q⟩ => by
  obtain ⟨d, s1, e1, e2⟩ := mb_some e
  obtain ⟨e3, rfl⟩ := ml_some e2
  refine ⟨hs, Z, H0, F0, ρ, st, F, d, _, w, e1, fun v F1 H1 w1 m1 r1 => ?_⟩
  cases d with
  | tup es =>
    cases e3
    obtain ⟨a, xs, rfl, ea, rl⟩ := (r1.pl rfl).tupD
    refine ⟨a, rfl, ⟨xs, SqT.of (w1.FH _ _ ea)⟩, q _ F1 H1 w1 m1 fun Z' H0' F0' i ρ2 st2 σ2 F2 H2 w2 m2 => ?_⟩
    have eH : H2 a = some (.tup xs) := w2.FH _ _ (m2 _ _ ea)
    refine ⟨fun hi => ⟨xs, SqT.of eH, by rw [rl.length]; exact hi⟩, fun d hd => ?_⟩
    obtain ⟨v, hv, rv⟩ := rl.get hd
    refine ⟨⟨xs, v, SqT.of eH, hv⟩, fun x H3 hy => ?_⟩
    obtain ⟨rfl, hx⟩ := hy
    have := hx xs (SqT.of eH)
    rw [hv] at this; cases this
    exact ⟨F2, w2, Same.refl _, rv.mono m2, fun _ _ e => e⟩
  | _ => cases e3
/-- over a range -/
def rngL (lo : Int) (n : Nat) : List D := (List.range n).map fun (i : Nat) => D.int (lo + (i : Int))
def rng1 : List D → Option (List D)
  | [.int j] => if -1000000000000 ≤ j ∧ j < 1000000000000 then some (rngL 0 j.toNat) else none
  | _ => none
def rng2 : List D → Option (List D)
  | [.int i, .int j] => if -1000000000000 ≤ i ∧ i < 1000000000000 ∧ -1000000000000 ≤ j ∧ j < 1000000000000 then some (rngL i (j - i).toNat) else none
  | _ => none
def dIR (g : List D → Option (List D)) (f : Ev → M S (List D)) : Ev → M S (List D) := fun ρ => mb (f ρ) fun ds => ml (g ds)
theorem rngL_get {lo : Int} {n i : Nat} {d : D} (h : (rngL lo n)[i]? = some d) : i < n ∧ d = .int (lo + i) := by
  unfold rngL at h
  rw [List.getElem?_map] at h
  by_cases hi : i < n
  · rw [List.getElem?_range hi] at h
    cases h; exact ⟨hi, rfl⟩
  · rw [List.getElem?_eq_none (by simp; omega)] at h; cases h
theorem itok_rng {hs : Hs} {Z : Addr → Prop} {H0 F0 F : Hp} (lo : Int) (n : Nat) : ItOk R hs Z H0 F0 F (rngL lo n) (Itr lo n) := fun i ρ2 st2 σ2 F2 H2 w2 m2 => by
  refine ⟨fun hi => ?_, fun d hd => ?_⟩
  · show n ≤ i
    simpa [rngL] using hi
  · obtain ⟨hi, rfl⟩ := rngL_get hd
    refine ⟨hi, fun x H3 hy => ?_⟩
    obtain ⟨rfl, rfl⟩ := hy
    exact ⟨F2, w2, Same.refl _, .int _, fun _ _ e => e⟩
theorem RpEL.int1 {hs : Hs} {ρ : Ev} {σ : L2.St} {F : Hp} {vs : List V} {i : Int} (r : RpEL hs ρ σ F vs [.int i]) : vs = [.int i] := by
  match vs, r with
  | [v], ⟨a, _⟩ => rw [a.int]
  | [], r => exact r.elim
  | _ :: _ :: _, ⟨_, b⟩ => exact b.elim
theorem RpEL.int2 {hs : Hs} {ρ : Ev} {σ : L2.St} {F : Hp} {vs : List V} {i j : Int} (r : RpEL hs ρ σ F vs [.int i, .int j]) : vs = [.int i, .int j] := by
  match vs, r with
  | v :: vs, ⟨a, b⟩ => rw [a.int, RpEL.int1 b]
  | [], r => exact r.elim
theorem qi_rng1 {tg a : Expr} {p pos : Pos} {f : Ev → M R.S (List D)} (hg : Gl X "range") (hm : X.mg "range" = none) (ha : QA X R [a] f) (hs : starEach [a] X.env = [(false, eval a X.env)] := by rfl) : QI X R tg (.Call (.Name "range" p) [a] [] pos) (dIR rng1 f) :=
  imp_i (pi_range1 hg hm ha hs) fun σ H G ⟨hs, Z, H0, F0, ρ, st, F, ds, st', w, e, q⟩ => by
    obtain ⟨as, s1, e1, e2⟩ := mb_some e
    obtain ⟨e3, rfl⟩ := ml_some e2
    refine ⟨hs, Z, H0, F0, ρ, st, F, as, _, w, e1, fun vs F1 H1 w1 m1 r1 => ?_⟩
    match as, e3 with
    | [.int j], e3 =>
      obtain ⟨⟨c1, c2⟩, rfl⟩ := ite_some e3
      exact ⟨j, r1.int1, by omega, by omega, q _ F1 H1 w1 m1 fun _ _ _ => itok_rng 0 j.toNat⟩
theorem qi_rng2 {tg a b : Expr} {p pos : Pos} {f : Ev → M R.S (List D)} (hg : Gl X "range") (hm : X.mg "range" = none) (ha : QA X R [a, b] f) (hs : starEach [a, b] X.env = [(false, eval a X.env), (false, eval b X.env)] := by rfl) (hs2 : starEach [b] X.env = [(false, eval b X.env)] := by rfl) :
    QI X R tg (.Call (.Name "range" p) [a, b] [] pos) (dIR rng2 f) :=
  imp_i (pi_range2 hg hm ha hs hs2) fun σ H G ⟨hs, Z, H0, F0, ρ, st, F, ds, st', w, e, q⟩ => by
    obtain ⟨as, s1, e1, e2⟩ := mb_some e
    obtain ⟨e3, rfl⟩ := ml_some e2
    refine ⟨hs, Z, H0, F0, ρ, st, F, as, _, w, e1, fun vs F1 H1 w1 m1 r1 => ?_⟩
    match as, e3 with
    | [.int i, .int j], e3 =>
      obtain ⟨⟨c1, c2, c3, c4⟩, rfl⟩ := ite_some e3
      exact ⟨i, j, r1.int2, ⟨by omega, by omega, by omega, by omega⟩, q _ F1 H1 w1 m1 fun _ _ _ => itok_rng i (j - i).toNat⟩
/-- enumerate(x), zip(x, y) -/
def enuD : List D → Option (List D)
  | [.lst ds] => some (ds.zipIdx.map fun p => .tup [.int (p.2 : Nat), p.1])
  | _ => none
def zipD : List D → Option (List D)
  | [.lst ds, .lst es] => some ((ds.zip es).map fun p => .tup [p.1, p.2])
  | _ => none
theorem RpEL.one {hs : Hs} {ρ : Ev} {σ : L2.St} {F : Hp} {vs : List V} {d : D} (r : RpEL hs ρ σ F vs [d]) : ∃ v, vs = [v] ∧ RpE hs ρ σ F v d := by
  match vs, r with
  | [v], ⟨a, _⟩ => exact ⟨v, rfl, a⟩
  | [], r => exact r.elim
  | _ :: _ :: _, ⟨_, b⟩ => exact b.elim
theorem RpEL.two {hs : Hs} {ρ : Ev} {σ : L2.St} {F : Hp} {vs : List V} {d e : D} (r : RpEL hs ρ σ F vs [d, e]) : ∃ v u, vs = [v, u] ∧ RpE hs ρ σ F v d ∧ RpE hs ρ σ F u e := by
  match vs, r with
  | v :: vs, ⟨a, b⟩ =>
    obtain ⟨u, rfl, c⟩ := RpEL.one b
    exact ⟨v, u, rfl, a, c⟩
  | [], r => exact r.elim
theorem qi_enum {e : Expr} {p pos tpos : Pos} {elts : List Expr} {kk : Nat} {f : Ev → M R.S (List D)} (hg : Gl X "enumerate") (hm : X.mg "enumerate" = none) (ha : QA X R [e] f) (hs : starEach [e] X.env = [(false, eval e X.env)] := by rfl) :
    QI X R (.Tuple elts kk tpos) (.Call (.Name "enumerate" p) [e] [] pos) (dIR enuD f) :=
  imp_i (pi_enum hg hm ha hs) fun σ H G ⟨hs, Z, H0, F0, ρ, st, F, ds, st', w, e, q⟩ => by
    obtain ⟨as, s1, e1, e2⟩ := mb_some e
    obtain ⟨e3, rfl⟩ := ml_some e2
    refine ⟨hs, Z, H0, F0, ρ, st, F, as, _, w, e1, fun vs F1 H1 w1 m1 r1 => ?_⟩
    match as, e3 with
    | [.lst es], e3 =>
      cases e3
      obtain ⟨v, rfl, rv⟩ := r1.one
      obtain ⟨a, xs, rfl, ea, rl⟩ := (rv.pl rfl).lstD
      refine ⟨a, xs, rfl, SqL.of (w1.FH _ _ ea), q _ F1 H1 w1 m1 fun Z' H0' F0' i ρ2 st2 σ2 F2 H2 w2 m2 => ?_⟩
      have eH : H2 a = some (.lst xs) := w2.FH _ _ (m2 _ _ ea)
      refine ⟨fun hi => ⟨xs, SqL.of eH, by rw [rl.length]; simpa using hi⟩, fun d hd => ?_⟩
      rw [List.getElem?_map] at hd
      obtain ⟨⟨d1, j⟩, hz, rfl⟩ := map_some' hd
      rw [List.getElem?_zipIdx] at hz
      obtain ⟨d2, hd2, e4⟩ := map_some' hz
      cases e4
      obtain ⟨v, hv, rv2⟩ := rl.get hd2
      refine ⟨⟨xs, v, SqL.of eH, hv⟩, fun x H3 hy => ?_⟩
      obtain ⟨T, y, rfl, nT, rfl, hx⟩ := hy
      have := hx xs (SqL.of eH)
      rw [hv] at this; cases this
      have m3 := same_alloc w2 nT (.tup [.int (i : Nat), v])
      refine ⟨_, w2.alloc nT _, m3, .tup upd_same (.cons ?_ (.cons (rv2.mono (m2.trans m3)) .nil)), fun b o e => by rw [upd_ne (ne_of_none e nT)]; exact e⟩
      rw [Nat.zero_add]
      exact .int _
theorem qi_zip {e e2 : Expr} {p pos tpos : Pos} {elts : List Expr} {kk : Nat} {f : Ev → M R.S (List D)} (hg : Gl X "zip") (hm : X.mg "zip" = none) (ha : QA X R [e, e2] f)
    (hs : starEach [e, e2] X.env = (false, eval e X.env) :: starEach [e2] X.env := by rfl) (hpl : (backTo pos (starEach [e2] X.env)).any (·.1) = false := by rfl) :
    QI X R (.Tuple elts kk tpos) (.Call (.Name "zip" p) [e, e2] [] pos) (dIR zipD f) :=
  imp_i (pi_zip hg hm ha hs hpl) fun σ H G ⟨hs, Z, H0, F0, ρ, st, F, ds, st', w, e, q⟩ => by
    obtain ⟨as, s1, e1, e2⟩ := mb_some e
    obtain ⟨e3, rfl⟩ := ml_some e2
    refine ⟨hs, Z, H0, F0, ρ, st, F, as, _, w, e1, fun vs F1 H1 w1 m1 r1 => ?_⟩
    match as, e3 with
    | [.lst es, .lst fs], e3 =>
      cases e3
      obtain ⟨v, u, rfl, rv, ru⟩ := r1.two
      obtain ⟨a, xs, rfl, ea, rl⟩ := (rv.pl rfl).lstD
      obtain ⟨b, ys, rfl, eb, rk⟩ := (ru.pl rfl).lstD
      refine ⟨a, b, xs, ys, rfl, SqL.of (w1.FH _ _ ea), SqL.of (w1.FH _ _ eb), q _ F1 H1 w1 m1 fun Z' H0' F0' i ρ2 st2 σ2 F2 H2 w2 m2 => ?_⟩
      have eH : H2 a = some (.lst xs) := w2.FH _ _ (m2 _ _ ea)
      have eK : H2 b = some (.lst ys) := w2.FH _ _ (m2 _ _ eb)
      refine ⟨fun hi => ⟨xs, ys, SqL.of eH, SqL.of eK, ?_⟩, fun d hd => ?_⟩
      · rw [rl.length, rk.length]
        rw [List.length_map, List.length_zip] at hi
        omega
      rw [List.getElem?_map] at hd
      obtain ⟨⟨d1, d2⟩, hz, rfl⟩ := map_some' hd
      rw [List.getElem?_zip_eq_some] at hz
      obtain ⟨v, hv, rv2⟩ := rl.get hz.1
      obtain ⟨u, hu, ru2⟩ := rk.get hz.2
      refine ⟨⟨xs, ys, v, u, SqL.of eH, SqL.of eK, hv, hu⟩, fun x H3 hy => ?_⟩
      obtain ⟨T, y, z, rfl, nT, rfl, hx, hy⟩ := hy
      have := hx xs (SqL.of eH)
      rw [hv] at this; cases this
      have := hy ys (SqL.of eK)
      rw [hu] at this; cases this
      have m3 := same_alloc w2 nT (.tup [v, u])
      exact ⟨_, w2.alloc nT _, m3, .tup upd_same (.cons (rv2.mono (m2.trans m3)) (.cons (ru2.mono (m2.trans m3)) .nil)), fun b o e => by rw [upd_ne (ne_of_none e nT)]; exact e⟩

/-! ### for -/
def forl (g : D → Ev → Option Ev) (b : Ev → M S Out) : List D → Ev → M S Out
  | [] => fun ρ => mr (.nx ρ)
  | d :: ds => fun ρ => mb (ml (g d ρ)) fun ρ1 => mb (b ρ1) fun o => match o with
    | .nx ρ' => forl g b ds ρ'
    | .ct ρ' => forl g b ds ρ'
    | .bk ρ' => mr (.nx ρ')
    | .rt d => mr (.rt d)
def dFor (it : Ev → M S (List D)) (g : D → Ev → Option Ev) (b : Ev → M S Out) : Ev → M S Out := fun ρ => mb (it ρ) fun ds => forl g b ds ρ
theorem qs_for {vs : List Nat} {tg iter : Expr} {body : List Stmt} {pos : Pos} {fi : Ev → M R.S (List D)} {g : D → Ev → Option Ev} {f : Ev → M R.S Out} (hp : PassesOwn (model X.prog X.w) X.A X.env X.xe) (hc : X.calm = true) (hi : QI X R tg iter fi) (hg : QG X R vs tg g) (hb : QSs X R body f)
    (hs : ∀ x, foldedSetIterable iter X.env x = pure x := by intro _; rfl) : QS X R (.For tg iter body [] pos) (dFor fi g f) :=
  imp_s (ps_for hp hc hi hg hb hs) fun D σ H ⟨hs, Z, H0, F0, ρ, st, F, o, st', w, e, q⟩ => by
    obtain ⟨ds, s1, e1, e2⟩ := mb_some e
    refine ⟨hs, Z, H0, F0, ρ, st, F, ds, s1, w, e1, fun J F1 H1 w1 m1 ok => ?_⟩
    have ok := ok Z H0 F0
    refine ⟨fun i m σ2 H2 => m = ds.length - i ∧ i ≤ ds.length ∧ ∃ ρ2 s2 F2, W R hs Z H0 F0 ρ2 s2 σ2 F2 H2 ∧ Same F1 F2 ∧ forl g f (ds.drop i) ρ2 s2 = some (o, st'), ⟨ds.length, rfl, Nat.zero_le _, ρ, s1, F1, w1, Same.refl _, e2⟩, ?_⟩
    rintro i m σ2 H2 ⟨rfl, hi, ρ2, s2, F2, w2, m2, e3⟩
    obtain ⟨stop, go⟩ := ok i ρ2 s2 σ2 F2 H2 w2 m2
    by_cases hlt : i < ds.length
    · have hd : ds[i]? = some ds[i] := List.getElem?_eq_getElem hlt
      obtain ⟨g1, yl⟩ := go _ hd
      rw [List.drop_eq_getElem_cons hlt] at e3
      obtain ⟨ρ3, s3, e4, e5⟩ := mb_some e3
      obtain ⟨e6, rfl⟩ := ml_some e4
      obtain ⟨o1, s4, e7, e8⟩ := mb_some e5
      refine .inr ⟨g1, fun σ4 H4 => ∃ ρ4 F4, W R hs Z H0 F0 ρ4 s4 σ4 F4 H4 ∧ Same F1 F4 ∧ forl g f (ds.drop (i + 1)) ρ4 s4 = some (o, st'),
        fun σ4 H4 ⟨ρ4, F4, w4, m4, e9⟩ => ⟨ds.length - (i + 1), by omega, rfl, hlt, ρ4, s4, F4, w4, m4, e9⟩, fun x H3 hy => ?_⟩
      obtain ⟨F3, w3, m3, rx, _⟩ := yl x H3 hy
      refine ⟨hs, Z, H0, F0, ρ2, _, F3, ds[i], ρ3, w3, rx, e6, fun σ5 F5 H5 w5 m5 _ => ?_⟩
      refine ⟨hs, Z, H0, F0, ρ3, _, F5, o1, s4, w5, e7, ?_⟩
      have mm := (m2.trans m3).trans m5
      cases o1 with
      | nx ρ6 => exact fun σ6 F6 H6 w6 m6 => ⟨ρ6, F6, w6, mm.trans m6, e8⟩
      | ct ρ6 => exact fun σ6 F6 H6 w6 m6 => ⟨ρ6, F6, w6, mm.trans m6, e8⟩
      | bk ρ6 =>
        obtain ⟨rfl, rfl⟩ := mr_some e8
        exact fun σ6 F6 H6 w6 m6 => q σ6 F6 H6 w6 ((m1.trans mm).trans m6)
      | rt d =>
        obtain ⟨rfl, rfl⟩ := mr_some e8
        exact fun v ρ6 σ6 F6 H6 w6 m6 r6 => q v ρ6 σ6 F6 H6 w6 ((m1.trans mm).trans m6) r6
    · have ei : i = ds.length := by omega
      subst ei
      rw [List.drop_length] at e3
      obtain ⟨rfl, rfl⟩ := mr_some e3
      exact .inl ⟨stop (Nat.le_refl _), q σ2 F2 H2 w2 (m1.trans m2)⟩
end

/-! ### another root -/
def ZO (R : RK) (hs : Hs) (ρ : Ev) (σ : L2.St) (H : Hp) (b : Addr) : Prop := R.fp hs b ∨ (∃ (i : Nat) (d : D), ρ[i]? = some (Slot.own d) ∧ σ[i]? = some (some (.ref b))) ∨ DpAt ρ σ H b
section
variable {R : RK} {hs : Hs} {Z : Addr → Prop} {H0 F0 : Hp} {ρ : Ev} {st st' : R.S} {σ : L2.St} {F H F' H' : Hp}
theorem W.root (w : W R hs Z H0 F0 ρ st σ F H) : W R hs (ZO R hs ρ σ H) H F ρ st σ F H :=
  ⟨Same.refl _, fun _ _ e _ => e, fun b e => .inl e, w.FH, fun _ _ e => .inl e, w.Fp, w.rep, w.len, w.val, fun i d e => by
    obtain ⟨a, h1, h2, h3, h4, h5⟩ := w.own i d e
    exact ⟨a, h1, h2, h3, .inr (.inr (.inl ⟨i, d, e, h1⟩)), h5⟩, w.dis, w.dps.move (fun i d e => ⟨e, rfl⟩) (fun j e c q1 q2 => .inl ⟨e, q1, q2⟩) (Same.refl _) fun b f1 _ f3 _ hd _ => ⟨rfl, f1, .inr (.inr (.inr hd))⟩⟩
theorem W.noZ (w : W R hs Z H0 F0 ρ st σ F H) {b : Addr} (h : ZO R hs ρ σ H b) : H0 b = none ∨ Z b := by
  rcases h with h | ⟨i, d, e, h1⟩ | h
  · exact .inr (w.zfp b h)
  · obtain ⟨a, g1, _, _, g4, _⟩ := w.own i d e
    rw [h1] at g1; cases g1
    exact g4
  · exact (w.dps.all h).2.2.1
theorem W.old (w : W R hs Z H0 F0 ρ st σ F H) {b : Addr} (h : H b = none) : H0 b = none ∨ Z b := by
  by_cases z : Z b
  · exact .inr z
  · cases q : H0 b with
    | none => exact .inl rfl
    | some o => have := w.sH b o q z; rw [h] at this; cases this
theorem W.unroot {ρ' : Ev} {σ' : L2.St} (w : W R hs Z H0 F0 ρ st σ F H) (w' : W R hs (ZO R hs ρ σ H) H F ρ' st' σ' F' H') : W R hs Z H0 F0 ρ' st' σ' F' H' :=
  ⟨w.sF.trans w'.sF, fun b o e z => w'.sH b o (w.sH b o e z) fun zo => by
      rcases w.noZ zo with n | n
      · rw [n] at e; cases e
      · exact z n,
    w.zfp, w'.FH, fun b o e => by
      rcases w'.Fn b o e with h | h | h
      · exact w.Fn b o h
      · exact .inr (w.old h)
      · exact .inr (w.noZ h),
    w'.Fp, w'.rep, w'.len, w'.val, fun i d e => by
      obtain ⟨a, h1, h2, h3, h4, h5⟩ := w'.own i d e
      refine ⟨a, h1, h2, h3, ?_, h5⟩
      rcases h4 with h | h
      · exact w.old h
      · exact w.noZ h, w'.dis, w'.dps.move (fun i d e => ⟨e, rfl⟩) (fun j e c q1 q2 => .inl ⟨e, q1, q2⟩) (Same.refl _) fun b f1 _ f3 _ _ _ => ⟨rfl, f1, f3.elim w.old w.noZ⟩⟩
def del (H : Hp) (a : Addr) : Hp := fun b => if b = a then none else H b
theorem del_ne {H : Hp} {a b : Addr} (h : b ≠ a) : del H a b = H b := if_neg h
theorem del_same {H : Hp} {a : Addr} : del H a a = none := if_pos rfl
theorem upd_del {H : Hp} {a : Addr} {o : HO} : upd (del H a) a o = upd H a o := by
  funext b
  by_cases h : b = a
  · subst h; rw [upd_same, upd_same]
  · rw [upd_ne h, upd_ne h, del_ne h]
theorem W.del (w : W R hs Z H0 F0 ρ st σ F H) {p : Addr} (h1 : F p = none) (h2 : ¬ (R.fp hs p ∨ ∃ (i : Nat) (d : D), ρ[i]? = some (Slot.own d) ∧ σ[i]? = some (some (.ref p)))) (h2d : ¬ DpAt ρ σ H p) (h3 : H0 p = none ∨ Z p) : W R hs Z H0 F0 ρ st σ F (del H p) := by
  refine ⟨w.sF, fun b o e z => ?_, w.zfp, fun b o e => ?_, w.Fn, w.Fp, R.keep _ _ _ _ _ _ w.rep (Same.refl _) fun b e => del_ne fun z => h2 (.inl (z ▸ e)), w.len, w.val, fun i d e => ?_, w.dis, w.dps.move (fun i d e => ⟨e, rfl⟩) (fun j e c q1 q2 => .inl ⟨e, q1, q2⟩) (Same.refl _) fun b f1 _ f3 _ hd _ => ⟨del_ne fun z => h2d (z ▸ hd), f1, f3⟩⟩
  · have : b ≠ p := fun q => by
      subst q
      rcases h3 with h | h
      · rw [h] at e; cases e
      · exact z h
    rw [del_ne this]; exact w.sH b o e z
  · have : b ≠ p := fun q => by subst q; rw [h1] at e; cases e
    rw [del_ne this]; exact w.FH b o e
  · obtain ⟨a, g1, g2, g3, g4, g5⟩ := w.own i d e
    have : a ≠ p := fun q => h2 (.inr ⟨i, d, e, q ▸ g1⟩)
    exact ⟨a, g1, g2, g3, g4, g5.keep (Same.refl _) (del_ne this)⟩
/-- slots forgotten -/
def wipeE (ρ : Ev) : List Nat → Ev
  | [] => ρ
  | v :: vs => (wipeE ρ vs).set v .non
theorem wipeE_some {s : Slot} {i : Nat} : ∀ {vs : List Nat}, (wipeE ρ vs)[i]? = some s → s = .non ∨ (ρ[i]? = some s ∧ i ∉ vs)
  | [], h => .inr ⟨h, by simp⟩
  | v :: vs, h => by
    unfold wipeE at h
    rcases get_set h with ⟨_, e, _⟩ | ⟨ne, h⟩
    · exact .inl e
    · rcases wipeE_some h with e | ⟨h1, h2⟩
      · exact .inl e
      · exact .inr ⟨h1, by simp only [List.mem_cons, not_or]; exact ⟨ne, h2⟩⟩
theorem wipeE_length : ∀ vs : List Nat, (wipeE ρ vs).length = ρ.length
  | [] => rfl
  | v :: vs => by unfold wipeE; rw [List.length_set, wipeE_length vs]
theorem wipe_keep {i : Nat} {vs : List Nat} (h : i ∉ vs) : (wipe σ vs)[i]? = σ[i]? := by
  rw [wipe_get, if_neg fun z => h z.1]
theorem W.wipe (w : W R hs Z H0 F0 ρ st σ F H) (vs : List Nat) : W R hs Z H0 F0 (wipeE ρ vs) st (wipe σ vs) F H := by
  refine ⟨w.sF, w.sH, w.zfp, w.FH, w.Fn, w.Fp, w.rep, by rw [wipeE_length, wipe_length]; exact w.len, fun i d e => ?_, fun i d e => ?_, fun i j d e q1 q2 ne a b h1 h2 => ?_, ?_⟩
  · rcases wipeE_some e with z | ⟨h1, h2⟩
    · cases z
    · rw [wipe_keep h2]; exact w.val i d h1
  · rcases wipeE_some e with z | ⟨h1, h2⟩
    · cases z
    · rw [wipe_keep h2]; exact w.own i d h1
  · rcases wipeE_some q1 with z | ⟨g1, g2⟩
    · cases z
    · rcases wipeE_some q2 with z | ⟨k1, k2⟩
      · cases z
      · rw [wipe_keep g2] at h1
        rw [wipe_keep k2] at h2
        exact w.dis i j d e g1 k1 ne a b h1 h2
  · refine w.dps.move (fun i dss q => ?_) (fun j e c q1 q2 => ?_) (Same.refl _) fun b f1 _ f3 _ _ _ => ⟨rfl, f1, f3⟩
    · rcases wipeE_some q with z | ⟨g1, g2⟩
      · cases z
      · exact ⟨g1, wipe_keep g2⟩
    · rcases wipeE_some q1 with z | ⟨g1, g2⟩
      · cases z
      · rw [wipe_keep g2] at q2
        exact .inl ⟨e, g1, q2⟩
theorem wipeE_get (j : Nat) : ∀ vs : List Nat, (wipeE ρ vs)[j]? = if j ∈ vs ∧ j < ρ.length then some .non else ρ[j]?
  | [] => by simp [wipeE]
  | v :: vs => by
    unfold wipeE
    by_cases h : v = j
    · subst h
      by_cases hl : v < ρ.length
      · rw [List.getElem?_set_self (by rw [wipeE_length]; exact hl), if_pos ⟨List.mem_cons_self, hl⟩]
      · rw [if_neg fun z => hl z.2, List.getElem?_eq_none (by rw [List.length_set, wipeE_length]; omega), List.getElem?_eq_none (by omega)]
    · rw [List.getElem?_set_ne h, wipeE_get j vs]
      by_cases hm : j ∈ vs ∧ j < ρ.length
      · rw [if_pos hm, if_pos ⟨List.mem_cons_of_mem _ hm.1, hm.2⟩]
      · rw [if_neg hm, if_neg fun z => ?_]
        rcases List.mem_cons.mp z.1 with e | e
        · exact h e.symm
        · exact hm ⟨e, z.2⟩
theorem wipeE_set {i : Nat} {x : Slot} {vs : List Nat} (h : i ∈ vs) : wipeE (ρ.set i x) vs = wipeE ρ vs := by
  refine List.ext_getElem? fun j => ?_
  rw [wipeE_get, wipeE_get, List.length_set]
  by_cases hm : j ∈ vs ∧ j < ρ.length
  · rw [if_pos hm, if_pos hm]
  · rw [if_neg hm, if_neg hm]
    by_cases e : i = j
    · subst e
      have : ¬ i < ρ.length := fun z => hm ⟨h, z⟩
      rw [List.getElem?_eq_none (by rw [List.length_set]; omega), List.getElem?_eq_none (by omega)]
    · rw [List.getElem?_set_ne e]
theorem wipeE_idem (vs : List Nat) : wipeE (wipeE ρ vs) vs = wipeE ρ vs := by
  refine List.ext_getElem? fun j => ?_
  rw [wipeE_get, wipeE_length, wipeE_get]
  by_cases hm : j ∈ vs ∧ j < ρ.length
  · rw [if_pos hm, if_pos hm]
  · rw [if_neg hm, if_neg hm]
theorem wipe_idem (vs : List Nat) : wipe (wipe σ vs) vs = wipe σ vs := by
  refine List.ext_getElem? fun j => ?_
  rw [wipe_get, wipe_length, wipe_get]
  by_cases hm : j ∈ vs ∧ j < σ.length
  · rw [if_pos hm, if_pos hm]
  · rw [if_neg hm, if_neg hm]
/-- none of the slots owns -/
def noOwn (vs : List Nat) (ρ : Ev) : Bool := vs.all fun i => match ρ[i]? with
  | some (.own _) => false
  | some (.deep _) => false
  | _ => true
theorem noOwn_dp {vs : List Nat} (h : noOwn vs ρ = true) {i : Nat} {d : List (List D)} (e : ρ[i]? = some (.deep d)) : i ∉ vs := fun hm => by
  have := List.all_eq_true.mp h i hm
  rw [e] at this; cases this
theorem noOwn_of {vs : List Nat} (h : noOwn vs ρ = true) {i : Nat} {d : D} (e : ρ[i]? = some (.own d)) : i ∉ vs := fun hm => by
  have := List.all_eq_true.mp h i hm
  rw [e] at this; cases this
theorem W.unwipe {vs : List Nat} (w : W R hs Z H0 F0 ρ st σ F H) (no : noOwn vs ρ = true) (w' : W R hs Z H0 F0 (wipeE ρ vs) st' (L2.wipe σ vs) F' H') (m : Same F F') : W R hs Z H0 F0 ρ st' σ F' H' :=
  ⟨w'.sF, w'.sH, w'.zfp, w'.FH, w'.Fn, w'.Fp, w'.rep, w.len, fun i d e => by
      obtain ⟨v, h1, h2⟩ := w.val i d e
      exact ⟨v, h1, h2.mono m⟩, fun i d e => by
      have hi := noOwn_of no e
      have hl : i < ρ.length := (List.getElem?_eq_some_iff.mp e).1
      have e' : (wipeE ρ vs)[i]? = some (.own d) := by rw [wipeE_get, if_neg fun z => hi z.1]; exact e
      obtain ⟨a, h1, h2⟩ := w'.own i d e'
      rw [wipe_keep hi] at h1
      exact ⟨a, h1, h2⟩, w.dis, w'.dps.move (fun i d e => by
        have hi := noOwn_dp no e
        exact ⟨by rw [wipeE_get, if_neg fun z => hi z.1]; exact e, (wipe_keep hi).symm⟩) (fun j e c q1 q2 => by
        have hi := noOwn_of no q1
        exact .inl ⟨e, by rw [wipeE_get, if_neg fun z => hi z.1]; exact q1, by rw [wipe_keep hi]; exact q2⟩) (Same.refl _) fun b f1 _ f3 _ _ _ => ⟨rfl, f1, f3⟩⟩
end
/-! ### list comprehensions -/
def GOk (vs : List Nat) (g : D → Ev → Option Ev) : Prop := ∀ d ρ ρ', g d ρ = some ρ' → wipeE ρ' vs = wipeE ρ vs
def GsOk (vs : List Nat) (g : List D → Ev → Option Ev) : Prop := ∀ d ρ ρ', g d ρ = some ρ' → wipeE ρ' vs = wipeE ρ vs
theorem gok_N {vs : List Nat} {i : Nat} (h : i ∈ vs := by decide) : GOk vs (gN i) := fun d ρ ρ' e => by
  cases e
  exact wipeE_set h
theorem gok_nil {vs : List Nat} : GsOk vs gNil' := fun d ρ ρ' e => by
  cases d with
  | nil => cases e; rfl
  | cons _ _ => cases e
theorem gok_cons {vs : List Nat} {g : D → Ev → Option Ev} {g' : List D → Ev → Option Ev} (h : GOk vs g) (h' : GsOk vs g') : GsOk vs (gCons' g g') := fun d ρ ρ' e => by
  cases d with
  | nil => cases e
  | cons d ds =>
    have e : (match g d ρ with
      | none => none
      | some ρ' => g' ds ρ') = some ρ' := e
    cases c : g d ρ with
    | none => rw [c] at e; cases e
    | some ρ1 =>
      rw [c] at e
      exact (h' _ _ _ e).trans (h _ _ _ c)
theorem gok_tp {vs : List Nat} {n : Nat} {g : List D → Ev → Option Ev} (h : GsOk vs g) : GOk vs (gTp n g) := fun d ρ ρ' e => by
  cases d with
  | tup ds =>
    have e : (if ds.length = n then g ds ρ else none) = some ρ' := e
    by_cases hl : ds.length = n
    · rw [if_pos hl] at e; exact h _ _ _ e
    · rw [if_neg hl] at e; cases e
  | _ => cases e
section
variable {X : Cx} {R : RK} {S : Type}
def lcl (g : D → Ev → Option Ev) (t : Ev → M S Bool) (f : Ev → M S D) (ρ : Ev) : List D → M S (List D)
  | [] => mr []
  | d :: ds => mb (ml (g d ρ)) fun ρ1 => mb (t ρ1) fun b => match b with
    | false => lcl g t f ρ ds
    | true => mb (f ρ1) fun y => mb (ml (plO y)) fun y => mb (lcl g t f ρ ds) fun ys => mr (y :: ys)
def dLc (it : Ev → M S (List D)) (g : D → Ev → Option Ev) (t : Ev → M S Bool) (f : Ev → M S D) (vs : List Nat) : Ev → M S (List D) := fun ρ => mb (it ρ) fun ds => if noOwn vs ρ = true ∧ ds.length ≤ LIM then lcl g t f (wipeE ρ vs) ds else fun _ => none
def dYes : Ev → M S Bool := fun _ => mr true
abbrev QTs (X : Cx) (R : RK) (es : List Expr) (f : Ev → M R.S Bool) : Prop := PTs X es (tqT R f)
theorem imp_ts {es : List Expr} {t t' : TT} (h : PTs X es t) (w : ∀ σ H Q, t' σ H Q → t σ H Q) : PTs X es t' := ⟨fun pins s σ H Q I q => h.run pins s σ H Q I (w _ _ _ q)⟩
theorem qts_nil : QTs X R [] dYes := imp_ts pts_nil fun σ H Q ⟨hs, Z, H0, F0, ρ, st, F, d, st', w, e, q⟩ => by
  obtain ⟨rfl, rfl⟩ := mr_some e
  exact q F H w (Same.refl _)
theorem qts_one {c : Expr} {f : Ev → M R.S Bool} (h : QT X R c f) : QTs X R [c] f := pts_one h
theorem tq_lc {fi : Ev → M R.S (List D)} {g : D → Ev → Option Ev} {t : Ev → M R.S Bool} {f : Ev → M R.S D} {vs : List Nat} (go : GOk vs g) : ∀ σ H Q, tqN R (dLc fi g t f vs) σ H Q → tLc (tqi R fi) (tqg R vs g) (tqT R t) (tq R f) vs σ H Q :=
  fun σ H Q ⟨hs, Z, H0, F0, ρ, st, F, out, st', w, e, q⟩ => by
    obtain ⟨ds, s1, e1, e2⟩ := mb_some e
    have e2 : (if noOwn vs ρ = true ∧ ds.length ≤ LIM then lcl g t f (wipeE ρ vs) ds else fun _ => none) s1 = some (out, st') := e2
    by_cases c : noOwn vs ρ = true ∧ ds.length ≤ LIM
    · rw [if_pos c] at e2
      obtain ⟨no, hlim⟩ := c
      refine ⟨hs, Z, H0, F0, ρ, st, F, ds, s1, w, e1, fun J F1 H1 w1 m1 ok D nD => ?_⟩
      refine ⟨fun i m H2 => m = ds.length - i ∧ i ≤ ds.length ∧ ∃ s2 F2 Hm acc ys zs, W R hs Z H0 F0 (wipeE ρ vs) s2 (wipe σ vs) F2 Hm ∧ Same F1 F2 ∧ Hm D = none ∧ H2 = upd Hm D (.lst acc) ∧ RpL hs F2 acc ys ∧ acc.length ≤ i ∧ lcl g t f (wipeE ρ vs) (ds.drop i) s2 = some (zs, st') ∧ ys ++ zs = out,
        ⟨ds.length, rfl, Nat.zero_le _, s1, F1, H1, [], [], out, w1.wipe vs, Same.refl _, nD, rfl, .nil, Nat.zero_le _, e2, rfl⟩, ?_⟩
      rintro i m H2 ⟨rfl, hi, s2, F2, Hm, acc, ys, zs, w2, m2, nDm, rfl, ra, hl, e3, eo⟩
      have w3 := w2.lay nDm (.lst acc)
      have nF2 : F2 D = none := w2.FH.free nDm
      have nZO : ¬ ZO R hs (wipeE ρ vs) (wipe σ vs) (upd Hm D (.lst acc)) D := fun z => by
        rcases z with z | ⟨j, d, z1, z2⟩ | z
        · exact R.live _ _ _ _ _ w2.rep z nDm
        · obtain ⟨a, g1, _, _, _, g5⟩ := w2.own j d z1
          rw [z2] at g1; cases g1
          exact g5.there nDm
        · exact w2.noDp nDm _ z
      have wr := w3.root
      obtain ⟨stop, goI⟩ := ok _ _ _ i _ _ _ _ _ wr m2
      by_cases hlt : i < ds.length
      · have hd : ds[i]? = some ds[i] := List.getElem?_eq_getElem hlt
        obtain ⟨g1, yl⟩ := goI _ hd
        rw [List.drop_eq_getElem_cons hlt] at e3
        obtain ⟨ρ3, s3, e4, e5⟩ := mb_some e3
        obtain ⟨e6, rfl⟩ := ml_some e4
        obtain ⟨b, s4, e7, e8⟩ := mb_some e5
        refine .inr ⟨g1, fun H4 => ds.length - (i + 1) < ds.length - i ∧ i + 1 ≤ ds.length ∧ ∃ s2 F2 Hm acc ys zs, W R hs Z H0 F0 (wipeE ρ vs) s2 (wipe σ vs) F2 Hm ∧ Same F1 F2 ∧ Hm D = none ∧ H4 = upd Hm D (.lst acc) ∧ RpL hs F2 acc ys ∧ acc.length ≤ i + 1 ∧ lcl g t f (wipeE ρ vs) (ds.drop (i + 1)) s2 = some (zs, st') ∧ ys ++ zs = out,
          fun H4 ⟨h1, h2, h3⟩ => ⟨_, h1, rfl, h2, h3⟩, fun x H3 hy => ?_⟩
        obtain ⟨F3, wy, m3, rx, _⟩ := yl x H3 hy
        refine ⟨hs, _, _, _, wipeE ρ vs, _, F3, ds[i], ρ3, wy, rx, e6, fun σ5 F5 H5 w5 m5 z5 => ?_⟩
        rw [wipe_idem] at z5
        refine ⟨z5.trans (wipe_idem vs).symm |>.trans (by rw [wipe_idem]), ?_⟩
        refine ⟨hs, _, _, _, ρ3, _, F5, b, s4, w5, e7, fun F6 H6 w6 m6 => ?_⟩
        have mm := (m3.trans m5).trans m6
        -- the end of a turn: back to the wiped slots and the first root, the list aside
        have fin : ∀ {sz F8 H8}, W R hs (ZO R hs (wipeE ρ vs) (wipe σ vs) (upd Hm D (.lst acc))) (upd Hm D (.lst acc)) F2 ρ3 sz σ5 F8 H8 → W R hs Z H0 F0 (wipeE ρ vs) sz (wipe σ vs) F8 (del H8 D) ∧ H8 D = some (.lst acc) := fun {sz F8 H8} w8 => by
          have w9 := w8.wipe vs
          rw [go _ _ _ e6, wipeE_idem, z5] at w9
          have h8 : H8 D = some (.lst acc) := w8.sH D _ upd_same nZO
          have f8 : F8 D = none := by
            cases q8 : F8 D with
            | none => rfl
            | some o =>
              rcases w8.Fn D o q8 with z | z | z
              · rw [nF2] at z; cases z
              · rw [upd_same] at z; cases z
              · exact absurd z nZO
          have nd8 : ¬ DpAt (wipeE ρ vs) (wipe σ vs) H8 D := fun z => by
            rcases (w9.dps.all z).2.2.1 with h | h
            · rw [upd_same] at h; cases h
            · exact nZO h
          exact ⟨(w3.unroot w9).del f8 (fun z => nZO (z.elim .inl fun z => .inr (.inl z))) nd8 (w2.old nDm), h8⟩
        cases b with
        | false =>
          obtain ⟨wf, h8⟩ := fin w6
          refine iteF ⟨by omega, hlt, s4, F6, del H6 D, acc, ys, zs, wf, m2.trans mm, del_same, ?_, ra.mono mm, by omega, e8, eo⟩
          funext b
          by_cases hb : b = D
          · subst hb; rw [upd_same]; exact h8
          · rw [upd_ne hb, del_ne hb]
        | true =>
          obtain ⟨y, s7, e9, e10⟩ := mb_some e8
          obtain ⟨y', s8, e11, e12⟩ := mb_some e10
          obtain ⟨e13, rfl⟩ := ml_some e11
          obtain ⟨py, rfl⟩ := plO_some e13
          obtain ⟨zs', s9, e14, e15⟩ := mb_some e12
          obtain ⟨rfl, rfl⟩ := mr_some e15
          refine iteT ⟨hs, _, _, _, ρ3, s4, F6, y, _, w6, e9, fun v F8 H8 w8 m8 r8 => ?_⟩
          obtain ⟨wf, h8⟩ := fin w8
          have m9 := mm.trans m8
          refine ⟨acc, h8, by have := lim_lt hlim; omega, by omega, hlt, _, F8, del H8 D, acc ++ [v], ys ++ [y], zs', wf, m2.trans m9, del_same, upd_del.symm, (ra.mono m9).append (.cons (r8.pl py) .nil), by rw [List.length_append, List.length_singleton]; omega, e14, ?_⟩
          rw [List.append_assoc]; exact eo
      · have ei : i = ds.length := by omega
        subst ei
        rw [List.drop_length] at e3
        obtain ⟨rfl, rfl⟩ := mr_some e3
        rw [List.append_nil] at eo
        subst eo
        exact .inl ⟨stop (Nat.le_refl _), q D acc F2 Hm (w1.unwipe no w2 m2) (m1.trans m2) nDm ra⟩
    · rw [if_neg c] at e2; cases e2
theorem qn_lc {elt tg iter : Expr} {ifs : List Expr} {scope : Scope} {own : List (Str × Nat)} {pos : Pos} {fi : Ev → M R.S (List D)} {g : D → Ev → Option Ev} {t : Ev → M R.S Bool} {f : Ev → M R.S D} (hc : X.calm = true) (hN : X.N.Nodup) (hi : QI X R tg iter fi) (ok : BlkOk X.N X.env.scope scope own)
    (hg : ∀ (s : Shared) (H : Hp) (C : Addr) (cl : List (Str × Addr)) (fp : List Addr), QG (X.blk s H scope (compEnvC scope cl C X.env) fp) R (own.map (·.2)) tg g) (go : GOk (own.map (·.2)) g) (ht : ∀ (s : Shared) (H : Hp) (C : Addr) (cl : List (Str × Addr)) (fp : List Addr), QTs (X.blk s H scope (compEnvC scope cl C X.env) fp) R ifs t)
    (he : ∀ (s : Shared) (H : Hp) (C : Addr) (cl : List (Str × Addr)) (fp : List Addr), QE (X.blk s H scope (compEnvC scope cl C X.env) fp) R elt f) (hs : ∀ x, foldedSetIterable iter X.env x = pure x := by intro _; rfl) :
    QN X R (.ListComp elt [⟨tg, iter, ifs, 0⟩] scope pos) (dLc fi g t f (own.map (·.2))) := imp_e (pe_lc hc hN hi ok hg ht he hs) (tq_lc go)
/-- y = [..]: frozen at once, or owned -/
def dSetF (i : Nat) (f : Ev → M S (List D)) : Ev → M S Out := fun ρ => mb (f ρ) fun ds => mr (.nx (ρ.set i (.val (.lst ds))))
theorem tqs_setF {i : Nat} {f : Ev → M R.S (List D)} : ∀ D σ H, tqs R (dSetF i f) D σ H → tAsg (tqN R f) (gName i) D σ H := fun D σ H ⟨hs, Z, H0, F0, ρ, st, F, o, st', w, e, q⟩ => by
  obtain ⟨ds, s1, e1, e2⟩ := mb_some e
  obtain ⟨rfl, rfl⟩ := mr_some e2
  refine ⟨hs, Z, H0, F0, ρ, st, F, ds, _, w, e1, fun p vs F1 H1 w1 m1 np r1 => ?_⟩
  have m2 := same_alloc w1 np (.lst vs)
  exact q _ _ _ ((w1.alloc np (.lst vs)).setV (.lst upd_same (r1.mono m2)) i) (m1.trans m2)
theorem qs_lcO {i : Nat} {y : Str} {py : Pos} {elt tg iter : Expr} {ifs : List Expr} {scope : Scope} {own : List (Str × Nat)} {pos spos : Pos} {fi : Ev → M R.S (List D)} {g : D → Ev → Option Ev} {t : Ev → M R.S Bool} {f : Ev → M R.S D} (hc : X.calm = true) (hN : X.N.Nodup) (hy : X.N[i]? = some y) (hyl : X.env.scope.names.lookup y = some .local)
    (hsw : swapsWith (.ListComp elt [⟨tg, iter, ifs, 0⟩] scope pos) (some (.Name y py)) spos.line X.env = pure true) (hi : QI X R tg iter fi) (ok : BlkOk X.N X.env.scope scope own)
    (hg : ∀ (s : Shared) (H : Hp) (C : Addr) (cl : List (Str × Addr)) (fp : List Addr), QG (X.blk s H scope (compEnvC scope cl C X.env) fp) R (own.map (·.2)) tg g) (go : GOk (own.map (·.2)) g) (ht : ∀ (s : Shared) (H : Hp) (C : Addr) (cl : List (Str × Addr)) (fp : List Addr), QTs (X.blk s H scope (compEnvC scope cl C X.env) fp) R ifs t)
    (he : ∀ (s : Shared) (H : Hp) (C : Addr) (cl : List (Str × Addr)) (fp : List Addr), QE (X.blk s H scope (compEnvC scope cl C X.env) fp) R elt f) (hs : ∀ x, foldedSetIterable iter X.env x = pure x := by intro _; rfl) :
    QS X R (.Assign [.Name y py] (.ListComp elt [⟨tg, iter, ifs, 0⟩] scope pos) spos) (dSetO i (dLc fi g t f (own.map (·.2)))) :=
  imp_s (ps_setLc hc hN hy hyl hsw hi ok hg ht he hs) fun D σ H h => by
    obtain ⟨hs, Z, H0, F0, ρ, st, F, d, st', w, e, q⟩ := tqs_setO D σ H h
    exact tq_lc go σ H _ ⟨hs, Z, H0, F0, ρ, st, F, d, st', w, e, q⟩
theorem qs_lcF {i : Nat} {y : Str} {py : Pos} {elt tg iter : Expr} {ifs : List Expr} {scope : Scope} {own : List (Str × Nat)} {pos spos : Pos} {fi : Ev → M R.S (List D)} {g : D → Ev → Option Ev} {t : Ev → M R.S Bool} {f : Ev → M R.S D} (hc : X.calm = true) (hN : X.N.Nodup) (hy : X.N[i]? = some y) (hyl : X.env.scope.names.lookup y = some .local)
    (hsw : swapsWith (.ListComp elt [⟨tg, iter, ifs, 0⟩] scope pos) (some (.Name y py)) spos.line X.env = pure true) (hi : QI X R tg iter fi) (ok : BlkOk X.N X.env.scope scope own)
    (hg : ∀ (s : Shared) (H : Hp) (C : Addr) (cl : List (Str × Addr)) (fp : List Addr), QG (X.blk s H scope (compEnvC scope cl C X.env) fp) R (own.map (·.2)) tg g) (go : GOk (own.map (·.2)) g) (ht : ∀ (s : Shared) (H : Hp) (C : Addr) (cl : List (Str × Addr)) (fp : List Addr), QTs (X.blk s H scope (compEnvC scope cl C X.env) fp) R ifs t)
    (he : ∀ (s : Shared) (H : Hp) (C : Addr) (cl : List (Str × Addr)) (fp : List Addr), QE (X.blk s H scope (compEnvC scope cl C X.env) fp) R elt f) (hs : ∀ x, foldedSetIterable iter X.env x = pure x := by intro _; rfl) :
    QS X R (.Assign [.Name y py] (.ListComp elt [⟨tg, iter, ifs, 0⟩] scope pos) spos) (dSetF i (dLc fi g t f (own.map (·.2)))) :=
  imp_s (ps_setLc hc hN hy hyl hsw hi ok hg ht he hs) fun D σ H h => by
    obtain ⟨hs, Z, H0, F0, ρ, st, F, d, st', w, e, q⟩ := tqs_setF D σ H h
    exact tq_lc go σ H _ ⟨hs, Z, H0, F0, ρ, st, F, d, st', w, e, q⟩
end
end QL
end
section
set_option Elab.async false
set_option linter.all false
set_option maxRecDepth 100000
set_option maxHeartbeats 4000000
/-! QL: calls of defs and of built-ins, defs, draws. -/
namespace QL
open PySem PySem.Spec L2

/-! ### a def's promise -/
def spF (R : RK) (n : Nat) (g : List D → M R.S D) : Sp := fun vs H Q _ => ∃ hs F ds st d st', vs.length = n ∧ RpL hs F vs ds ∧ Same F H ∧ (∀ b, R.fp hs b → F b = none) ∧ R.rep hs st F H ∧ g ds st = some (d, st') ∧
  ∀ v F' H', (∀ b o, H b = some o → ¬ R.fp hs b → H' b = some o) → Same F F' → Same F' H' → (∀ b o, F' b = some o → F b = some o ∨ H b = none) → (∀ b, R.fp hs b → F' b = none) → R.rep hs st' F' H' → Rp hs F' v d → Q v H'
def startE (n : Nat) (ds : List D) : Ev := ds.map .val ++ List.replicate (n - ds.length) .non
/-- a def's value: its body run on its arguments; n parameters, m slots -/
def runF {S : Type} (n m : Nat) (f : Ev → M S Out) (ds : List D) : M S D := if ds.length = n then mb (f (startE m ds)) fun o => match o with
  | .rt d => mr d
  | .nx _ => mr .non
  | _ => fun _ => none
  else fun _ => none
theorem start_W {R : RK} {hs : Hs} {F H : Hp} {st : R.S} {N : List Str} {vs : List V} {ds : List D} (r : RpL hs F vs ds) (sFH : Same F H) (fpF : ∀ b, R.fp hs b → F b = none) (rep : R.rep hs st F H) :
    W R hs (R.fp hs) H F (startE N.length ds) st (start N vs) F H := by
  have hl := r.length
  have get : ∀ (i : Nat) s, (startE N.length ds)[i]? = some s → (∃ d v, s = .val d ∧ (start N vs)[i]? = some (some v) ∧ Rp hs F v d) ∨ s = .non := fun i s e => by
    unfold startE at e
    by_cases hi : i < ds.length
    · rw [List.getElem?_append_left (by simpa using hi), List.getElem?_map] at e
      obtain ⟨d, hd, rfl⟩ := map_some' e
      obtain ⟨v, hv, rv⟩ := r.get hd
      refine .inl ⟨d, v, rfl, ?_, rv⟩
      unfold L2.start
      rw [List.getElem?_append_left (by rw [List.length_map, hl]; exact hi), List.getElem?_map, hv]
      rfl
    · rw [List.getElem?_append_right (by simpa using hi), List.getElem?_replicate] at e
      split at e
      · cases e; exact .inr rfl
      · cases e
  refine ⟨Same.refl _, fun _ _ e _ => e, fun _ e => e, sFH, fun _ _ e => .inl e, fpF, rep, ?_, fun i d e => ?_, fun i d e => ?_, fun i j d e q1 q2 ne a b h1 h2 => ?_, ⟨fun i d e => ?_, fun i j d e q1 q2 => ?_⟩⟩
  · unfold startE L2.start
    rw [List.length_append, List.length_append, List.length_map, List.length_map, List.length_replicate, List.length_replicate, hl]
  · rcases get i _ e with ⟨d', v, z, h1, h2⟩ | z
    · cases z; exact ⟨v, h1, h2⟩
    · cases z
  · rcases get i _ e with ⟨d', v, z, h1, h2⟩ | z
    · cases z
    · cases z
  · rcases get i _ q1 with ⟨d', v, z, _⟩ | z
    · cases z
    · cases z
  · rcases get i _ e with ⟨d', v, z, _⟩ | z
    · cases z
    · cases z
  · rcases get i _ q1 with ⟨d', v, z, _⟩ | z
    · cases z
    · cases z
section
variable {P : Program} {w : World} {K : PySem.W.Frag} {mg : Str → Option Value} {base : Heap}
theorem fn_q {x qual : Str} {st : Stmt} {f : Addr} {fd : FuncData} {N ps : List Str} {k : Nat} (R : RK) {den : Ev → M R.S Out} (F : Fun K x qual st f fd) (S : FnScope N ps (defScope st))
    (hbody : ∀ (cdv : Value) (A : Around) (outer : List Env) (s : Shared) (H : Hp) (E : XK), Room k (A.deeper (PyProof.Rows.envOfC qual (defScope st) s.heap.objs.size f cdv)) →
      QSs (cxOf CX0 P w K mg base N qual (defScope st) f cdv A outer s H E).nox R (defBody st) den) : FnOk P w K mg base CX0 (k + 1) f fd ps (spF R ps.length (runF ps.length N.length den)) := by
  refine F.ok S (fun vs H Q E h => ?_) (fun cdv A outer s H vs Q E hr h => ⟨_, hbody cdv A outer s H E hr, ?_⟩)
  · obtain ⟨hs, F, ds, s0, d, s1, h, _⟩ := h
    exact h
  · obtain ⟨hs, F, ds, s0, d, s1, hl, r, sFH, fpF, rep, e, q⟩ := h
    unfold runF at e
    by_cases c : ds.length = ps.length
    · rw [if_pos c] at e
      obtain ⟨o, s2, e1, e2⟩ := mb_some e
      refine ⟨hs, R.fp hs, H, F, _, s0, F, o, s2, start_W r sFH fpF rep, e1, ?_⟩
      have fin : ∀ {v ρ σ' F' H'}, W R hs (R.fp hs) H F ρ s1 σ' F' H' → Same F F' → Rp hs F' v d → Q v H' := fun {v ρ σ' F' H'} w' m rv =>
        q v F' H' w'.sH m w'.FH (fun b o eb => by
          rcases w'.Fn b o eb with z | z | z
          · exact .inl z
          · exact .inr z
          · rw [w'.Fp b z] at eb; cases eb) w'.Fp w'.rep rv
      cases o with
      | nx ρ =>
        obtain ⟨rfl, rfl⟩ := mr_some e2
        exact fun σ' F' H' w' m => fin w' m .non
      | rt d' =>
        obtain ⟨rfl, rfl⟩ := mr_some e2
        exact fun v ρ σ' F' H' w' m rv => fin w' m rv
      | _ => cases e2
    · rw [if_neg c] at e; cases e
end
/-- behind a call -/
theorem W.call {R : RK} {hs : Hs} {Z : Addr → Prop} {H0 F0 : Hp} {ρ : Ev} {st st' : R.S} {σ : L2.St} {F H F' H' : Hp} (w : W R hs Z H0 F0 ρ st σ F H) (sH : ∀ b o, H b = some o → ¬ R.fp hs b → H' b = some o) (sF : Same F F') (FH : Same F' H')
    (Fn : ∀ b o, F' b = some o → F b = some o ∨ H b = none) (Fp : ∀ b, R.fp hs b → F' b = none) (rep : R.rep hs st' F' H') : W R hs Z H0 F0 ρ st' σ F' H' :=
  ⟨w.sF.trans sF, fun b o e z => sH b o (w.sH b o e z) fun f => z (w.zfp b f), w.zfp, FH, fun b o e => by
      rcases Fn b o e with h | h
      · exact w.Fn b o h
      · exact .inr (w.old h), Fp, rep, w.len, fun i d e => by
      obtain ⟨v, h1, h2⟩ := w.val i d e
      exact ⟨v, h1, h2.mono sF⟩, fun i d e => by
      obtain ⟨a, h1, h2, h3, h4, h5⟩ := w.own i d e
      have hH : H a ≠ none := h5.there
      refine ⟨a, h1, ?_, h3, h4, h5.keep sF ?_⟩
      · cases q : F' a with
        | none => rfl
        | some o =>
          rcases Fn a o q with z | z
          · rw [h2] at z; cases z
          · exact absurd z hH
      · cases q : H a with
        | none => exact absurd q hH
        | some o => exact sH a o q h3, w.dis, w.dps.move (fun i d e => ⟨e, rfl⟩) (fun j e c q1 q2 => .inl ⟨e, q1, q2⟩) sF fun b f1 f2 f3 hb _ _ => by
      refine ⟨?_, ?_, f3⟩
      · cases q : H b with
        | none => exact absurd q hb
        | some o => exact sH b o q f2
      · cases q : F' b with
        | none => rfl
        | some o =>
          rcases Fn b o q with z | z
          · rw [f1] at z; cases z
          · exact absurd z hb⟩
def scal0 (d : D) : Bool := fitD 0 d
theorem scal_rp {hs : Hs} {F F' : Hp} {v : V} {d : D} (h : fitD 0 d = true) (r : Rp hs F v d) : Rp hs F' v d := by
  cases r with
  | non => exact .non
  | bl b => exact .bl b
  | int i => exact .int i
  | str x => exact .str x
  | _ => cases h
theorem RpEL.vw {R : RK} {hs : Hs} {Z : Addr → Prop} {H0 F0 : Hp} {ρ : Ev} {st : R.S} {σ : L2.St} {F H : Hp} (w : W R hs Z H0 F0 ρ st σ F H) : ∀ {vs : List V} {ds : List D}, RpEL hs ρ σ F vs ds → RpL hs H vs (ds.map strip)
  | [], [], _ => .nil
  | _ :: _, _ :: _, ⟨a, b⟩ => .cons (a.vw w) (RpEL.vw w b)
  | [], _ :: _, z => z.elim
  | _ :: _, [], z => z.elim
theorem RpEL.length {hs : Hs} {ρ : Ev} {σ : L2.St} {F : Hp} : ∀ {vs : List V} {ds : List D}, RpEL hs ρ σ F vs ds → vs.length = ds.length
  | [], [], _ => rfl
  | _ :: _, _ :: _, ⟨_, b⟩ => by rw [List.length_cons, List.length_cons, RpEL.length b]
  | [], _ :: _, z => z.elim
  | _ :: _, [], z => z.elim

section
variable {X : Cx} {R : RK} {S : Type} {k : Nat} {f : Addr} {fd : FuncData} {ps : List Str} {x : Str} {p pos : Pos} {e : Expr} {es : List Expr}
/-- a def without region, its value a pure function -/
def pureF (g : List D → M Unit D) (ds : List D) : Option D := match g ds () with
  | some (d, _) => some d
  | none => none
def dCall (n : Nat) (g : List D → Option D) (fa : Ev → M S (List D)) : Ev → M S D := fun ρ => mb (fa ρ) fun ds => ml (if ds.length = n then (match g (ds.map strip) with
  | some d => if ds.all plain = true ∨ scal0 d = true then some d else none
  | none => none) else none)
theorem strip_plain : ∀ {ds : List D}, ds.all plain = true → ds.map strip = ds
  | [], _ => rfl
  | d :: ds, h => by
    rw [List.all_cons, Bool.and_eq_true] at h
    rw [List.map_cons, strip_plain h.2]
    cases d <;> first | rfl | cases h.1
theorem tq_call {n : Nat} {g : List D → M Unit D} {fa : Ev → M R.S (List D)} : ∀ σ H Q, tq R (dCall n (pureF g) fa) σ H Q → tCall (spF R0 n g) [] E0 (tqA R fa) σ H Q := fun σ H Q ⟨hs, Z, H0, F0, ρ, st, F, d, st', w, e, q⟩ => by
  obtain ⟨ds, s1, e1, e2⟩ := mb_some e
  obtain ⟨e3, rfl⟩ := ml_some e2
  by_cases hn : ds.length = n
  · rw [if_pos hn] at e3
    refine ⟨hs, Z, H0, F0, ρ, st, F, ds, _, w, e1, fun vs F1 H1 w1 m1 r1 => ?_⟩
    have hl : (vs ++ ([] : List V)).length = n := by rw [List.append_nil, r1.length]; exact hn
    unfold pureF at e3
    cases c : g (ds.map strip) () with
    | none => rw [c] at e3; cases e3
    | some pr =>
      obtain ⟨d', u⟩ := pr
      rw [c] at e3
      obtain ⟨hc, rfl⟩ := ite_some e3
      by_cases pl : ds.all plain = true
      · rw [strip_plain pl] at c
        refine ⟨hs, F1, ds, (), d', u, hl, by rw [List.append_nil]; exact r1.pl pl, w1.FH, fun _ z => z.elim, trivial, c, fun v F' H' sH sF FH Fn Fp rep rv => ?_⟩
        have w2 := w1.call (st' := st') (fun b o e _ => sH b o e id) sF FH Fn (fun b z => by
          cases q2 : F' b with
          | none => rfl
          | some o =>
            rcases Fn b o q2 with y | y
            · rw [w1.Fp b z] at y; cases y
            · exact absurd y (R.live _ _ _ _ _ w1.rep z)) (R.keep _ _ _ _ _ _ w1.rep sF fun b z => by
          cases q2 : H1 b with
          | none => exact absurd q2 (R.live _ _ _ _ _ w1.rep z)
          | some o => exact sH b o q2 id)
        exact q v F' H' w2 (m1.trans sF) (.inl rv)
      · have sc : fitD 0 d' = true := by
          rcases hc with h | h
          · exact absurd h pl
          · exact h
        refine ⟨hs, H1, ds.map strip, (), d', u, hl, by rw [List.append_nil]; exact r1.vw w1, Same.refl _, fun _ z => z.elim, trivial, c, fun v F' H' sH sF FH Fn Fp rep rv => ?_⟩
        have hh : Same H1 H' := fun b o e => sH b o e id
        have w2 := w1.call (st' := st') (H' := H') (fun b o e _ => sH b o e id) (Same.refl _) (w1.FH.trans hh) (fun b o e => .inl e) w1.Fp (R.keep _ _ _ _ _ _ w1.rep (Same.refl _) fun b z => by
          cases q2 : H1 b with
          | none => exact absurd q2 (R.live _ _ _ _ _ w1.rep z)
          | some o => exact hh b o q2)
        exact q v F1 H' w2 m1 (.inl (scal_rp sc rv))
  · rw [if_neg hn] at e3; cases e3
theorem qe_call {n : Nat} {g : List D → M Unit D} {fa : Ev → M R.S (List D)} (G : FnOk X.prog X.w X.K X.mg X.base CX0 k f fd ps (spF R0 n g)) (hr : Room k X.A) (hg : Gl X x) (hm : X.mg x = some (.ref f)) (hk : PySem.W.keepIn X.K (.ref f) = true) (hb : Binds X.K fd ps [])
    (ha : QA X R (e :: es) fa) (hdb : (x == ("__debug__" : Str)) = false := by decide) (he : starEach (e :: es) X.env = (false, eval e X.env) :: starEach es X.env := by rfl) (hpl : (backTo pos (starEach es X.env)).any (·.1) = false := by rfl) :
    QE X R (.Call (.Name x p) (e :: es) [] pos) (dCall n (pureF g) fa) := imp_e (pe_call G hr hg hm hk hb .nil pass0 ha hdb he hpl) tq_call
/-- a def of the same region -/
def dCallR (n : Nat) (g : List D → M S D) (fa : Ev → M S (List D)) : Ev → M S D := fun ρ => mb (fa ρ) fun ds => if ds.length = n ∧ ds.all plain = true then g ds else fun _ => none
theorem tq_callR {n : Nat} {g : List D → M R.S D} {fa : Ev → M R.S (List D)} : ∀ σ H Q, tq R (dCallR n g fa) σ H Q → tCall (spF R n g) [] E0 (tqA R fa) σ H Q := fun σ H Q ⟨hs, Z, H0, F0, ρ, st, F, d, st', w, e, q⟩ => by
  obtain ⟨ds, s1, e1, e2⟩ := mb_some e
  have e2 : (if ds.length = n ∧ ds.all plain = true then g ds else fun _ => none) s1 = some (d, st') := e2
  by_cases hn : ds.length = n ∧ ds.all plain = true
  · rw [if_pos hn] at e2
    refine ⟨hs, Z, H0, F0, ρ, st, F, ds, s1, w, e1, fun vs F1 H1 w1 m1 r1 => ?_⟩
    refine ⟨hs, F1, ds, s1, d, st', by rw [List.append_nil, r1.length]; exact hn.1, by rw [List.append_nil]; exact r1.pl hn.2, w1.FH, w1.Fp, w1.rep, e2, fun v F' H' sH sF FH Fn Fp rep rv => ?_⟩
    exact q v F' H' (w1.call sH sF FH Fn Fp rep) (m1.trans sF) (.inl rv)
  · rw [if_neg hn] at e2; cases e2
theorem qe_callR {n : Nat} {g : List D → M R.S D} {fa : Ev → M R.S (List D)} (G : FnOk X.prog X.w X.K X.mg X.base CX0 k f fd ps (spF R n g)) (hr : Room k X.A) (hg : Gl X x) (hm : X.mg x = some (.ref f)) (hk : PySem.W.keepIn X.K (.ref f) = true) (hb : Binds X.K fd ps [])
    (ha : QA X R (e :: es) fa) (hdb : (x == ("__debug__" : Str)) = false := by decide) (he : starEach (e :: es) X.env = (false, eval e X.env) :: starEach es X.env := by rfl) (hpl : (backTo pos (starEach es X.env)).any (·.1) = false := by rfl) :
    QE X R (.Call (.Name x p) (e :: es) [] pos) (dCallR n g fa) := imp_e (pe_call G hr hg hm hk hb .nil pass0 ha hdb he hpl) tq_callR

/-! ### built-ins -/
def dB (g : List D → Option D) (fa : Ev → M S (List D)) : Ev → M S D := fun ρ => mb (fa ρ) fun ds => ml (g ds)
def dBN (g : List D → Option (List D)) (fa : Ev → M S (List D)) : Ev → M S (List D) := fun ρ => mb (fa ρ) fun ds => ml (g ds)
def rqC (R : RK) (g : List D → Option D) : List V → Hp → VK → Prop := fun vs H Q => ∃ hs Z H0 F0 ρ st σ F ds z, W R hs Z H0 F0 ρ st σ F H ∧ RpEL hs ρ σ F vs ds ∧ g ds = some z ∧ ∀ v F' H', W R hs Z H0 F0 ρ st σ F' H' → Same F F' → Rp hs F' v z → Q v H'
def rqCN (R : RK) (g : List D → Option (List D)) : List V → Hp → VK → Prop := fun vs H Q => ∃ hs Z H0 F0 ρ st σ F ds zs, W R hs Z H0 F0 ρ st σ F H ∧ RpEL hs ρ σ F vs ds ∧ g ds = some zs ∧
  ∀ p us F' H', W R hs Z H0 F0 ρ st σ F' H' → Same F F' → H' p = none → RpL hs F' us zs → Q (.ref p) (upd H' p (.lst us))
def CQ (R : RK) (r : List V → Hp → VK → Prop) (g : List D → Option D) : Prop := ∀ vs H Q, rqC R g vs H Q → r vs H Q
def CNQ (R : RK) (r : List V → Hp → VK → Prop) (g : List D → Option (List D)) : Prop := ∀ vs H Q, rqCN R g vs H Q → r vs H Q
theorem tq_B {r : List V → Hp → VK → Prop} {g : List D → Option D} {fa : Ev → M R.S (List D)} (h : CQ R r g) : ∀ σ H Q, tq R (dB g fa) σ H Q → tCB r (tqA R fa) σ H Q := fun σ H Q ⟨hs, Z, H0, F0, ρ, st, F, d, st', w, e, q⟩ => by
  obtain ⟨ds, s1, e1, e2⟩ := mb_some e
  obtain ⟨e3, rfl⟩ := ml_some e2
  exact ⟨hs, Z, H0, F0, ρ, st, F, ds, _, w, e1, fun vs F1 H1 w1 m1 r1 => h _ _ _ ⟨hs, Z, H0, F0, ρ, _, σ, F1, ds, d, w1, r1, e3, fun v F' H' w' m' r' => q v F' H' w' (m1.trans m') (.inl r')⟩⟩
theorem tq_BN {r : List V → Hp → VK → Prop} {g : List D → Option (List D)} {fa : Ev → M R.S (List D)} (h : CNQ R r g) : ∀ σ H Q, tqN R (dBN g fa) σ H Q → tCB r (tqA R fa) σ H Q := fun σ H Q ⟨hs, Z, H0, F0, ρ, st, F, d, st', w, e, q⟩ => by
  obtain ⟨ds, s1, e1, e2⟩ := mb_some e
  obtain ⟨e3, rfl⟩ := ml_some e2
  exact ⟨hs, Z, H0, F0, ρ, st, F, ds, _, w, e1, fun vs F1 H1 w1 m1 r1 => h _ _ _ ⟨hs, Z, H0, F0, ρ, _, σ, F1, ds, d, w1, r1, e3, fun p us F' H' w' m' np r' => q p us F' H' w' (m1.trans m') np r'⟩⟩
theorem qe_B {id : String} {r : List V → Hp → VK → Prop} {g : List D → Option D} {fa : Ev → M R.S (List D)} (hc : CallR X (.builtin id) r) (h : CQ R r g) (hg : Gl X x) (hm : X.mg x = none) (hv : bootBuiltins x = some (.builtin id)) (ha : QA X R (e :: es) fa) (hn : x ≠ "__name__" := by decide) (hdb : (x == ("__debug__" : Str)) = false := by decide)
    (he : starEach (e :: es) X.env = (false, eval e X.env) :: starEach es X.env := by rfl) (hpl : (backTo pos (starEach es X.env)).any (·.1) = false := by rfl) : QE X R (.Call (.Name x p) (e :: es) [] pos) (dB g fa) := imp_e (pe_callB hc hg hm hv ha hn hdb he hpl) (tq_B h)
theorem qe_T {id : String} {r : List V → Hp → VK → Prop} {g : List D → Option D} {fa : Ev → M R.S (List D)} (hc : CallR X (.type id) r) (h : CQ R r g) (hg : Gl X x) (hm : X.mg x = none) (hv : bootBuiltins x = some (.type id)) (ha : QA X R (e :: es) fa) (hn : x ≠ "__name__" := by decide) (hdb : (x == ("__debug__" : Str)) = false := by decide)
    (he : starEach (e :: es) X.env = (false, eval e X.env) :: starEach es X.env := by rfl) (hpl : (backTo pos (starEach es X.env)).any (·.1) = false := by rfl) : QE X R (.Call (.Name x p) (e :: es) [] pos) (dB g fa) := imp_e (pe_callTy hc hg hm hv ha hn hdb he hpl) (tq_B h)
theorem qn_B {id : String} {r : List V → Hp → VK → Prop} {g : List D → Option (List D)} {fa : Ev → M R.S (List D)} (hc : CallR X (.builtin id) r) (h : CNQ R r g) (hg : Gl X x) (hm : X.mg x = none) (hv : bootBuiltins x = some (.builtin id)) (ha : QA X R (e :: es) fa) (hn : x ≠ "__name__" := by decide) (hdb : (x == ("__debug__" : Str)) = false := by decide)
    (he : starEach (e :: es) X.env = (false, eval e X.env) :: starEach es X.env := by rfl) (hpl : (backTo pos (starEach es X.env)).any (·.1) = false := by rfl) : QN X R (.Call (.Name x p) (e :: es) [] pos) (dBN g fa) := imp_e (pe_callB hc hg hm hv ha hn hdb he hpl) (tq_BN h)
theorem qn_T {id : String} {r : List V → Hp → VK → Prop} {g : List D → Option (List D)} {fa : Ev → M R.S (List D)} (hc : CallR X (.type id) r) (h : CNQ R r g) (hg : Gl X x) (hm : X.mg x = none) (hv : bootBuiltins x = some (.type id)) (ha : QA X R (e :: es) fa) (hn : x ≠ "__name__" := by decide) (hdb : (x == ("__debug__" : Str)) = false := by decide)
    (he : starEach (e :: es) X.env = (false, eval e X.env) :: starEach es X.env := by rfl) (hpl : (backTo pos (starEach es X.env)).any (·.1) = false := by rfl) : QN X R (.Call (.Name x p) (e :: es) [] pos) (dBN g fa) := imp_e (pe_callTy hc hg hm hv ha hn hdb he hpl) (tq_BN h)
end

section
variable {X : Cx} {R : RK}
def r1 (r : V → Hp → VK → Prop) : List V → Hp → VK → Prop := fun vs H Q => ∃ x, vs = [x] ∧ r x H Q
/-- len -/
def lenD : List D → Option D
  | [d] => match strip d with
    | .lst ds => some (.int (ds.length : Int))
    | .tup ds => some (.int (ds.length : Int))
    | .str x => if x.length ≤ LIM then some (.int (x.length : Int)) else none
    | _ => none
  | _ => none
def rLen (X : Cx) : List V → Hp → VK → Prop := fun xs H Q => (∃ p ys, xs = [.ref p] ∧ (SqL X.K H p ys ∨ SqT X.K H p ys) ∧ Q (.int ys.length) H) ∨ ∃ z, xs = [.str z] ∧ z.length ≤ sizeLine ∧ Q (.int z.length) H
theorem c_len : CallR X (.builtin "len") (rLen X) := call_len_seq.or call_len_str
theorem q_len : CQ R (rLen X) lenD := by
  rintro vs H Q ⟨hs, Z, H0, F0, ρ, st, σ, F, ds, z, w, r, e, q⟩
  match ds, e with
  | [d], e =>
    obtain ⟨v, rfl, rv⟩ := r.one
    have e : (match strip d with
      | .lst ds => some (.int (ds.length : Int))
      | .tup ds => some (.int (ds.length : Int))
      | .str x => if x.length ≤ LIM then some (.int (x.length : Int)) else none
      | _ => none) = some z := e
    cases c : strip d with
    | lst es =>
      rw [c] at e; cases e
      obtain ⟨a, xs, rfl, ea, rl⟩ := rv.lst w c
      exact .inl ⟨a, xs, rfl, .inl (SqL.of ea), q _ F H w (Same.refl _) (by rw [rl.length]; exact .int _)⟩
    | tup es =>
      rw [c] at e; cases e
      obtain ⟨a, xs, rfl, ea, rl⟩ := rv.tup w c
      exact .inl ⟨a, xs, rfl, .inr (SqT.of (w.FH _ _ ea)), q _ F H w (Same.refl _) (by rw [rl.length]; exact .int _)⟩
    | str x =>
      rw [c] at e
      obtain ⟨hx, rfl⟩ := ite_some e
      exact .inr ⟨x, by rw [strip_str w rv c], lim_line hx, q _ F H w (Same.refl _) (.int _)⟩
    | _ => rw [c] at e; cases e
/-- abs, int, max(a, b), min(a, b) -/
def absD : List D → Option D
  | [.int i] => some (.int (if i < 0 then -i else i))
  | _ => none
theorem q_abs : CQ R (fun xs H Q => ∃ i, xs = [.int i] ∧ Q (.int (if i < 0 then -i else i)) H) absD := by
  rintro vs H Q ⟨hs, Z, H0, F0, ρ, st, σ, F, ds, z, w, r, e, q⟩
  match ds, e with
  | [.int i], e => cases e; exact ⟨i, r.int1, q _ F H w (Same.refl _) (.int _)⟩
def intD : List D → Option D
  | [.int i] => some (.int i)
  | [.bl k] => some (.int (if k then 1 else 0))
  | _ => none
theorem q_int1 : CQ R (fun xs H Q => (∃ i, xs = [.int i] ∧ Q (.int i) H) ∨ ∃ k, xs = [.bl k] ∧ Q (.int (if k then 1 else 0)) H) intD := by
  rintro vs H Q ⟨hs, Z, H0, F0, ρ, st, σ, F, ds, z, w, r, e, q⟩
  match ds, e with
  | [.int i], e => cases e; exact .inl ⟨i, r.int1, q _ F H w (Same.refl _) (.int _)⟩
  | [.bl k], e =>
    cases e
    obtain ⟨v, rfl, rv⟩ := r.one
    exact .inr ⟨k, by rw [rv.bl], q _ F H w (Same.refl _) (.int _)⟩
def max2D : List D → Option D
  | [.int i, .int j] => some (.int (if j > i then j else i))
  | _ => none
def min2D : List D → Option D
  | [.int i, .int j] => some (.int (if j < i then j else i))
  | _ => none
theorem q_max2 : CQ R (fun xs H Q => ∃ i j, xs = [.int i, .int j] ∧ Q (.int (if j > i then j else i)) H) max2D := by
  rintro vs H Q ⟨hs, Z, H0, F0, ρ, st, σ, F, ds, z, w, r, e, q⟩
  match ds, e with
  | [.int i, .int j], e => cases e; exact ⟨i, j, r.int2, q _ F H w (Same.refl _) (.int _)⟩
theorem q_min2 : CQ R (fun xs H Q => ∃ i j, xs = [.int i, .int j] ∧ Q (.int (if j < i then j else i)) H) min2D := by
  rintro vs H Q ⟨hs, Z, H0, F0, ρ, st, σ, F, ds, z, w, r, e, q⟩
  match ds, e with
  | [.int i, .int j], e => cases e; exact ⟨i, j, r.int2, q _ F H w (Same.refl _) (.int _)⟩
/-! lists of ints, of bools -/
def asInts : List D → Option (List Int)
  | [] => some []
  | .int i :: ds => (asInts ds).map (i :: ·)
  | _ => none
def asBls : List D → Option (List Bool)
  | [] => some []
  | .bl i :: ds => (asBls ds).map (i :: ·)
  | _ => none
theorem asInts_eq : ∀ {ds : List D} {ns : List Int}, asInts ds = some ns → ds = ns.map .int
  | [], ns, h => by cases h; rfl
  | d :: ds, ns, h => by
    cases d with
    | int i =>
      obtain ⟨ms, h1, rfl⟩ := map_some' (show (asInts ds).map (i :: ·) = some ns from h)
      rw [asInts_eq h1]; rfl
    | _ => cases h
theorem asBls_eq : ∀ {ds : List D} {ns : List Bool}, asBls ds = some ns → ds = ns.map .bl
  | [], ns, h => by cases h; rfl
  | d :: ds, ns, h => by
    cases d with
    | bl i =>
      obtain ⟨ms, h1, rfl⟩ := map_some' (show (asBls ds).map (i :: ·) = some ns from h)
      rw [asBls_eq h1]; rfl
    | _ => cases h
@[simp] theorem asInts_map (ns : List Int) : asInts (ns.map .int) = some ns := by
  induction ns with
  | nil => rfl
  | cons n ns ih => show (asInts (ns.map .int)).map (n :: ·) = _; rw [ih]; rfl
@[simp] theorem asBls_map (ns : List Bool) : asBls (ns.map .bl) = some ns := by
  induction ns with
  | nil => rfl
  | cons n ns ih => show (asBls (ns.map .bl)).map (n :: ·) = _; rw [ih]; rfl
theorem rpl_ints {hs : Hs} {F : Hp} : ∀ {ns : List Int} {vs : List V}, RpL hs F vs (ns.map .int) → vs = ns.map V.int
  | [], _, r => by cases r; rfl
  | n :: ns, _, r => by
    obtain ⟨v, vs, rfl, a, b⟩ := r.consD
    cases a
    rw [rpl_ints b]; rfl
theorem rpl_bls {hs : Hs} {F : Hp} : ∀ {ns : List Bool} {vs : List V}, RpL hs F vs (ns.map .bl) → vs = ns.map V.bl
  | [], _, r => by cases r; rfl
  | n :: ns, _, r => by
    obtain ⟨v, vs, rfl, a, b⟩ := r.consD
    cases a
    rw [rpl_bls b]; rfl
theorem of_ints {hs : Hs} {F : Hp} : ∀ (ns : List Int), RpL hs F (ns.map V.int) (ns.map .int)
  | [] => .nil
  | n :: ns => .cons (.int n) (of_ints ns)
def lst1 (g : List D → Option D) : List D → Option D
  | [d] => match strip d with
    | .lst ds => g ds
    | _ => none
  | _ => none
theorem lst1_some {g : List D → Option D} {ds : List D} {z : D} (h : lst1 g ds = some z) : ∃ d es, ds = [d] ∧ strip d = .lst es ∧ g es = some z := by
  match ds, h with
  | [d], h =>
    have h : (match strip d with
      | .lst ds => g ds
      | _ => none) = some z := h
    cases c : strip d with
    | lst es => rw [c] at h; exact ⟨d, es, rfl, c, h⟩
    | _ => rw [c] at h; cases h
def sumD : List D → Option D := lst1 fun es => (asInts es).map fun ns => .int ns.sum
def anyD : List D → Option D := lst1 fun es => (asBls es).map fun ns => .bl (ns.any id)
def allD : List D → Option D := lst1 fun es => (asBls es).map fun ns => .bl (ns.all id)
def leastI : List Int → Int → Int
  | [], m => m
  | n :: ns, m => leastI ns (if n < m then n else m)
def mostI : List Int → Int → Int
  | [], m => m
  | n :: ns, m => mostI ns (if m < n then n else m)
theorem leastI_spec : ∀ (ns : List Int) (m : Int), leastI ns m ∈ m :: ns ∧ leastI ns m ≤ m ∧ ∀ y ∈ ns, leastI ns m ≤ y
  | [], m => ⟨List.mem_cons_self, Int.le_refl _, fun _ h => by cases h⟩
  | n :: ns, m => by
    obtain ⟨h1, h2, h3⟩ := leastI_spec ns (if n < m then n else m)
    show leastI ns (if n < m then n else m) ∈ m :: n :: ns ∧ _
    by_cases c : n < m
    · rw [if_pos c] at h1 h2 h3 ⊢
      refine ⟨List.mem_cons_of_mem _ h1, by show leastI ns (if n < m then n else m) ≤ m; rw [if_pos c]; omega, fun y hy => ?_⟩
      show leastI ns (if n < m then n else m) ≤ y
      rw [if_pos c]
      rcases List.mem_cons.mp hy with rfl | hy
      · exact h2
      · exact h3 y hy
    · rw [if_neg c] at h1 h2 h3 ⊢
      refine ⟨?_, by show leastI ns (if n < m then n else m) ≤ m; rw [if_neg c]; omega, fun y hy => ?_⟩
      · rcases List.mem_cons.mp h1 with e | e
        · rw [e]; exact List.mem_cons_self
        · exact List.mem_cons_of_mem _ (List.mem_cons_of_mem _ e)
      show leastI ns (if n < m then n else m) ≤ y
      rw [if_neg c]
      rcases List.mem_cons.mp hy with rfl | hy
      · omega
      · exact h3 y hy
theorem mostI_spec : ∀ (ns : List Int) (m : Int), mostI ns m ∈ m :: ns ∧ m ≤ mostI ns m ∧ ∀ y ∈ ns, y ≤ mostI ns m
  | [], m => ⟨List.mem_cons_self, Int.le_refl _, fun _ h => by cases h⟩
  | n :: ns, m => by
    obtain ⟨h1, h2, h3⟩ := mostI_spec ns (if m < n then n else m)
    show mostI ns (if m < n then n else m) ∈ m :: n :: ns ∧ _
    by_cases c : m < n
    · rw [if_pos c] at h1 h2 h3 ⊢
      refine ⟨List.mem_cons_of_mem _ h1, by show m ≤ mostI ns (if m < n then n else m); rw [if_pos c]; omega, fun y hy => ?_⟩
      show y ≤ mostI ns (if m < n then n else m)
      rw [if_pos c]
      rcases List.mem_cons.mp hy with rfl | hy
      · exact h2
      · exact h3 y hy
    · rw [if_neg c] at h1 h2 h3 ⊢
      refine ⟨?_, by show m ≤ mostI ns (if m < n then n else m); rw [if_neg c]; omega, fun y hy => ?_⟩
      · rcases List.mem_cons.mp h1 with e | e
        · rw [e]; exact List.mem_cons_self
        · exact List.mem_cons_of_mem _ (List.mem_cons_of_mem _ e)
      show y ≤ mostI ns (if m < n then n else m)
      rw [if_neg c]
      rcases List.mem_cons.mp hy with rfl | hy
      · omega
      · exact h3 y hy
def minD : List D → Option D := lst1 fun es => match asInts es with
  | some (n :: ns) => some (.int (leastI ns n))
  | _ => none
def maxD : List D → Option D := lst1 fun es => match asInts es with
  | some (n :: ns) => some (.int (mostI ns n))
  | _ => none
theorem q_sum : CQ R (rSum X.K) sumD := by
  rintro vs H Q ⟨hs, Z, H0, F0, ρ, st, σ, F, ds, z, w, r, e, q⟩
  obtain ⟨d, es, rfl, c, e⟩ := lst1_some e
  obtain ⟨v, rfl, rv⟩ := r.one
  obtain ⟨a, xs, rfl, ea, rl⟩ := rv.lst w c
  obtain ⟨ns, e1, rfl⟩ := map_some' e
  rw [asInts_eq e1] at rl
  rw [rpl_ints rl] at ea
  exact ⟨a, ns, rfl, SqL.of ea, q _ F H w (Same.refl _) (.int _)⟩
theorem q_any : CQ R (rAny X.K) anyD := by
  rintro vs H Q ⟨hs, Z, H0, F0, ρ, st, σ, F, ds, z, w, r, e, q⟩
  obtain ⟨d, es, rfl, c, e⟩ := lst1_some e
  obtain ⟨v, rfl, rv⟩ := r.one
  obtain ⟨a, xs, rfl, ea, rl⟩ := rv.lst w c
  obtain ⟨ns, e1, rfl⟩ := map_some' e
  rw [asBls_eq e1] at rl
  rw [rpl_bls rl] at ea
  exact ⟨a, ns, rfl, SqL.of ea, q _ F H w (Same.refl _) (.bl _)⟩
theorem q_all : CQ R (rAll X.K) allD := by
  rintro vs H Q ⟨hs, Z, H0, F0, ρ, st, σ, F, ds, z, w, r, e, q⟩
  obtain ⟨d, es, rfl, c, e⟩ := lst1_some e
  obtain ⟨v, rfl, rv⟩ := r.one
  obtain ⟨a, xs, rfl, ea, rl⟩ := rv.lst w c
  obtain ⟨ns, e1, rfl⟩ := map_some' e
  rw [asBls_eq e1] at rl
  rw [rpl_bls rl] at ea
  exact ⟨a, ns, rfl, SqL.of ea, q _ F H w (Same.refl _) (.bl _)⟩
theorem least_eq {n : Int} {ns : List Int} {m : Int} (h1 : m ∈ n :: ns) (h2 : ∀ y ∈ n :: ns, m ≤ y) : m = leastI ns n := by
  obtain ⟨k1, k2, k3⟩ := leastI_spec ns n
  have a := h2 _ k1
  have b : leastI ns n ≤ m := by
    rcases List.mem_cons.mp h1 with e | e
    · rw [e]; exact k2
    · exact k3 m e
  omega
theorem most_eq {n : Int} {ns : List Int} {m : Int} (h1 : m ∈ n :: ns) (h2 : ∀ y ∈ n :: ns, y ≤ m) : m = mostI ns n := by
  obtain ⟨k1, k2, k3⟩ := mostI_spec ns n
  have a := h2 _ k1
  have b : m ≤ mostI ns n := by
    rcases List.mem_cons.mp h1 with e | e
    · rw [e]; exact k2
    · exact k3 m e
  omega
theorem q_minL : CQ R (rMin X.K) minD := by
  rintro vs H Q ⟨hs, Z, H0, F0, ρ, st, σ, F, ds, z, w, r, e, q⟩
  obtain ⟨d, es, rfl, c, e⟩ := lst1_some e
  obtain ⟨v, rfl, rv⟩ := r.one
  obtain ⟨a, xs, rfl, ea, rl⟩ := rv.lst w c
  cases e1 : asInts es with
  | none => simp only [e1] at e; cases e
  | some ms =>
    cases ms with
    | nil => simp only [e1] at e; cases e
    | cons n ns =>
      simp only [e1] at e; cases e
      rw [asInts_eq e1] at rl
      rw [rpl_ints rl] at ea
      exact ⟨a, n :: ns, rfl, SqL.of ea, Nat.succ_pos _, fun m hm hy => by rw [least_eq hm hy]; exact q _ F H w (Same.refl _) (.int _)⟩
theorem q_maxL : CQ R (rMax X.K) maxD := by
  rintro vs H Q ⟨hs, Z, H0, F0, ρ, st, σ, F, ds, z, w, r, e, q⟩
  obtain ⟨d, es, rfl, c, e⟩ := lst1_some e
  obtain ⟨v, rfl, rv⟩ := r.one
  obtain ⟨a, xs, rfl, ea, rl⟩ := rv.lst w c
  cases e1 : asInts es with
  | none => simp only [e1] at e; cases e
  | some ms =>
    cases ms with
    | nil => simp only [e1] at e; cases e
    | cons n ns =>
      simp only [e1] at e; cases e
      rw [asInts_eq e1] at rl
      rw [rpl_ints rl] at ea
      exact ⟨a, n :: ns, rfl, SqL.of ea, Nat.succ_pos _, fun m hm hy => by rw [most_eq hm hy]; exact q _ F H w (Same.refl _) (.int _)⟩
/-! list(x), tuple(x) -/
def listD : List D → Option (List D)
  | [d] => match strip d with
    | .lst ds => some ds
    | .tup ds => some ds
    | _ => none
  | _ => none
theorem q_list : CNQ R (fun xs H Q => ∃ p ys, xs = [.ref p] ∧ (SqL X.K H p ys ∨ SqT X.K H p ys) ∧ ∀ l, H l = none → Q (.ref l) (upd H l (.lst ys))) listD := by
  rintro vs H Q ⟨hs, Z, H0, F0, ρ, st, σ, F, ds, zs, w, r, e, q⟩
  match ds, e with
  | [d], e =>
    obtain ⟨v, rfl, rv⟩ := r.one
    have e : (match strip d with
      | .lst ds => some ds
      | .tup ds => some ds
      | _ => none) = some zs := e
    cases c : strip d with
    | lst es =>
      rw [c] at e; cases e
      obtain ⟨a, xs, rfl, ea, rl⟩ := rv.lst w c
      exact ⟨a, xs, rfl, .inl (SqL.of ea), fun l nl => q l xs F H w (Same.refl _) nl rl⟩
    | tup es =>
      rw [c] at e; cases e
      obtain ⟨a, xs, rfl, ea, rl⟩ := rv.tup w c
      exact ⟨a, xs, rfl, .inr (SqT.of (w.FH _ _ ea)), fun l nl => q l xs F H w (Same.refl _) nl rl⟩
    | _ => rw [c] at e; cases e
/-! slices of lists -/
def dSl (f : Ev → M S D) (lo hi : Ev → M S (Option Int)) : Ev → M S (List D) := fun ρ => mb (f ρ) fun d => mb (lo ρ) fun l => mb (hi ρ) fun h => ml (match strip d with
  | .lst ds => some ((ds.drop (HT.sIx ds.length 0 l)).take (HT.sIx ds.length ds.length h - HT.sIx ds.length 0 l))
  | _ => none)
def tqO (R : RK) (f : Ev → M R.S (Option Int)) : TO := fun σ H Q => ∃ hs Z H0 F0 ρ st F d st', W R hs Z H0 F0 ρ st σ F H ∧ f ρ st = some (d, st') ∧ ∀ F' H', W R hs Z H0 F0 ρ st' σ F' H' → Same F F' → Q d H'
abbrev QO (X : Cx) (R : RK) (e : Option Expr) (f : Ev → M R.S (Option Int)) : Prop := PO X e (tqO R f)
theorem imp_o {e : Option Expr} {t t' : TO} (h : PO X e t) (w : ∀ σ H Q, t' σ H Q → t σ H Q) : PO X e t' := ⟨fun pins s σ H Q I q => h.run pins s σ H Q I (w _ _ _ q)⟩
def dNoP : Ev → M S (Option Int) := fun _ => mr none
def dPrt (f : Ev → M S D) : Ev → M S (Option Int) := fun ρ => mb (f ρ) fun d => ml (match d with
  | .int i => some (some i)
  | _ => none)
theorem qo_none : QO X R none dNoP := imp_o po_none fun σ H Q ⟨hs, Z, H0, F0, ρ, st, F, d, st', w, e, q⟩ => by
  obtain ⟨rfl, rfl⟩ := mr_some e
  exact q F H w (Same.refl _)
theorem qo_some {e : Expr} {f : Ev → M R.S D} (he : QE X R e f) : QO X R (some e) (dPrt f) := imp_o (po_some he) fun σ H Q ⟨hs, Z, H0, F0, ρ, st, F, d, st', w, e, q⟩ => by
  obtain ⟨d1, s1, e1, e2⟩ := mb_some e
  obtain ⟨e3, rfl⟩ := ml_some e2
  refine ⟨hs, Z, H0, F0, ρ, st, F, d1, _, w, e1, fun v F1 H1 w1 m1 r1 => ?_⟩
  cases d1 with
  | int i => cases e3; exact ⟨i, r1.int, q F1 H1 w1 m1⟩
  | _ => cases e3
theorem qn_sl {e : Expr} {lo hi : Option Expr} {p2 pos : Pos} {f : Ev → M R.S D} {fl fh : Ev → M R.S (Option Int)} (he : QE X R e f) (hl : QO X R lo fl) (hh : QO X R hi fh) : QN X R (.Subscript e (.Slice lo hi none p2) pos) (dSl f fl fh) :=
  imp_e (pe_slice sl_list he hl hh) fun σ H Q ⟨hs, Z, H0, F0, ρ, st, F, out, st', w, e, q⟩ => by
    obtain ⟨d, s1, e1, e2⟩ := mb_some e
    obtain ⟨l, s2, e3, e4⟩ := mb_some e2
    obtain ⟨h, s3, e5, e6⟩ := mb_some e4
    obtain ⟨e7, rfl⟩ := ml_some e6
    refine ⟨hs, Z, H0, F0, ρ, st, F, d, s1, w, e1, fun v F1 H1 w1 m1 r1 => ⟨hs, Z, H0, F0, ρ, s1, F1, l, s2, w1, e3, fun F2 H2 w2 m2 => ⟨hs, Z, H0, F0, ρ, s2, F2, h, _, w2, e5, fun F3 H3 w3 m3 => ?_⟩⟩⟩
    cases c : strip d with
    | lst es =>
      rw [c] at e7; cases e7
      obtain ⟨a, xs, rfl, ea, rl⟩ := (r1.mono (m2.trans m3)).lst w3 c
      refine ⟨a, xs, rfl, SqL.of ea, fun p np => q p _ F3 H3 w3 ((m1.trans m2).trans m3) np ?_⟩
      unfold cutV
      rw [rl.length]
      exact (rl.drop _).take _
    | _ => rw [c] at e7; cases e7
end
end QL
end
section
set_option Elab.async false
set_option linter.all false
set_option maxRecDepth 100000
set_option maxHeartbeats 4000000
/-! QL: extend; the draws of a law, the law's own def. -/
namespace QL
open PySem PySem.Spec L2

section
variable {X : Cx} {R : RK} {S : Type}
/-- x.extend(e), x owned -/
def dExt (i : Nat) (f : Ev → M S D) : Ev → M S Out := fun ρ => mb (f ρ) fun d => ml (match d with
  | .lst es => (upO i (fun ds => if ds.length + es.length ≤ LIM then some (ds ++ es) else none) ρ).map .nx
  | _ => none)
theorem qs_ext {i : Nat} {x e : Expr} {apos mpos pos : Pos} {f : Ev → M R.S D} (hx : PE X x (tVar i)) (he : QE X R e f)
    (h : ∀ {t : TA}, PA X [e] t → PE X (.Call (.Attribute x "extend" apos) [e] [] mpos) (tBM X.K "list" rExtend (tVar i) t)) (hsw : swapsWith (.Call (.Attribute x "extend" apos) [e] [] mpos) none pos.line X.env = pure false := by rfl)
    (hst : starEach [e] X.env = (false, eval e X.env) :: starEach [] X.env := by rfl) :
    QS X R (.Expr (.Call (.Attribute x "extend" apos) [e] [] mpos) pos) (dExt i f) :=
  imp_s (ps_expr (h (pa_cons he pa_nil hst)) hsw) fun D σ H ⟨hs, Z, H0, F0, ρ, st, F, o, st', w, e, q⟩ => by
    obtain ⟨d, s1, e1, e2⟩ := mb_some e
    obtain ⟨e3, rfl⟩ := ml_some e2
    cases d with
    | lst es =>
      obtain ⟨ρ', e4, rfl⟩ := map_some' e3
      obtain ⟨ds, es', e5, e6, rfl⟩ := upO_some e4
      obtain ⟨c, rfl⟩ := ite_some e6
      obtain ⟨a, h1, h2, h3, h4, xs, h5, h6⟩ := w.own i _ e5
      refine ⟨_, h1, .inl ⟨rfl, xs, .inl (.inl h5)⟩, hs, Z, H0, F0, ρ, st, F, _, _, w, e1, fun v F1 H1 w1 m1 r1 => ?_⟩
      obtain ⟨a', g1, g2, g3, g4, ys, g5, g6⟩ := w1.own i _ e5
      rw [h1] at g1; cases g1
      obtain ⟨b, zs, rfl, eb, rz⟩ := (r1.pl rfl).lstD
      refine ⟨a, b, ys, zs, rfl, rfl, g5, w1.FH _ _ eb, by rw [g6.length, rz.length]; exact lim_line c, ?_⟩
      exact q σ F1 _ (w1.mut e5 h1 (g6.append rz)) m1
    | _ => cases e3
end

theorem hu65 {k : Nat} {A : Around} (r : Room k A) : A.units + 65 < cLine := by have := r.un; omega
/-! over a list or a tuple -/
section
variable {X : Cx} {R : RK} {S : Type}
def seqO : D → Option (List D)
  | .lst ds => some ds
  | .tup ds => some ds
  | _ => none
def dIS (f : Ev → M S D) : Ev → M S (List D) := fun ρ => mb (f ρ) fun d => ml (seqO d)
def iSeq (K : PySem.W.Frag) (tl : TE) : TI := fun σ H G => tl σ H fun x H1 => (∃ a, x = .ref a ∧ (∃ xs, SqL K H1 a xs) ∧ G (Itl K a) H1) ∨ (∃ a, x = .ref a ∧ (∃ xs, SqT K H1 a xs) ∧ G (Itt K a) H1)
theorem pi_seq {tg l : Expr} {tl : TE} (hl : PE X l tl) : PI X tg l (iSeq X.K tl) := by
  refine ⟨fun pins s σ H G I h => ?_⟩
  refine thn (hl.run pins s σ H _ I h) fun v s1 ⟨x, H1, I1, rx, qx⟩ => ?_
  rcases qx with ⟨a, e, ⟨xs, hq⟩, q⟩ | ⟨a, e, ⟨xs, hq⟩, q⟩
  · subst e
    cases rx
    obtain ⟨its, rv, p, hz⟩ := I1.list hq
    refine wpAny_pyIter_list p.isList ?_
    refine ⟨s1.heap.objs.size, [s1.heap.objs.size], _, _, H1, rfl, I1.kept (t' := s1.toks) fun b o e => Heap.get?_push_of_some _ e, turn_list a _, ⟨_, Heap.get?_push_size _ rfl, rfl, rfl⟩, fun b hb => ?_, q⟩
    have eb : b = s1.heap.objs.size := by simpa using hb
    subst eb
    exact I1.fpOk (Nat.le_refl _) (I1.hok.fresh (Nat.le_refl _))
  · subst e
    cases rx
    obtain ⟨its, rv, p, hz⟩ := I1.tuple hq
    refine wpAny_pyIter_tuple (show s1.heap.IsTuple a its.toArray from p) ?_
    refine ⟨s1.heap.objs.size, [s1.heap.objs.size], _, _, H1, rfl, I1.kept (t' := s1.toks) fun b o e => Heap.get?_push_of_some _ e, turn_tuple a _, ⟨_, Heap.get?_push_size _ rfl, rfl, rfl⟩, fun b hb => ?_, q⟩
    have eb : b = s1.heap.objs.size := by simpa using hb
    subst eb
    exact I1.fpOk (Nat.le_refl _) (I1.hok.fresh (Nat.le_refl _))
theorem qi_seq {tg l : Expr} {f : Ev → M R.S D} (hl : QE X R l f) : QI X R tg l (dIS f) := imp_i (pi_seq hl) fun σ H G ⟨hs, Z, H0, F0, ρ, st, F, ds, st', w, e, q⟩ => by
  obtain ⟨d, s1, e1, e2⟩ := mb_some e
  obtain ⟨e3, rfl⟩ := ml_some e2
  refine ⟨hs, Z, H0, F0, ρ, st, F, d, _, w, e1, fun v F1 H1 w1 m1 r1 => ?_⟩
  cases d with
  | lst es =>
    cases e3
    obtain ⟨a, xs, rfl, ea, rl⟩ := (r1.pl rfl).lstD
    refine .inl ⟨a, rfl, ⟨xs, SqL.of (w1.FH _ _ ea)⟩, q _ F1 H1 w1 m1 fun Z' H0' F0' i ρ2 st2 σ2 F2 H2 w2 m2 => ?_⟩
    have eH : H2 a = some (.lst xs) := w2.FH _ _ (m2 _ _ ea)
    refine ⟨fun hi => ⟨xs, SqL.of eH, by rw [rl.length]; exact hi⟩, fun d hd => ?_⟩
    obtain ⟨v, hv, rv⟩ := rl.get hd
    refine ⟨⟨xs, v, SqL.of eH, hv⟩, fun x H3 hy => ?_⟩
    obtain ⟨rfl, hx⟩ := hy
    have := hx xs (SqL.of eH)
    rw [hv] at this; cases this
    exact ⟨F2, w2, Same.refl _, rv.mono m2, fun _ _ e => e⟩
  | tup es =>
    cases e3
    obtain ⟨a, xs, rfl, ea, rl⟩ := (r1.pl rfl).tupD
    refine .inr ⟨a, rfl, ⟨xs, SqT.of (w1.FH _ _ ea)⟩, q _ F1 H1 w1 m1 fun Z' H0' F0' i ρ2 st2 σ2 F2 H2 w2 m2 => ?_⟩
    have eH : H2 a = some (.tup xs) := w2.FH _ _ (m2 _ _ ea)
    refine ⟨fun hi => ⟨xs, SqT.of eH, by rw [rl.length]; exact hi⟩, fun d hd => ?_⟩
    obtain ⟨v, hv, rv⟩ := rl.get hd
    refine ⟨⟨xs, v, SqT.of eH, hv⟩, fun x H3 hy => ?_⟩
    obtain ⟨rfl, hx⟩ := hy
    have := hx xs (SqT.of eH)
    rw [hv] at this; cases this
    exact ⟨F2, w2, Same.refl _, rv.mono m2, fun _ _ e => e⟩
  | _ => cases e3
end

/-! ### draws -/
abbrev DS : Type := Int × List Int
def DK : RK where
  S := DS
  fp := fun hs b => hs 0 = some b ∨ hs 1 = some b
  rep := fun hs st _ H => ∃ a c, hs 0 = some a ∧ hs 1 = some c ∧ a ≠ c ∧ H a = some (.lst [.int st.1, .ref c]) ∧ H c = some (.lst (st.2.map V.int))
  live := by
    rintro hs st F H b ⟨a, c, h1, h2, h3, h4, h5⟩ (h | h)
    · rw [h1] at h; cases h; rw [h4]; simp
    · rw [h2] at h; cases h; rw [h5]; simp
  keep := by
    rintro hs st F F' H H' ⟨a, c, h1, h2, h3, h4, h5⟩ _ k
    exact ⟨a, c, h1, h2, h3, (k a (.inl h1)).trans h4, (k c (.inr h2)).trans h5⟩
/-- what a draw below m takes, and what is left -/
def takeI (m : Int) (st : DS) : Option (Int × DS) :=
  if 0 < m ∧ m < 1073741824 ∧ st.2 ≠ [] then
    let at_ := st.1 % (st.2.length : Int)
    let cell := st.2.getD at_.toNat 0
    if 1000000000000000000 ≤ cell then some (cell % m, (st.1, st.2.set at_.toNat (cell / m)))
    else some (((cell * 48271 + (st.1 + 1) * 69621) % 2147483647 * 16807 + (st.1 + 1) * 7919) % 1000000007 / 7 % m, (st.1 + 1, st.2))
  else none
def takeM : List D → M DS D
  | [.hd 0, .int m] => fun st => match takeI m st with
    | some (r, st') => some (.int r, st')
    | none => none
  | _ => fun _ => none
/-- a draw gives any number below m, and draws can go on -/
theorem takeI_ok {m : Int} {st : DS} (h1 : 0 < m) (h2 : m < 1073741824) (h3 : st.2 ≠ []) : ∃ r st', takeI m st = some (r, st') ∧ 0 ≤ r ∧ r < m ∧ st'.2 ≠ [] := by
  unfold takeI
  rw [if_pos ⟨h1, h2, h3⟩]
  dsimp only
  split
  · refine ⟨_, _, rfl, Int.emod_nonneg _ (by omega), Int.emod_lt_of_pos _ h1, ?_⟩
    intro z
    have := congrArg List.length z
    rw [List.length_set] at this
    exact h3 (List.length_eq_zero_iff.mp this)
  · exact ⟨_, _, rfl, Int.emod_nonneg _ (by omega), Int.emod_lt_of_pos _ h1, h3⟩
theorem fmod_pos (i : Int) {j : Int} (h : 0 < j) : i.fmod j = i % j := Int.fmod_eq_emod_of_nonneg i (Int.le_of_lt h)

/-! what _law_state makes of the script -/
def spState (K : PySem.W.Frag) : Sp := fun vs H Q _ => ∃ (a : Addr) (ns : List Int), vs = [.ref a] ∧ SqL K H a (ns.map V.int) ∧ ns.length ≤ 63 ∧
  ∀ (p c : Addr) (cells : List Int) H', Same H H' → H p = none → H c = none → p ≠ c → H' p = some (.lst [.int 0, .ref c]) → H' c = some (.lst (cells.map V.int)) → cells ≠ [] → Q (.ref p) H'
def spLaw (K : PySem.W.Frag) : Sp := fun vs H Q _ => ∃ (a : Addr) (ns : List Int), vs = [.ref a] ∧ SqL K H a (ns.map V.int) ∧ ns.length ≤ 63 ∧ ∀ H', Q (.bl true) H'
/-- the slots behind the law's first row: the script's is not read again, the second holds the draws -/
def lawE (n : Nat) : Ev := .non :: .val (.hd 0) :: List.replicate (n - 2) .non
section
variable {P : Program} {w : World} {K : PySem.W.Frag} {mg : Str → Option Value} {base : Heap}
theorem law_W {N : List Str} (hN : 2 ≤ N.length) {p c a : Addr} {cells : List Int} {H' : Hp} (hpc : p ≠ c) (hp : H' p = some (.lst [.int 0, .ref c])) (hc : H' c = some (.lst (cells.map V.int))) :
    W DK (fun n => if n = 0 then some p else if n = 1 then some c else none) (DK.fp fun n => if n = 0 then some p else if n = 1 then some c else none) H' (fun _ => none) (lawE N.length) ((0, cells) : DS) ((L2.start N [.ref a]).set 1 (some (.ref p))) (fun _ => none) H' := by
  obtain ⟨n, hn⟩ : ∃ n, N.length = n + 2 := ⟨N.length - 2, by omega⟩
  have eσ : (L2.start N [.ref a]).set 1 (some (.ref p)) = some (.ref a) :: some (.ref p) :: List.replicate n none := by
    unfold L2.start
    rw [hn]
    show (some (V.ref a) :: List.replicate (n + 1) none).set 1 (some (.ref p)) = _
    rfl
  have eρ : lawE N.length = .non :: .val (.hd 0) :: List.replicate n .non := by
    unfold lawE
    rw [hn]
    rfl
  rw [eσ, eρ]
  have get : ∀ (i : Nat) s, (Slot.non :: Slot.val (D.hd 0) :: List.replicate n Slot.non)[i]? = some s → (i = 1 ∧ s = .val (.hd 0)) ∨ s = .non := fun i s e => by
    match i, e with
    | 0, e => cases e; exact .inr rfl
    | 1, e => cases e; exact .inl ⟨rfl, rfl⟩
    | i + 2, e =>
      have e : (List.replicate n Slot.non)[i]? = some s := e
      rw [List.getElem?_replicate] at e
      split at e
      · cases e; exact .inr rfl
      · cases e
  refine ⟨Same.refl _, fun _ _ e _ => e, fun _ e => e, (fun _ _ e => by cases e), (fun _ _ e => by cases e), fun _ _ => rfl, ⟨p, c, rfl, rfl, hpc, hp, hc⟩, by simp, fun i d e => ?_, fun i d e => ?_, fun i j d e q1 q2 ne a b h1 h2 => ?_, .of_no fun i d e => by rcases get i _ e with ⟨rfl, z⟩ | z <;> cases z⟩
  · rcases get i _ e with ⟨rfl, z⟩ | z
    · cases z; exact ⟨.ref p, rfl, .hd rfl⟩
    · cases z
  · rcases get i _ e with ⟨rfl, z⟩ | z
    · cases z
    · cases z
  · rcases get i _ q1 with ⟨rfl, z⟩ | z
    · cases z
    · cases z
theorem law_q {x qual : Str} {st : Stmt} {f : Addr} {fd : FuncData} {N : List Str} {k : Nat} {s0 : Stmt} {rest : List Stmt} {den : Ev → M DS Out} (F : Fun K x qual st f fd) (S : FnScope N ["script"] (defScope st)) (hN : 2 ≤ N.length) (hb : defBody st = s0 :: rest)
    (h0 : ∀ (cdv : Value) (A : Around) (outer : List Env) (s : Shared) (H : Hp) (E : XK), Room k (A.deeper (PyProof.Rows.envOfC qual (defScope st) s.heap.objs.size f cdv)) →
      PS (cxOf CX0 P w K mg base N qual (defScope st) f cdv A outer s H E).nox s0 (tAsg (tCall (spState K) [] E0 (tCons (tVar 0) tNil)) (gName 1)))
    (hrest : ∀ (cdv : Value) (A : Around) (outer : List Env) (s : Shared) (H : Hp) (E : XK), Room k (A.deeper (PyProof.Rows.envOfC qual (defScope st) s.heap.objs.size f cdv)) →
      QSs (cxOf CX0 P w K mg base N qual (defScope st) f cdv A outer s H E).nox DK rest den)
    (ok : ∀ cells : List Int, cells ≠ [] → ∃ st', den (lawE N.length) (0, cells) = some (.rt (.bl true), st')) : FnOk P w K mg base CX0 (k + 1) f fd ["script"] (spLaw K) := by
  refine F.ok S (fun vs H Q E h => ?_) (fun cdv A outer s H vs Q E hr h => ⟨_, by rw [hb]; exact pss_cons (h0 cdv A outer s H E hr) (hrest cdv A outer s H E hr), ?_⟩)
  · obtain ⟨a, ns, rfl, _⟩ := h
    rfl
  · obtain ⟨a, ns, rfl, hS, hl, q⟩ := h
    have h00 : (L2.start N [V.ref a])[0]? = some (some (.ref a)) := rfl
    refine ⟨_, h00, a, ns, rfl, hS, hl, fun p c cells H' sH np nc hpc hp hc hne => ?_⟩
    obtain ⟨st', e⟩ := ok cells hne
    exact ⟨_, _, _, _, _, _, _, _, st', law_W hN hpc hp hc, e, fun v ρ σ' F' H'' w' m r => by cases r; exact q H''⟩
end
end QL
end
section
set_option Elab.async false
set_option linter.all false
set_option maxRecDepth 100000
set_option maxHeartbeats 4000000
/-! QL: slices of lists and tuples as plain data. -/
namespace QL
open PySem PySem.Spec L2

section
variable {X : Cx} {R : RK} {S : Type}
def cutD {α : Type} (ds : List α) (l h : Option Int) : List α := (ds.drop (HT.sIx ds.length 0 l)).take (HT.sIx ds.length ds.length h - HT.sIx ds.length 0 l)
def slA : D → Option Int → Option Int → Option D := fun d l h => match strip d with
  | .lst ds => some (.lst (cutD ds l h))
  | .tup ds => some (.tup (cutD ds l h))
  | _ => none
def dSlA (f : Ev → M S D) (lo hi : Ev → M S (Option Int)) : Ev → M S D := fun ρ => mb (f ρ) fun d => mb (lo ρ) fun l => mb (hi ρ) fun h => ml (slA d l h)
theorem cut_whole {α : Type} {ds : List α} {l h : Option Int} (hw : HT.sIx ds.length 0 l = 0 ∧ HT.sIx ds.length ds.length h = ds.length) : cutD ds l h = ds := by
  unfold cutD
  rw [hw.1, hw.2, List.drop_zero, Nat.sub_zero, List.take_length]
theorem qe_slA {e : Expr} {lo hi : Option Expr} {p2 pos : Pos} {f : Ev → M R.S D} {fl fh : Ev → M R.S (Option Int)} (he : QE X R e f) (hl : QO X R lo fl) (hh : QO X R hi fh) : QE X R (.Subscript e (.Slice lo hi none p2) pos) (dSlA f fl fh) :=
  imp_e (pe_slice (SlR.or sl_list sl_tupA) he hl hh) fun σ H Q ⟨hs, Z, H0, F0, ρ, st, F, out, st', w, e, q⟩ => by
    obtain ⟨d, s1, e1, e2⟩ := mb_some e
    obtain ⟨l, s2, e3, e4⟩ := mb_some e2
    obtain ⟨h, s3, e5, e6⟩ := mb_some e4
    obtain ⟨e7, rfl⟩ := ml_some e6
    refine ⟨hs, Z, H0, F0, ρ, st, F, d, s1, w, e1, fun v F1 H1 w1 m1 r1 => ⟨hs, Z, H0, F0, ρ, s1, F1, l, s2, w1, e3, fun F2 H2 w2 m2 => ⟨hs, Z, H0, F0, ρ, s2, F2, h, _, w2, e5, fun F3 H3 w3 m3 => ?_⟩⟩⟩
    unfold slA at e7
    cases c : strip d with
    | lst es =>
      rw [c] at e7; cases e7
      obtain ⟨a, xs, rfl, ea, rl⟩ := (r1.mono (m2.trans m3)).lst w3 c
      refine .inl ⟨a, xs, rfl, SqL.of ea, fun p np => ?_⟩
      have m := same_alloc w3 np (.lst (cutV xs l h))
      refine q _ _ _ (w3.alloc np _) (((m1.trans m2).trans m3).trans m) (.inl (Rp.lst upd_same (RpL.mono m ?_)))
      unfold cutV cutD
      rw [rl.length]
      exact (rl.drop _).take _
    | tup es =>
      rw [c] at e7; cases e7
      obtain ⟨a, xs, rfl, ea, rl⟩ := (r1.mono (m2.trans m3)).tup w3 c
      refine .inr ⟨a, xs, rfl, SqT.of (w3.FH _ _ ea), fun hw => ?_, fun _ p np => ?_⟩
      · rw [rl.length] at hw
        refine q _ _ _ w3 ((m1.trans m2).trans m3) ?_
        rw [cut_whole hw]
        exact .inl (Rp.tup ea rl)
      · have m := same_alloc w3 np (.tup (cutV xs l h))
        refine q _ _ _ (w3.alloc np _) (((m1.trans m2).trans m3).trans m) (.inl (Rp.tup upd_same (RpL.mono m ?_)))
        unfold cutV cutD
        rw [rl.length]
        exact (rl.drop _).take _
    | _ => rw [c] at e7; cases e7
/-! list(range(..)) -/
def lrgO (lo : Int) : D → Option (List D)
  | .int n => if -1000000000000 ≤ n ∧ n ≤ lo + 16000000 then some (rngL lo (n - lo).toNat) else none
  | _ => none
def dLrg1 (f : Ev → M S D) : Ev → M S (List D) := fun ρ => mb (f ρ) fun d => ml (lrgO 0 d)
theorem rpl_rng {hs : Hs} {F : Hp} (a b : Int) : RpL hs F (rgV a b) (rngL a (b - a).toNat) := by
  unfold rgV rngL
  generalize (b - a).toNat = n
  have : ∀ xs : List Nat, RpL hs F (xs.map fun (i : Nat) => V.int (a + (i : Nat))) (xs.map fun (i : Nat) => D.int (a + (i : Int))) := fun xs => by
    induction xs with
    | nil => exact .nil
    | cons x xs ih => exact .cons (.int _) ih
  exact this _
theorem qn_lrg1 {a : Expr} {p pos p2 pos2 : Pos} {f : Ev → M R.S D} (hc : X.calm = true) (hg : Gl X "list") (hm : X.mg "list" = none) (hg2 : Gl X "range") (hm2 : X.mg "range" = none) (ha : QE X R a f)
    (na : starEach [a] X.env = (false, eval a X.env) :: starEach [] X.env := by rfl) (nb : starEach [.Call (.Name "range" p2) [a] [] pos2] X.env = (false, eval (.Call (.Name "range" p2) [a] [] pos2) X.env) :: starEach [] X.env := by rfl) :
    QN X R (.Call (.Name "list" p) [.Call (.Name "range" p2) [a] [] pos2] [] pos) (dLrg1 f) :=
  imp_e (pe_listRg hc hg hm (prg_1 hg2 hm2 ha na) nb) fun σ H Q ⟨hs, Z, H0, F0, ρ, st, F, out, st', w, e, q⟩ => by
    obtain ⟨d, s1, e1, e2⟩ := mb_some e
    obtain ⟨e7, rfl⟩ := ml_some e2
    refine ⟨hs, Z, H0, F0, ρ, st, F, d, _, w, e1, fun v F1 H1 w1 m1 r1 => ?_⟩
    cases d with
    | int n =>
      obtain ⟨c, rfl⟩ := ite_some e7
      refine ⟨n, r1.int, ⟨by omega, by omega, by omega, by omega, by omega⟩, fun p np => ?_⟩
      exact q p _ F1 H1 w1 m1 np (rpl_rng 0 n)
    | _ => cases e7
/-! x, y = e1, e2 where a new list is owned -/
theorem W.adopt {hs : Hs} {Z : Addr → Prop} {H0 F0 : Hp} {ρ : Ev} {st : R.S} {σ : L2.St} {F H : Hp} (w : W R hs Z H0 F0 ρ st σ F H) {p : Addr} {vs : List V} {ds : List D} (hp : H p = some (.lst vs)) (fp : F p = none) (nf : ¬ R.fp hs p) (h0 : H0 p = none ∨ Z p)
    (far : ∀ (j : Nat) (e : D), ρ[j]? = some (.own e) → ∀ a, σ[j]? = some (some (.ref a)) → a ≠ p) (nd : ¬ DpAt ρ σ H p) (r : RpL hs F vs ds) (i : Nat) : W R hs Z H0 F0 (ρ.set i (.own (.lst ds))) st (σ.set i (some (.ref p))) F H := by
  refine ⟨w.sF, w.sH, w.zfp, w.FH, w.Fn, w.Fp, w.rep, by rw [List.length_set, List.length_set]; exact w.len, fun j e q => ?_, fun j e q => ?_, fun j k d1 e1 q1 q2 hne a b h1 h2 => ?_, ?_⟩
  · rcases get_set q with ⟨rfl, e1, hl⟩ | ⟨hne, q⟩
    · cases e1
    · obtain ⟨u, h1, h2⟩ := w.val j e q
      exact ⟨u, by rw [List.getElem?_set_ne (Ne.symm hne)]; exact h1, h2⟩
  · rcases get_set q with ⟨rfl, e1, hl⟩ | ⟨hne, q⟩
    · cases e1
      exact ⟨p, List.getElem?_set_self (by rw [← w.len]; exact hl), fp, nf, h0, vs, hp, r⟩
    · obtain ⟨a, h1, h2⟩ := w.own j e q
      exact ⟨a, by rw [List.getElem?_set_ne (Ne.symm hne)]; exact h1, h2⟩
  · rcases get_set q1 with ⟨i1, e1', l1⟩ | ⟨n1, y1⟩
    · rcases get_set q2 with ⟨i2, _, _⟩ | ⟨n2, y2⟩
      · exact absurd (i1.trans i2.symm) hne
      · subst i1
        rw [List.getElem?_set_self (by rw [← w.len]; exact l1)] at h1
        rw [List.getElem?_set_ne (Ne.symm n2)] at h2
        cases h1
        exact fun z => far k _ y2 b h2 z.symm
    · rcases get_set q2 with ⟨i2, e2', l2⟩ | ⟨n2, y2⟩
      · subst i2
        rw [List.getElem?_set_self (by rw [← w.len]; exact l2)] at h2
        rw [List.getElem?_set_ne (Ne.symm n1)] at h1
        cases h2
        exact far j _ y1 a h1
      · rw [List.getElem?_set_ne (Ne.symm n1)] at h1
        rw [List.getElem?_set_ne (Ne.symm n2)] at h2
        exact w.dis j k d1 e1 y1 y2 hne a b h1 h2
  · refine w.dps.move (fun j dss q => ?_) (fun j e c q1 q2 => ?_) (Same.refl _) fun b f1 _ f3 _ _ _ => ⟨rfl, f1, f3⟩
    · rcases get_set q with ⟨_, e1, _⟩ | ⟨hne, q⟩
      · cases e1
      · exact ⟨q, List.getElem?_set_ne (Ne.symm hne)⟩
    · rcases get_set q1 with ⟨i1, e1, l1⟩ | ⟨hne, q1⟩
      · subst i1
        rw [List.getElem?_set_self (by rw [← w.len]; exact l1)] at q2
        cases q2
        exact .inr nd
      · rw [List.getElem?_set_ne (Ne.symm hne)] at q2
        exact .inl ⟨e, q1, q2⟩
/-- a new list, laid, held by nobody, and kept -/
theorem W.hold {hs : Hs} {Z : Addr → Prop} {H0 F0 : Hp} {ρ : Ev} {st : R.S} {σ : L2.St} {F H : Hp} (w : W R hs Z H0 F0 ρ st σ F H) {p : Addr} (np : H p = none) (o : HO) : W R hs (fun b => Z b ∧ b ≠ p) (upd H0 p o) F0 ρ st σ F (upd H p o) := by
  have w1 := w.lay np o
  have fn : F p = none := w.FH.free np
  refine ⟨w1.sF, fun b u e z => ?_, fun b e => ⟨w1.zfp b e, fun q => by subst q; exact R.live _ _ _ _ _ w.rep e np⟩, w1.FH, fun b u e => ?_, w1.Fp, w1.rep, w1.len, w1.val, fun i d e => ?_, w1.dis, w1.dps.move (fun i d e => ⟨e, rfl⟩) (fun j e c q1 q2 => .inl ⟨e, q1, q2⟩) (Same.refl _) fun b f1 _ f3 _ hd _ => ⟨rfl, f1, ?_⟩⟩
  · by_cases q : b = p
    · subst q; rw [upd_same] at e ⊢; exact e
    · rw [upd_ne q] at e
      exact w1.sH b u e fun z' => z ⟨z', q⟩
  · have q : b ≠ p := ne_of_none e fn
    rw [upd_ne q]
    rcases w1.Fn b u e with h | h | h
    · exact .inl h
    · exact .inr (.inl h)
    · exact .inr (.inr ⟨h, q⟩)
  · obtain ⟨a, h1, h2, h3, h4, h5⟩ := w1.own i d e
    have q : a ≠ p := fun q => by
      obtain ⟨a', g1, _, _, _, g5⟩ := w.own i d e
      rw [h1] at g1; cases g1
      exact g5.there (by rw [q]; exact np)
    refine ⟨a, h1, h2, h3, ?_, h5⟩
    rw [upd_ne q]
    exact h4.imp id fun z => ⟨z, q⟩
  · have q : b ≠ p := fun q => w.noDp np o (q ▸ hd)
    rw [upd_ne q]
    exact f3.imp id fun z => ⟨z, q⟩
theorem W.free {hs : Hs} {Z : Addr → Prop} {H0 F0 : Hp} {ρ : Ev} {st st' : R.S} {σ : L2.St} {F H F2 H2 : Hp} (w : W R hs Z H0 F0 ρ st σ F H) {p : Addr} (np : H p = none) {vs : List V} (w2 : W R hs (fun b => Z b ∧ b ≠ p) (upd H0 p (.lst vs)) F0 ρ st' σ F2 H2) :
    W R hs Z H0 F0 ρ st' σ F2 H2 ∧ H2 p = some (.lst vs) ∧ F2 p = none ∧ ¬ R.fp hs p ∧ (H0 p = none ∨ Z p) ∧ (∀ (j : Nat) (e : D), ρ[j]? = some (.own e) → ∀ a, σ[j]? = some (some (.ref a)) → a ≠ p) ∧ ¬ DpAt ρ σ H2 p := by
  have fn : F p = none := w.FH.free np
  have h0 : H0 p = none ∨ Z p := by
    by_cases z : Z p
    · exact .inr z
    · refine .inl ?_
      cases q : H0 p with
      | none => rfl
      | some o => have q2 := w.sH p o q z; rw [np] at q2; cases q2
  have far : ∀ (j : Nat) (e : D), ρ[j]? = some (.own e) → ∀ a, σ[j]? = some (some (.ref a)) → a ≠ p := fun j e q a h1 z => by
    obtain ⟨b, h2, _, _, h4, _⟩ := w2.own j e q
    rw [h1] at h2; cases h2
    subst z
    rcases h4 with h4 | h4
    · rw [upd_same] at h4; cases h4
    · exact h4.2 rfl
  have nd : ¬ DpAt ρ σ H2 p := fun z => by
    rcases (w2.dps.all z).2.2.1 with h | h
    · rw [upd_same] at h; cases h
    · exact h.2 rfl
  have f2 : F2 p = none := by
    cases q : F2 p with
    | none => rfl
    | some o =>
      rcases w2.Fn p o q with h | h | h
      · have := w.sF _ _ h; rw [fn] at this; cases this
      · rw [upd_same] at h; cases h
      · exact absurd rfl h.2
  refine ⟨⟨w2.sF, fun b u e z => ?_, fun b e => (w2.zfp b e).1, w2.FH, fun b u e => ?_, w2.Fp, w2.rep, w2.len, w2.val, fun i d e => ?_, w2.dis, w2.dps.move (fun i d e => ⟨e, rfl⟩) (fun j e c q1 q2 => .inl ⟨e, q1, q2⟩) (Same.refl _) fun b f1 _ f3 _ hd _ => ⟨rfl, f1, ?_⟩⟩, w2.sH p _ upd_same fun z => z.2 rfl, f2, fun z => (w2.zfp p z).2 rfl, h0, far, nd⟩
  · have q : b ≠ p := fun q => by
      subst q
      rcases h0 with h | h
      · rw [h] at e; cases e
      · exact z h
    exact w2.sH b u (by rw [upd_ne q]; exact e) fun z' => z z'.1
  · have q : b ≠ p := ne_of_none e f2
    rcases w2.Fn b u e with h | h | h
    · exact .inl h
    · rw [upd_ne q] at h; exact .inr (.inl h)
    · exact .inr (.inr h.1)
  · obtain ⟨a, h1, h2, h3, h4, h5⟩ := w2.own i d e
    have q := far i d e a h1
    rw [upd_ne q] at h4
    exact ⟨a, h1, h2, h3, h4.imp id fun z => z.1, h5⟩
  · have q : b ≠ p := fun q => nd (q ▸ hd)
    rw [upd_ne q] at f3
    exact f3.imp id fun z => z.1
/-- x, y = a new list, a new list -/
def dParNN (i j : Nat) (f g : Ev → M S (List D)) : Ev → M S Out := fun ρ => mb (f ρ) fun ds => mb (g ρ) fun es => mr (.nx ((ρ.set i (.own (.lst ds))).set j (.own (.lst es))))
def dParNE (i j : Nat) (f : Ev → M S (List D)) (g : Ev → M S D) : Ev → M S Out := fun ρ => mb (f ρ) fun ds => mb (g ρ) fun e => ml (if plain e = true then some (.nx ((ρ.set i (.own (.lst ds))).set j (.val e))) else none)
def dParEN (i j : Nat) (f : Ev → M S D) (g : Ev → M S (List D)) : Ev → M S Out := fun ρ => mb (f ρ) fun d => mb (g ρ) fun es => ml (if plain d = true then some (.nx ((ρ.set i (.val d)).set j (.own (.lst es)))) else none)
theorem qs_parNN {i j : Nat} {x y : Str} {a b : Expr} {pos px py pt : Pos} {kt k2 pt2} {f g : Ev → M R.S (List D)} (hc : X.calm = true) (hN : X.N.Nodup) (hi : X.N[i]? = some x) (hj : X.N[j]? = some y) (hij : i ≠ j)
    (hx : X.env.scope.names.lookup x = some .local) (hy : X.env.scope.names.lookup y = some .local) (ha : QN X R a f) (hb : QN X R b g)
    (hw : swappedStores [.Tuple [.Name x px, .Name y py] kt pt] (.Tuple [a, b] k2 pt2) X.env = pure (some [x, y]))
    (hs : swapsWithSole [.Tuple [.Name x px, .Name y py] kt pt] (.Tuple [a, b] k2 pt2) pos.line X.env = pure false := by rfl)
    (na : starEach [a, b] X.env = (false, eval a X.env) :: starEach [b] X.env := by rfl) (nb : starEach [b] X.env = (false, eval b X.env) :: starEach [] X.env := by rfl) :
    QS X R (.Assign [.Tuple [.Name x px, .Name y py] kt pt] (.Tuple [a, b] k2 pt2) pos) (dParNN i j f g) :=
  imp_s (ps_par hc hN hi hj hij hx hy (pa_cons ha (pa_cons hb pa_nil nb) na) hw hs) fun D σ H ⟨hs, Z, H0, F0, ρ, st, F, o, st', w, e, q⟩ => by
    obtain ⟨ds, s1, e1, e⟩ := mb_some e
    obtain ⟨es, s2, e2, e⟩ := mb_some e
    obtain ⟨rfl, rfl⟩ := mr_some e
    refine ⟨hs, Z, H0, F0, ρ, st, F, ds, s1, w, e1, fun p vs F1 H1 w1 m1 np r1 => ?_⟩
    refine ⟨hs, _, _, F0, ρ, s1, F1, es, _, w1.hold np (.lst vs), e2, fun p2 vs2 F2 H2 w2 m2 np2 r2 => ?_⟩
    obtain ⟨w3, g1, g2, g3, g4, g5⟩ := W.free w1 np w2
    exact ⟨_, _, rfl, q _ F2 _ ((w3.adopt g1 g2 g3 g4 g5.1 g5.2 (r1.mono m2) i).setO np2 r2 j) (m1.trans m2)⟩
theorem qs_parNE {i j : Nat} {x y : Str} {a b : Expr} {pos px py pt : Pos} {kt k2 pt2} {f : Ev → M R.S (List D)} {g : Ev → M R.S D} (hc : X.calm = true) (hN : X.N.Nodup) (hi : X.N[i]? = some x) (hj : X.N[j]? = some y) (hij : i ≠ j)
    (hx : X.env.scope.names.lookup x = some .local) (hy : X.env.scope.names.lookup y = some .local) (ha : QN X R a f) (hb : QE X R b g)
    (hw : swappedStores [.Tuple [.Name x px, .Name y py] kt pt] (.Tuple [a, b] k2 pt2) X.env = pure (some [x, y]))
    (hs : swapsWithSole [.Tuple [.Name x px, .Name y py] kt pt] (.Tuple [a, b] k2 pt2) pos.line X.env = pure false := by rfl)
    (na : starEach [a, b] X.env = (false, eval a X.env) :: starEach [b] X.env := by rfl) (nb : starEach [b] X.env = (false, eval b X.env) :: starEach [] X.env := by rfl) :
    QS X R (.Assign [.Tuple [.Name x px, .Name y py] kt pt] (.Tuple [a, b] k2 pt2) pos) (dParNE i j f g) :=
  imp_s (ps_par hc hN hi hj hij hx hy (pa_cons ha (pa_cons hb pa_nil nb) na) hw hs) fun D σ H ⟨hs, Z, H0, F0, ρ, st, F, o, st', w, e, q⟩ => by
    obtain ⟨ds, s1, e1, e⟩ := mb_some e
    obtain ⟨d, s2, e2, e⟩ := mb_some e
    obtain ⟨e3, rfl⟩ := ml_some e
    obtain ⟨pl, rfl⟩ := ite_some e3
    refine ⟨hs, Z, H0, F0, ρ, st, F, ds, s1, w, e1, fun p vs F1 H1 w1 m1 np r1 => ?_⟩
    refine ⟨hs, _, _, F0, ρ, s1, F1, d, _, w1.hold np (.lst vs), e2, fun v F2 H2 w2 m2 r2 => ?_⟩
    obtain ⟨w3, g1, g2, g3, g4, g5⟩ := W.free w1 np w2
    exact ⟨_, _, rfl, q _ F2 _ ((w3.adopt g1 g2 g3 g4 g5.1 g5.2 (r1.mono m2) i).setV (r2.pl pl) j) (m1.trans m2)⟩
theorem qs_parEN {i j : Nat} {x y : Str} {a b : Expr} {pos px py pt : Pos} {kt k2 pt2} {f : Ev → M R.S D} {g : Ev → M R.S (List D)} (hc : X.calm = true) (hN : X.N.Nodup) (hi : X.N[i]? = some x) (hj : X.N[j]? = some y) (hij : i ≠ j)
    (hx : X.env.scope.names.lookup x = some .local) (hy : X.env.scope.names.lookup y = some .local) (ha : QE X R a f) (hb : QN X R b g)
    (hw : swappedStores [.Tuple [.Name x px, .Name y py] kt pt] (.Tuple [a, b] k2 pt2) X.env = pure (some [x, y]))
    (hs : swapsWithSole [.Tuple [.Name x px, .Name y py] kt pt] (.Tuple [a, b] k2 pt2) pos.line X.env = pure false := by rfl)
    (na : starEach [a, b] X.env = (false, eval a X.env) :: starEach [b] X.env := by rfl) (nb : starEach [b] X.env = (false, eval b X.env) :: starEach [] X.env := by rfl) :
    QS X R (.Assign [.Tuple [.Name x px, .Name y py] kt pt] (.Tuple [a, b] k2 pt2) pos) (dParEN i j f g) :=
  imp_s (ps_par hc hN hi hj hij hx hy (pa_cons ha (pa_cons hb pa_nil nb) na) hw hs) fun D σ H ⟨hs, Z, H0, F0, ρ, st, F, o, st', w, e, q⟩ => by
    obtain ⟨d, s1, e1, e⟩ := mb_some e
    obtain ⟨es, s2, e2, e⟩ := mb_some e
    obtain ⟨e3, rfl⟩ := ml_some e
    obtain ⟨pl, rfl⟩ := ite_some e3
    refine ⟨hs, Z, H0, F0, ρ, st, F, d, s1, w, e1, fun v F1 H1 w1 m1 r1 => ?_⟩
    refine ⟨hs, Z, H0, F0, ρ, s1, F1, es, _, w1, e2, fun p vs F2 H2 w2 m2 np r2 => ?_⟩
    exact ⟨_, _, rfl, q _ F2 _ ((w2.setV ((r1.pl pl).mono m2) i).setO np r2 j) (m1.trans m2)⟩
/-- the same through a tuple, where a name is captured -/
theorem qs_asgNN {i j : Nat} {x y : Str} {a b : Expr} {pos px py pt : Pos} {kt k2 pt2} {f g : Ev → M R.S (List D)} (hc : X.calm = true) (hN : X.N.Nodup) (hi : X.N[i]? = some x) (hj : X.N[j]? = some y)
    (hx : Loc X.env.scope x) (hy : Loc X.env.scope y) (fx : X.fn x = true ∨ X.env.scope.names.lookup x = some .local) (fy : X.fn y = true ∨ X.env.scope.names.lookup y = some .local) (ha : QN X R a f) (hb : QN X R b g)
    (hs : swapsWithSole [.Tuple [.Name x px, .Name y py] kt pt] (.Tuple [a, b] k2 pt2) pos.line X.env = pure false := by rfl) (hw : swappedStores [.Tuple [.Name x px, .Name y py] kt pt] (.Tuple [a, b] k2 pt2) X.env = pure none := by rfl)
    (h1 : (assignEach [.Tuple [.Name x px, .Name y py] kt pt] X.env).map (·.2) = [assign (.Tuple [.Name x px, .Name y py] kt pt) X.env] := by rfl)
    (hn : (assignEach [.Name x px, .Name y py] X.env).length = 2 := by rfl) (hst : (assignEach [.Name x px, .Name y py] X.env).findIdx? (·.1) = none := by rfl)
    (g1 : (assignEach [.Name x px, .Name y py] X.env).map (·.2) = assign (.Name x px) X.env :: (assignEach [.Name y py] X.env).map (·.2) := by rfl) (g2 : (assignEach [.Name y py] X.env).map (·.2) = assign (.Name y py) X.env :: (assignEach [] X.env).map (·.2) := by rfl)
    (na : starEach [a, b] X.env = (false, eval a X.env) :: starEach [b] X.env := by rfl) (nb : starEach [b] X.env = (false, eval b X.env) :: starEach [] X.env := by rfl) :
    QS X R (.Assign [.Tuple [.Name x px, .Name y py] kt pt] (.Tuple [a, b] k2 pt2) pos) (dParNN i j f g) :=
  imp_s (ps_asg (pe_tup (pa_cons ha (pa_cons hb pa_nil nb) na)) (pg_tup hc (pgs_cons (pg_name hN hi hx fx) (pgs_cons (pg_name hN hj hy fy) pgs_nil g2) g1) hn hst) hs hw h1) fun D σ H ⟨hs, Z, H0, F0, ρ, st, F, o, st', w, e, q⟩ => by
    obtain ⟨ds, s1, e1, e⟩ := mb_some e
    obtain ⟨es, s2, e2, e⟩ := mb_some e
    obtain ⟨rfl, rfl⟩ := mr_some e
    refine ⟨hs, Z, H0, F0, ρ, st, F, ds, s1, w, e1, fun p vs F1 H1 w1 m1 np r1 => ?_⟩
    refine ⟨hs, _, _, F0, ρ, s1, F1, es, _, w1.hold np (.lst vs), e2, fun p2 vs2 F2 H2 w2 m2 np2 r2 => ?_⟩
    obtain ⟨w3, g1, g2, g3, g4, g5⟩ := W.free w1 np w2
    refine ⟨by show 2 ≤ sizeLine; decide, fun t nt => ⟨t, _, rfl, SqT.of upd_same, rfl, _, _, rfl, _, _, rfl, rfl, ?_⟩⟩
    exact q _ F2 _ (((w3.adopt g1 g2 g3 g4 g5.1 g5.2 (r1.mono m2) i).setO np2 r2 j).lay nt _) (m1.trans m2)
theorem qs_asgNE {i j : Nat} {x y : Str} {a b : Expr} {pos px py pt : Pos} {kt k2 pt2} {f : Ev → M R.S (List D)} {g : Ev → M R.S D} (hc : X.calm = true) (hN : X.N.Nodup) (hi : X.N[i]? = some x) (hj : X.N[j]? = some y)
    (hx : Loc X.env.scope x) (hy : Loc X.env.scope y) (fx : X.fn x = true ∨ X.env.scope.names.lookup x = some .local) (fy : X.fn y = true ∨ X.env.scope.names.lookup y = some .local) (ha : QN X R a f) (hb : QE X R b g)
    (hs : swapsWithSole [.Tuple [.Name x px, .Name y py] kt pt] (.Tuple [a, b] k2 pt2) pos.line X.env = pure false := by rfl) (hw : swappedStores [.Tuple [.Name x px, .Name y py] kt pt] (.Tuple [a, b] k2 pt2) X.env = pure none := by rfl)
    (h1 : (assignEach [.Tuple [.Name x px, .Name y py] kt pt] X.env).map (·.2) = [assign (.Tuple [.Name x px, .Name y py] kt pt) X.env] := by rfl)
    (hn : (assignEach [.Name x px, .Name y py] X.env).length = 2 := by rfl) (hst : (assignEach [.Name x px, .Name y py] X.env).findIdx? (·.1) = none := by rfl)
    (g1 : (assignEach [.Name x px, .Name y py] X.env).map (·.2) = assign (.Name x px) X.env :: (assignEach [.Name y py] X.env).map (·.2) := by rfl) (g2 : (assignEach [.Name y py] X.env).map (·.2) = assign (.Name y py) X.env :: (assignEach [] X.env).map (·.2) := by rfl)
    (na : starEach [a, b] X.env = (false, eval a X.env) :: starEach [b] X.env := by rfl) (nb : starEach [b] X.env = (false, eval b X.env) :: starEach [] X.env := by rfl) :
    QS X R (.Assign [.Tuple [.Name x px, .Name y py] kt pt] (.Tuple [a, b] k2 pt2) pos) (dParNE i j f g) :=
  imp_s (ps_asg (pe_tup (pa_cons ha (pa_cons hb pa_nil nb) na)) (pg_tup hc (pgs_cons (pg_name hN hi hx fx) (pgs_cons (pg_name hN hj hy fy) pgs_nil g2) g1) hn hst) hs hw h1) fun D σ H ⟨hs, Z, H0, F0, ρ, st, F, o, st', w, e, q⟩ => by
    obtain ⟨ds, s1, e1, e⟩ := mb_some e
    obtain ⟨d, s2, e2, e⟩ := mb_some e
    obtain ⟨e3, rfl⟩ := ml_some e
    obtain ⟨pl, rfl⟩ := ite_some e3
    refine ⟨hs, Z, H0, F0, ρ, st, F, ds, s1, w, e1, fun p vs F1 H1 w1 m1 np r1 => ?_⟩
    refine ⟨hs, _, _, F0, ρ, s1, F1, d, _, w1.hold np (.lst vs), e2, fun v F2 H2 w2 m2 r2 => ?_⟩
    obtain ⟨w3, g1, g2, g3, g4, g5⟩ := W.free w1 np w2
    refine ⟨by show 2 ≤ sizeLine; decide, fun t nt => ⟨t, _, rfl, SqT.of upd_same, rfl, _, _, rfl, _, _, rfl, rfl, ?_⟩⟩
    exact q _ F2 _ (((w3.adopt g1 g2 g3 g4 g5.1 g5.2 (r1.mono m2) i).setV (r2.pl pl) j).lay nt _) (m1.trans m2)
theorem qs_asgEN {i j : Nat} {x y : Str} {a b : Expr} {pos px py pt : Pos} {kt k2 pt2} {f : Ev → M R.S D} {g : Ev → M R.S (List D)} (hc : X.calm = true) (hN : X.N.Nodup) (hi : X.N[i]? = some x) (hj : X.N[j]? = some y)
    (hx : Loc X.env.scope x) (hy : Loc X.env.scope y) (fx : X.fn x = true ∨ X.env.scope.names.lookup x = some .local) (fy : X.fn y = true ∨ X.env.scope.names.lookup y = some .local) (ha : QE X R a f) (hb : QN X R b g)
    (hs : swapsWithSole [.Tuple [.Name x px, .Name y py] kt pt] (.Tuple [a, b] k2 pt2) pos.line X.env = pure false := by rfl) (hw : swappedStores [.Tuple [.Name x px, .Name y py] kt pt] (.Tuple [a, b] k2 pt2) X.env = pure none := by rfl)
    (h1 : (assignEach [.Tuple [.Name x px, .Name y py] kt pt] X.env).map (·.2) = [assign (.Tuple [.Name x px, .Name y py] kt pt) X.env] := by rfl)
    (hn : (assignEach [.Name x px, .Name y py] X.env).length = 2 := by rfl) (hst : (assignEach [.Name x px, .Name y py] X.env).findIdx? (·.1) = none := by rfl)
    (g1 : (assignEach [.Name x px, .Name y py] X.env).map (·.2) = assign (.Name x px) X.env :: (assignEach [.Name y py] X.env).map (·.2) := by rfl) (g2 : (assignEach [.Name y py] X.env).map (·.2) = assign (.Name y py) X.env :: (assignEach [] X.env).map (·.2) := by rfl)
    (na : starEach [a, b] X.env = (false, eval a X.env) :: starEach [b] X.env := by rfl) (nb : starEach [b] X.env = (false, eval b X.env) :: starEach [] X.env := by rfl) :
    QS X R (.Assign [.Tuple [.Name x px, .Name y py] kt pt] (.Tuple [a, b] k2 pt2) pos) (dParEN i j f g) :=
  imp_s (ps_asg (pe_tup (pa_cons ha (pa_cons hb pa_nil nb) na)) (pg_tup hc (pgs_cons (pg_name hN hi hx fx) (pgs_cons (pg_name hN hj hy fy) pgs_nil g2) g1) hn hst) hs hw h1) fun D σ H ⟨hs, Z, H0, F0, ρ, st, F, o, st', w, e, q⟩ => by
    obtain ⟨d, s1, e1, e⟩ := mb_some e
    obtain ⟨es, s2, e2, e⟩ := mb_some e
    obtain ⟨e3, rfl⟩ := ml_some e
    obtain ⟨pl, rfl⟩ := ite_some e3
    refine ⟨hs, Z, H0, F0, ρ, st, F, d, s1, w, e1, fun v F1 H1 w1 m1 r1 => ?_⟩
    refine ⟨hs, Z, H0, F0, ρ, s1, F1, es, _, w1, e2, fun p vs F2 H2 w2 m2 np r2 => ?_⟩
    refine ⟨by show 2 ≤ sizeLine; decide, fun t nt => ⟨t, _, rfl, SqT.of upd_same, rfl, _, _, rfl, _, _, rfl, rfl, ?_⟩⟩
    exact q _ F2 _ (((w2.setV ((r1.pl pl).mono m2) i).setO np r2 j).lay nt _) (m1.trans m2)
end
end QL
end
section
set_option Elab.async false
set_option linter.all false
set_option maxRecDepth 100000
set_option maxHeartbeats 4000000
/-! QL: sorted of ints and of pairs of ints. -/
namespace QL
open PySem PySem.Spec L2

section
variable {X : Cx} {R : RK} {S : Type}
def leI (a b : Int) : Bool := decide (a ≤ b)
def leP (p q : Int × Int) : Bool := !SrtO.lexB q p
def sortI (ns : List Int) : List Int := ns.mergeSort leI
def sortP (ps : List (Int × Int)) : List (Int × Int) := ps.mergeSort leP
theorem sortI_perm (ns : List Int) : (sortI ns).Perm ns := List.mergeSort_perm _ _
theorem sortP_perm (ns : List (Int × Int)) : (sortP ns).Perm ns := List.mergeSort_perm _ _
theorem sortI_sorted (ns : List Int) : (sortI ns).Pairwise (· ≤ ·) := by
  have := List.pairwise_mergeSort (le := leI) (fun a b c h1 h2 => by
    unfold leI at *
    have := of_decide_eq_true h1; have := of_decide_eq_true h2
    exact decide_eq_true (by omega)) (fun a b => by
    unfold leI
    rw [Bool.or_eq_true, decide_eq_true_eq, decide_eq_true_eq]; omega) ns
  exact this.imp fun h => of_decide_eq_true h
theorem leP_iff {p q : Int × Int} : leP p q = true ↔ ¬ (q.1 < p.1 ∨ (q.1 = p.1 ∧ q.2 < p.2)) := by
  unfold leP
  rw [Bool.not_eq_true', SrtO.lexB_no]
theorem sortP_sorted (ns : List (Int × Int)) : (sortP ns).Pairwise fun p q => leP p q = true :=
  List.pairwise_mergeSort (le := leP) (fun a b c h1 h2 => by rw [leP_iff] at *; omega) (fun a b => by
    rw [Bool.or_eq_true, leP_iff, leP_iff]; omega) ns
theorem sortI_uniq {xs ns : List Int} (h : xs.Perm ns) (hs : xs.Pairwise (· ≤ ·)) : xs = sortI ns :=
  List.Perm.eq_of_pairwise (le := (· ≤ ·)) (fun a b _ _ h1 h2 => by omega) hs (sortI_sorted ns) (h.trans (sortI_perm ns).symm)
theorem sortP_uniq {xs ns : List (Int × Int)} (h : xs.Perm ns) (hs : xs.Pairwise fun p q => leP p q = true) : xs = sortP ns :=
  List.Perm.eq_of_pairwise (le := fun p q => leP p q = true) (fun a b _ _ h1 h2 => by
    rw [leP_iff] at h1 h2
    exact Prod.ext (by omega) (by omega)) hs (sortP_sorted ns) (h.trans (sortP_perm ns).symm)
def pairD (p : Int × Int) : D := .tup [.int p.1, .int p.2]
def asPair : D → Option (Int × Int)
  | .tup [.int i, .int j] => some (i, j)
  | _ => none
theorem asPair_eq {d : D} {p : Int × Int} (h : asPair d = some p) : d = pairD p := by
  unfold asPair at h
  split at h
  · cases h; rfl
  · cases h
def asPairs : List D → Option (List (Int × Int))
  | [] => some []
  | d :: ds => (asPair d).bind fun p => (asPairs ds).map (p :: ·)
theorem asPairs_eq : ∀ {ds : List D} {ps : List (Int × Int)}, asPairs ds = some ps → ds = ps.map pairD
  | [], ps, h => by cases h; rfl
  | d :: ds, ps, h => by
    obtain ⟨p, h1, h2⟩ := Option.bind_eq_some_iff.mp h
    obtain ⟨qs, h3, rfl⟩ := map_some' h2
    rw [asPairs_eq h3, asPair_eq h1]; rfl
theorem asPairs_map : ∀ ps : List (Int × Int), asPairs (ps.map pairD) = some ps
  | [] => rfl
  | p :: ps => by
    show (asPair (pairD p)).bind (fun p => (asPairs (ps.map pairD)).map (p :: ·)) = _
    rw [asPairs_map ps]; rfl
def sortL (es : List D) : Option (List D) := match asInts es with
  | some ns => some ((sortI ns).map .int)
  | none => (asPairs es).map fun ps => (sortP ps).map pairD
theorem sortL_ints (ns : List Int) : sortL (ns.map .int) = some ((sortI ns).map .int) := by
  unfold sortL
  rw [asInts_map]
theorem sortL_pairs (ps : List (Int × Int)) : sortL (ps.map pairD) = some ((sortP ps).map pairD) := by
  cases ps with
  | nil => unfold sortL sortP sortI; simp [asInts]
  | cons p ps =>
    unfold sortL
    rw [show asInts ((p :: ps).map pairD) = none from rfl, asPairs_map]
    rfl
def sortD : List D → Option (List D)
  | [d] => match strip d with
    | .lst es => sortL es
    | _ => none
  | _ => none
def rSorted2 (K : PySem.W.Frag) : List V → Hp → VK → Prop := fun vs H Q => rSortedI K vs H Q ∨ rSortedPO K vs H Q
theorem c_sorted : CallR X (.builtin "sorted") (rSorted2 X.K) := cr_sortedI.or cr_sortedPO
/-- the pair that stands at a reference -/
def pairAt (H : Hp) : V → Int × Int
  | .ref t => match H t with
    | some (.tup [.int i, .int j]) => (i, j)
    | _ => (0, 0)
  | _ => (0, 0)
theorem rpl_pairs {hs : Hs} {F H : Hp} (s : Same F H) : ∀ {ps : List (Int × Int)} {vs : List V}, RpL hs F vs (ps.map pairD) → ps = vs.map (pairAt H) ∧ ∀ x ∈ vs, ∃ t, x = V.ref t ∧ F t = some (.tup [.int (pairAt H x).1, .int (pairAt H x).2])
  | [], _, r => by cases r; exact ⟨rfl, fun x h => by cases h⟩
  | p :: ps, _, r => by
    obtain ⟨v, vs, rfl, a, b⟩ := r.consD
    obtain ⟨e, h⟩ := rpl_pairs s b
    obtain ⟨t, xs, rfl, e1, rl⟩ := Rp.tupD a
    obtain ⟨v1, v2, rfl, r1, r2⟩ := rl.two
    cases r1; cases r2
    have ep : pairAt H (.ref t) = (p.1, p.2) := by
      show (match H t with
        | some (.tup [.int i, .int j]) => (i, j)
        | _ => ((0 : Int), (0 : Int))) = _
      rw [s _ _ e1]
    refine ⟨by rw [List.map_cons, ep, ← e], fun x hx => ?_⟩
    rcases List.mem_cons.mp hx with rfl | hx
    · exact ⟨t, rfl, by rw [ep]; exact e1⟩
    · exact h x hx
theorem pairs_rpl {hs : Hs} {F : Hp} (k : V → Int × Int) : ∀ {vs : List V}, (∀ x ∈ vs, ∃ t, x = V.ref t ∧ F t = some (.tup [.int (k x).1, .int (k x).2])) → RpL hs F vs ((vs.map k).map pairD)
  | [], _ => .nil
  | v :: vs, h => by
    obtain ⟨t, rfl, e⟩ := h v List.mem_cons_self
    exact .cons (.tup e (.cons (.int _) (.cons (.int _) .nil))) (pairs_rpl k fun x hx => h x (List.mem_cons_of_mem _ hx))
theorem q_sorted : CNQ R (rSorted2 X.K) sortD := by
  rintro vs H Q ⟨hs, Z, H0, F0, ρ, st, σ, F, ds, zs, w, r, e, q⟩
  match ds, e with
  | [d], e =>
    obtain ⟨v, rfl, rv⟩ := r.one
    have e : (match strip d with
      | .lst es => sortL es
      | _ => none) = some zs := e
    cases c : strip d with
    | lst es =>
      rw [c] at e
      have e : sortL es = some zs := e
      unfold sortL at e
      obtain ⟨a, xs, rfl, ea, rl⟩ := rv.lst w c
      cases c2 : asInts es with
      | some ns =>
        rw [c2] at e; cases e
        rw [asInts_eq c2] at rl
        have ex := rpl_ints rl
        subst ex
        refine .inl ⟨a, ns, rfl, SqL.of ea, fun ns' p h1 h2 np => ?_⟩
        rw [sortI_uniq h1 h2]
        refine q p _ F H w (Same.refl _) np ?_
        exact of_ints _
      | none =>
        rw [c2] at e
        obtain ⟨ps, c3, rfl⟩ := map_some' e
        rw [asPairs_eq c3] at rl
        obtain ⟨e4, h4⟩ := rpl_pairs w.FH rl
        refine .inr ⟨a, xs, pairAt H, rfl, SqL.of ea, fun x hx => ?_, fun ys p h1 h2 np => ?_⟩
        · obtain ⟨t, e5, e6⟩ := h4 x hx
          exact ⟨t, e5, w.FH _ _ e6⟩
        · refine q p _ F H w (Same.refl _) np ?_
          have e7 : ys.map (pairAt H) = sortP ps := by
            refine sortP_uniq ?_ ?_
            · rw [e4]; exact h2.perm.map _
            · refine List.pairwise_map.mpr (h1.imp fun {x y} h => ?_)
              unfold leP
              rw [show SrtO.lexB (pairAt H y) (pairAt H x) = false from h]; rfl
          rw [← e7]
          exact pairs_rpl _ fun x hx => h4 x (h2.perm.mem_iff.mp hx)
    | _ => rw [c] at e; cases e
end
end QL
end
section
set_option Elab.async false
set_option linter.all false
set_option maxRecDepth 100000
set_option maxHeartbeats 4000000
/-! QL: repr of data in the law's own def; the law's def where nothing is being shown (guards are empty). -/
namespace QL
open PySem PySem.Spec L2 PyProof.Rows

def reprS (d : D) : Str := (dat DEP d).shown
def isSeq : D → Bool
  | .lst _ => true
  | .tup _ => true
  | _ => false
def reprB (d : D) : Bool := isSeq d && fitD DEP d && (dat DEP d).showable && decide ((dat DEP d).shown.length ≤ LIM)
def reprD : List D → Option D
  | [d] => if reprB (strip d) = true then some (.str (reprS (strip d))) else none
  | _ => none
def rRepr (K : PySem.W.Frag) : List V → Hp → VK → Prop := fun xs H Q => ∃ (a : Addr) (d : PyData), xs = [.ref a] ∧ Dp K H (.ref a) d ∧ d.showable = true ∧ d.hasDict = false ∧ d.depth ≤ 60 ∧ d.shown.length ≤ sizeLine ∧ Q (.str d.shown) H
section
variable {X : Cx} {R : RK} {S : Type}
theorem c_repr (hg : X.A.guards = some []) (hu : X.A.units + 70 < cLine) : CallR X (.builtin "repr") (rRepr X.K) := by
  intro pins s σ H xs us Q I r h
  obtain ⟨a, d, rfl, hd, h1, h2, h3, h4, q⟩ := h
  have eu : us = [.ref a] := Vals.ref1 r
  subst eu
  obtain ⟨as, rd⟩ := Dp.reads I d _ (.ref a) hd rfl
  exact repr_of_reads' rd h1 (PyData.noDict_hsm h2) hg (by omega) (fun _ _ e => e) (fun h' u tk hk => ⟨.str _, H, I.kept (t' := tk) hk, ⟨_, rfl⟩, q⟩) h4
theorem q_repr : CQ R (rRepr X.K) reprD := by
  rintro vs H Q ⟨hs, Z, H0, F0, ρ, st, σ, F, ds, z, w, r, e, q⟩
  match ds, e with
  | [d], e =>
    obtain ⟨v, rfl, rv⟩ := r.one
    have e : (if reprB (strip d) = true then some (D.str (reprS (strip d))) else none) = some z := e
    obtain ⟨c, rfl⟩ := ite_some e
    unfold reprB at c
    rw [Bool.and_eq_true, Bool.and_eq_true, Bool.and_eq_true] at c
    obtain ⟨⟨⟨c1, c2⟩, c3⟩, c4⟩ := c
    have vw := rv.vw w
    have hr : ∃ a, v = .ref a := by
      revert c1
      generalize strip d = d' at vw
      intro c1
      cases vw <;> first | exact ⟨_, rfl⟩ | cases c1
    obtain ⟨a, rfl⟩ := hr
    exact ⟨a, _, rfl, dp_of _ _ _ vw c2, c3, PyData.hasDict_of_canLay _ (lay_of _ _ c2), Nat.le_trans (dep_of _ _) (by decide), lim_line (of_decide_eq_true c4), q _ F H w (Same.refl _) (.str _)⟩
end
theorem hu70 {k : Nat} {A : Around} (r : Room k A) : A.units + 70 < cLine := by have := r.un; omega

/-! ### the law's def, called from where nothing is shown -/
section
variable {P : Program} {w : World} {K : PySem.W.Frag} {mg : Str → Option Value} {base : Heap}
/-- a call of a def at one place A -/
def RunAt (P : Program) (w : World) (K : PySem.W.Frag) (mg : Str → Option Value) (base : Heap) (A : Around) (f : Addr) (fd : FuncData) (ps : List Str) (sp : Sp) : Prop :=
  ∀ (outer : List Env) (s : Shared) (H : Hp) (args : Args) (us : List Value) (vs : List V) (Q : VK) (E : XK), Env0 P w K mg base A outer s H → BindsTo s fd args (ps.zip us) → Vals vs us → sp vs H Q E → codeAny (model P w) A (.call (.ref f) args) (CR CX0 outer P w H s Q E) s
theorem run_at {x qual : Str} {st : Stmt} {f : Addr} {fd : FuncData} {N ps : List Str} {k : Nat} {sp : Sp} {A : Around} (F : Fun K x qual st f fd) (S : FnScope N ps (defScope st)) (room : Room (k + 1) A) (len : ∀ vs H Q E, sp vs H Q E → vs.length = ps.length)
    (body : ∀ (cdv : Value) (outer : List Env) (s : Shared) (H : Hp) (vs : List V) (Q : VK) (E : XK), Room k (A.deeper (envOfC qual (defScope st) s.heap.objs.size f cdv)) → sp vs H Q E →
      ∃ t, PSs (cxOf CX0 P w K mg base N qual (defScope st) f cdv A outer s H E).nox (defBody st) t ∧ t { nx := fun _ H' => Q .non H', rt := Q } (start N vs) H) : RunAt P w K mg base A f fd ps sp := by
  obtain ⟨oc, od, kV, doc, pm, an, cdv, ct, osl, rfl, lk, code⟩ := F.ex
  intro outer s H args us vs Q E e0 bd rl hsp
  have same : ∀ b o, base.get? b = some o → s.heap.get? b = some o := fun b o e => (e0.bs b o e).1
  have inK := e0.mod.kin.keeps same
  have noLim := e0.mod.nolimit.keeps same
  refine codeAny_call_function room.depth (inK _ _ lk) rfl S.co S.gen rfl (PySem.W.codeRec_of inK code) (bd _ _ _ _ ?_)
  refine wpAny_newFunctionEnv_cells S.kind (fun y hy => ?_) fun env he s1 ic => ?_
  · obtain ⟨nm, vv⟩ := y
    exact (S.par nm (List.of_mem_zip hy).1).imp id fun q => ⟨q, PySem.W.cellsFrom_some _ _ _ (.inl q)⟩
  · subst he
    refine ⟨noLim.keeps ic.toInCall.keep, codeAny_func ?_⟩
    obtain ⟨t, ht, qt⟩ := body cdv outer s H vs Q E (room.deeper _) hsp
    have I0 := inv_start (CX := CX0) (E := E) (cd := cdv) S room.hd e0 (len _ _ _ _ hsp) rl ic
    refine wpAny_mono (ht.nox.run [] s1 (start N vs) H _ I0 qt) (fun fl s2 g => ?_) fun e s2 g => g
    cases fl with
    | next => obtain ⟨σ2, H2, J, g⟩ := g; exact ⟨.non, H2, J.os, J.bare, J.base, J.hok, rfl, g⟩
    | ret u => obtain ⟨v, σ2, H2, J, rv, g⟩ := g; exact ⟨v, H2, J.os, J.bare, J.base, J.hok, rv, g⟩
    | brk => obtain ⟨_, _, _, g⟩ := g; exact False.elim g
    | cont => obtain ⟨_, _, _, g⟩ := g; exact False.elim g
/-- the law's def at its caller's place -/
theorem law_at {x qual : Str} {st : Stmt} {f : Addr} {fd : FuncData} {N : List Str} {k : Nat} {s0 : Stmt} {rest : List Stmt} {den : Ev → M DS Out} {A : Around} (F : Fun K x qual st f fd) (S : FnScope N ["script"] (defScope st)) (room : Room (k + 1) A) (hN : 2 ≤ N.length) (hb : defBody st = s0 :: rest)
    (h0 : ∀ (cdv : Value) (outer : List Env) (s : Shared) (H : Hp) (E : XK), Room k (A.deeper (PyProof.Rows.envOfC qual (defScope st) s.heap.objs.size f cdv)) →
      PS (cxOf CX0 P w K mg base N qual (defScope st) f cdv A outer s H E).nox s0 (tAsg (tCall (spState K) [] E0 (tCons (tVar 0) tNil)) (gName 1)))
    (hrest : ∀ (cdv : Value) (outer : List Env) (s : Shared) (H : Hp) (E : XK), Room k (A.deeper (PyProof.Rows.envOfC qual (defScope st) s.heap.objs.size f cdv)) →
      QSs (cxOf CX0 P w K mg base N qual (defScope st) f cdv A outer s H E).nox DK rest den)
    (ok : ∀ cells : List Int, cells ≠ [] → ∃ st', den (lawE N.length) (0, cells) = some (.rt (.bl true), st')) : RunAt P w K mg base A f fd ["script"] (spLaw K) := by
  refine run_at F S room (fun vs H Q E h => ?_) (fun cdv outer s H vs Q E hr h => ⟨_, by rw [hb]; exact pss_cons (h0 cdv outer s H E hr) (hrest cdv outer s H E hr), ?_⟩)
  · obtain ⟨a, ns, rfl, _⟩ := h
    rfl
  · obtain ⟨a, ns, rfl, hS, hl, q⟩ := h
    have h00 : (L2.start N [V.ref a])[0]? = some (some (.ref a)) := rfl
    refine ⟨_, h00, a, ns, rfl, hS, hl, fun p c cells H' sH np nc hpc hp hc hne => ?_⟩
    obtain ⟨st', e⟩ := ok cells hne
    exact ⟨_, _, _, _, _, _, _, _, st', law_W hN hpc hp hc, e, fun v ρ σ' F' H'' w' m r => by cases r; exact q H''⟩
end
/-- from an abstract heap that holds nothing but the script, or nothing -/
theorem call_from {P : Program} {w : World} {K : PySem.W.Frag} {mg mb : Str → Option Value} {fa a : Addr} {fd : FuncData} {x : Str} {sp : Sp} {s : Shared} {vs : List Value} {ns : List Int} (H : Hp)
    (KX : K.In s.heap) (G : s.heap.Ns mainGlobals mg) (B : s.heap.Ns builtinsNs mb) (BB : ∀ y : Str, y ≠ "__name__" → mb y = bootBuiltins y) (NL : s.heap.NoLimit) (g0 : s.gens = #[])
    (obj : s.heap.get? a = some { cls := .type "list", data := .seq vs.toArray }) (only : Only H) (hS : SqL K H a (ns.map V.int)) (hok : HOk P w H s.heap) (at_ : ∀ b, H b ≠ none → b = a) (own : H a ≠ none → K.lookup a = none)
    (run : ∀ base : Heap, K.In base → base.Ns mainGlobals mg → RunAt P w K mg base callerA fa fd [x] sp) (bind : ∀ (s : Shared) (u : Value), BindsTo s fd ⟨[u], []⟩ [(x, u)])
    (hsp : ∀ H : Hp, Only H → SqL K H a (ns.map V.int) → sp [.ref a] H (fun v _ => v = .bl true) E0) :
    codeAny (model P w) callerA (.call (.ref fa) ⟨[.ref a], []⟩) (fun r s' => r = .ok (.ret (.bool true)) ∧ OldK s.heap s'.heap ∧ s'.os = s.os ∧ AllBare s'.gens) s := by
  have isA : ∀ {b : Addr} {u : HO}, H b = some u → b = a := fun {b u} e => at_ b (by rw [e]; exact Option.some_ne_none _)
  have nsB : ∀ {b : Addr} {m : Str → Option Value}, s.heap.Ns b m → (hidT s.heap H).Ns b m := fun {b m} ⟨o, es, ep, e, d, r⟩ => by
    refine ⟨o, es, ep, hidT_get e ?_, d, r⟩
    cases c : H b with
    | none => rfl
    | some u =>
      have e2 := isA c
      subst e2
      rw [obj] at e; cases e; cases d
  have kinB : K.In (hidT s.heap H) := fun b o e => by
    refine hidT_get (KX b o e) ?_
    cases c : H b with
    | none => rfl
    | some u =>
      have e2 := isA c
      subst e2
      rw [own (by rw [c]; exact Option.some_ne_none _)] at e; cases e
  obtain ⟨mc, l1, l2⟩ := NL
  have env : Env0 P w K mg (hidT s.heap H) callerA [] s H :=
    ⟨rfl, ⟨kinB, nsB G, ⟨mb, nsB B, BB⟩, ⟨mc, nsB l1, l2⟩⟩, fun b o e => of_hidT e, Nat.le_of_eq (hidT_size _ _), trivial, fun b hb => absurd hb List.not_mem_nil, hok, .of_eq g0⟩
  refine codeAny_mono (run _ kinB (nsB G) [] s H _ [.ref a] [.ref a] _ _ env (bind s _) (.cons rfl .nil) (hsp H only hS)) fun r s' h => ?_
  match r, h with
  | .error e, h => exact h.elim
  | .ok .next, h => exact h.elim
  | .ok .brk, h => exact h.elim
  | .ok .cont, h => exact h.elim
  | .ok (.ret u), h =>
    obtain ⟨v, H', os, bare, un, hok', rv, qv⟩ := h
    have qv : v = .bl true := qv
    subst qv
    have eu : u = Value.bool true := rv
    subst eu
    refine ⟨rfl, OldK.of_keep fun b o e => ?_, os, bare⟩
    cases c : H b with
    | none => exact un.keep b o e c List.not_mem_nil List.not_mem_nil
    | some u =>
      rcases only b with z | ⟨ob, xs, z⟩
      · rw [c] at z; cases z
      · obtain ⟨e1, _⟩ := hok b _ z
        obtain ⟨e2, _⟩ := hok' b _ (un.frzs b ob _ z)
        rw [e] at e1; cases e1
        exact e2
theorem call_law {P : Program} {w : World} {K : PySem.W.Frag} {mg mb : Str → Option Value} {fa a : Addr} {fd : FuncData} {x : Str} {sp : Sp} {s : Shared} {vs : List Value} {ns : List Int}
    (KX : K.In s.heap) (G : s.heap.Ns mainGlobals mg) (B : s.heap.Ns builtinsNs mb) (BB : ∀ y : Str, y ≠ "__name__" → mb y = bootBuiltins y) (NL : s.heap.NoLimit) (g0 : s.gens = #[])
    (obj : s.heap.get? a = some { cls := .type "list", data := .seq vs.toArray }) (itz : IntsAre vs ns) (few : ns.length ≤ sizeLine)
    (run : ∀ base : Heap, K.In base → base.Ns mainGlobals mg → RunAt P w K mg base callerA fa fd [x] sp) (bind : ∀ (s : Shared) (u : Value), BindsTo s fd ⟨[u], []⟩ [(x, u)])
    (hsp : ∀ H : Hp, Only H → SqL K H a (ns.map V.int) → sp [.ref a] H (fun v _ => v = .bl true) E0) :
    codeAny (model P w) callerA (.call (.ref fa) ⟨[.ref a], []⟩) (fun r s' => r = .ok (.ret (.bool true)) ∧ OldK s.heap s'.heap ∧ s'.os = s.os ∧ AllBare s'.gens) s := by
  have rv := vals_ints itz
  cases hk : K.lookup a with
  | some o =>
    have e := KX a o hk
    rw [obj] at e
    cases e
    exact call_from (fun _ => none) KX G B BB NL g0 obj (fun _ => .inl rfl) (.inr ⟨_, vs.toArray, _, hk, rfl, rfl, rfl, by rw [List.size_toArray, itz.length]; exact few, rv⟩) (fun b u z => nomatch z) (fun b z => absurd rfl z) (fun z => absurd rfl z) run bind hsp
  | none =>
    let Ha : Hp := fun b => if b = a then some (.frz { cls := .type "list", data := .seq vs.toArray } (.lst (ns.map V.int))) else none
    have yes : Ha a = some (.frz { cls := .type "list", data := .seq vs.toArray } (.lst (ns.map V.int))) := if_pos rfl
    have no : ∀ b, b ≠ a → Ha b = none := fun b h => if_neg h
    have dec : ∀ b, b = a ∨ b ≠ a := fun b => Decidable.em _
    refine call_from Ha KX G B BB NL g0 obj (fun b => ?_) (.inl (.inr ⟨_, yes⟩)) (fun b u z => ?_) (fun b z => ?_) (fun _ => hk) run bind hsp
    · rcases dec b with rfl | h
      · exact .inr ⟨_, _, yes⟩
      · exact .inl (no b h)
    · rcases dec b with rfl | h
      · rw [yes] at z; cases z
        exact ⟨obj, by rw [List.length_map]; exact few, vs, _, rv, obj⟩
      · rw [no b h] at z; cases z
    · rcases dec b with rfl | h
      · rfl
      · exact absurd (no b h) z
/-- the goal that the head leaves -/
theorem walk_at {l : PySem.W.OpenLaw} {n : Nat} {q : Program} {loose : List Str} {XP : (Str → Option Value) → Heap → Prop} {YP : World → Heap → Prop} {d : DefRec} {K : Params → PySem.W.Frag} {sp : World → Sp} {x : Str}
    (hn : l.most = some n) (hn2 : n ≤ sizeLine) (hdf : d.params.defaults = []) (hY : ∀ (w : World) (h : Heap), YP w h → (K w.params).In h)
    (F : ∀ (w : World) (mg : Str → Option Value) (fa : Addr) (h : Heap), (K w.params).In h → h.Ns mainGlobals mg → mg d.name = some (.ref fa) →
      ∃ fd : FuncData, (∀ (s : Shared) (u : Value), BindsTo s fd ⟨[u], []⟩ [(x, u)]) ∧ ∀ base : Heap, (K w.params).In base → base.Ns mainGlobals mg → RunAt l.prog w (K w.params) mg base callerA fa fd [x] (sp w))
    (hsp : ∀ (w : World) (H : Hp) (a : Addr) (ns : List Int), ns.length ≤ n → Only H → SqL (K w.params) H a (ns.map V.int) → sp w [.ref a] H (fun v _ => v = .bl true) E0) :
    PySem.W.WalkO q loose XP YP l.row.toRowW d [] (fun f vs => PySem.call f vs) := by
  refine Att.attach_call hn hdf fun w s₀ s₁ mg mb fa o pm cd doc a vs ns G Y _ _ _ hmg obj itz hlen hg => ?_
  obtain ⟨fd, hb, hF⟩ := F w mg fa _ (hY w _ Y) G.T.g hmg
  exact call_law (hY w _ Y) G.T.g G.T.b G.T.builtins G.T.nolimit hg obj itz (Nat.le_trans hlen hn2) hF hb fun H hO hS => hsp w H a ns hlen hO hS
/-- a def that is not called: no value -/
theorem fn_none {P : Program} {w : World} {K : PySem.W.Frag} {mg : Str → Option Value} {base : Heap} {CX : CXT} {k : Nat} {f : Addr} {fd : FuncData} {ps : List Str} {R : RK} {n : Nat} : FnOk P w K mg base CX k f fd ps (spF R n fun _ _ => none) :=
  ⟨fun vs H Q E h => (by obtain ⟨_, _, _, _, _, _, _, _, _, _, _, z, _⟩ := h; cases z), fun A outer s H args us vs Q E _ _ _ _ h => by obtain ⟨_, _, _, _, _, _, _, _, _, _, _, z, _⟩ := h; cases z⟩
end QL
end
section
set_option Elab.async false
set_option linter.all false
set_option maxRecDepth 100000
set_option maxHeartbeats 4000000
/-! QL: set(xs) of a list of ints, as the sets of ints of the hand layer; sorted(set(xs)). -/
namespace QL
open PySem PySem.Spec L2 PyProof.Rows

/-- the set as it is made -/
abbrev nuS (w : World) : Obj := { cls := .type "set", dict := none, data := .set #[] 0 (.fresh 0 0 (!w.params.followText "set-order")) }
abbrev nuH (w : World) (s : Shared) : Heap := s.heap.push (nuS w)
section
variable {P : Program} {w : World} {A : Around} {E : Value → Shared → Prop} {s : Shared}
set_option maxRecDepth 100000 in
set_option maxHeartbeats 8000000 in
theorem setOf_list {p : Addr} {xs : Array Value} (ks : List Int) {Q : Value → Shared → Prop} (calm : A.handled = none) (lp : s.heap.IsList p xs) (ix : IntsAre xs.toList ks) (few : ks.length + 1 < scanBound)
    (fin : ∀ (g : Heap) (k m : Nat), SetR w g s.heap.objs.size (fun z => decide (z ∈ ks)) m → m ≤ ks.length → (∀ b o, s.heap.get? b = some o → g.get? b = some o) → Q (.ref s.heap.objs.size) { s with heap := g, toks := k }) :
    wpAny (model P w) A (call (.type "set") [.ref p]) Q E s := by
  have lenx : xs.size = ks.length := by
    rw [← IntsAre.length ix, Array.length_toList]
  obtain ⟨c0, t0, mro⟩ := PySem.F.called_set.mro
  have made := PySem.F.called_set.made
  have sub0 := PySem.F.called_set.sub
  refine wpAny_call (codeAny_of_tree ?_)
  show wpAny _ _ (callAny (.type "set") _) _ _ _
  refine wpAny_pure ⟨Code.quiet_builtin _ (by decide +kernel), codeAny_builtin PySem.F.entry_type_call ?_⟩
  rw [Around.under_plain (weight_type_call_type "set" [.ref p] []) rfl]
  have u1 := PySem.F.called_set.notType
  have u2 := PySem.F.called_set.canCreate
  have u3 := PySem.F.typeCall_set_1 (.ref p)
  repeat (any_goals (first | assumption | wp_step))
  refine codeAny_mono (L2.code_set_led1 (.ref p) (E := E) (Q₁ := fun x y => x = .ref s.heap.objs.size ∧ y = { s with heap := nuH w s }) ⟨rfl, rfl⟩) fun r s1 hr => ?_
  rcases r with e | fl
  · exact hr
  rcases fl with _ | _ | _ | v
  all_goals first | exact hr.elim | skip
  obtain ⟨rfl, rfl⟩ := hr
  have atS : (nuH w s).get? s.heap.objs.size = some (nuS w) := Heap.get?_push_size _ rfl
  have tyS : Shared.TypeIs { s with heap := nuH w s } (.ref s.heap.objs.size) "set" := ⟨_, atS, rfl⟩
  have look := PySem.F.called_set.init.lookup
  have bnd := PySem.F.called_set.init.bind (.ref s.heap.objs.size)
  repeat (any_goals (first | assumption | wp_step))
  refine codeAny_mono (codeAny_call_builtin (R := wants (fun r s2 => r = .none ∧ ∃ g k m, s2 = { s with heap := g, toks := k } ∧ SetR w g s.heap.objs.size (fun z => decide (z ∈ ks)) m ∧ m ≤ ks.length ∧
      ∀ b o, s.heap.get? b = some o → g.get? b = some o) E) PySem.F.called_set.init.plain PySem.F.entry_set_init (check_set_init_1 tyS ?_)) fun r2 s2 g2 => ?_
  · obtain ⟨⟨oc, od, oda, osl⟩, ho, hcl, nl, hdl⟩ := lp
    simp only at hcl hdl
    subst hcl hdl
    have at2 : (nuH w s).get? p = some { cls := .type "list", dict := od, data := .seq xs nl, slots := osl } := Heap.get?_push_of_some _ ho
    have isl : (nuH w s).IsList p xs := ⟨_, at2, rfl, nl, rfl⟩
    have n1 := PySem.F.sub_list_set
    have n2 := PySem.F.sub_list_frozenset
    have n3 : (Value.type "list" == Value.type "dict") = false := by decide
    unfold Builtin.«set.__init__» noKeywords Builtin.Frozenset.updateFrom
    generalize eIt : pyIter = It
    wp_walk
    subst eIt
    refine wpAny_pyIter_list isl ?_
    refine wpAny_bind (wpAny_runValue ?_)
    have lt0 : p < s.heap.objs.size := Heap.lt_size ho
    have sz1 : (nuH w s).objs.size = s.heap.objs.size + 1 := Heap.size_push ..
    have calm3 : A.in1.in1.in1.handled = none := by simp [calm]
    have apart : p ≠ (nuH w s).objs.size := by rw [sz1]; exact Nat.ne_of_lt (Nat.lt_succ_of_lt lt0)
    have notIn : s.heap.objs.size ∉ [(nuH w s).objs.size, p] := by
      rw [sz1]
      intro z
      rcases List.mem_cons.mp z with z | z
      · exact Nat.ne_of_lt (Nat.lt_succ_self _) z
      · exact Nat.ne_of_gt lt0 (List.mem_singleton.mp z)
    have val : ∀ (i : Nat) (v : Value), xs[i]? = some v → ∃ k t, ks[i]? = some k ∧ v = .int k t := fun i v hv => by
      have hi : i < ks.length := by rw [← lenx]; exact (Array.getElem?_eq_some_iff.mp hv).1
      obtain ⟨t, e⟩ := IntsAre.int_at ix i v (by rw [Array.getElem?_toList]; exact hv)
      exact ⟨ks[i], t, List.getElem?_eq_getElem hi, by rw [e, List.getD_eq_getElem?_getD, List.getElem?_eq_getElem hi]; rfl⟩
    refine L2.set_update_ints ((Walks.list calm3 _ p apart xs).toS) s.heap.objs.size notIn ks lenx few val (xs.size - 0) 0 _ (by omega) (Nat.zero_le _) ⟨⟨_, Heap.get?_push_size _ rfl, rfl, rfl⟩, isl.push _⟩ ⟨0, Nat.le_refl 0, L2.setR_new_at (Heap.get?_push_of_some _ atS)⟩ fun s' m mv hm hS => ?_
    obtain ⟨g, gens, drawn, k, os⟩ := s'
    obtain rfl : gens = s.gens := mv.gens
    obtain rfl : drawn = s.drawn := mv.drawn
    obtain rfl : os = s.os := mv.os
    show wpAny _ _ _ _ _ _
    refine wpAny_pure ?_
    show wpAny _ _ (ret Value.none) _ _ _
    refine wpAny_pure ⟨rfl, g, k, m, rfl, hS, by rw [← lenx]; exact hm, fun b o e => ?_⟩
    have lb : b < s.heap.objs.size := Heap.lt_size e
    refine mv.heap b o (fun z => ?_) (Heap.get?_push_of_some _ (Heap.get?_push_of_some _ e))
    rcases List.mem_cons.mp z with z | z
    · exact Nat.ne_of_lt lb z
    · rw [List.mem_singleton, sz1] at z
      exact Nat.ne_of_lt (Nat.lt_succ_of_lt lb) z
  · rcases r2 with e | fl
    · exact g2
    rcases fl with _ | _ | _ | v
    all_goals first | exact g2.elim | skip
    obtain ⟨rfl, g, k, m, rfl, hS, hm, keep⟩ := g2
    repeat (any_goals (first | assumption | wp_step))
    exact fin _ _ _ hS hm keep
end
/-! sorted, without doubles -/
def insU (x : Int) : List Int → List Int
  | [] => [x]
  | y :: ys => if x < y then x :: y :: ys else if x = y then y :: ys else y :: insU x ys
def uniqI (ns : List Int) : List Int := ns.foldr insU []
theorem mem_insU {x a : Int} : ∀ {ys : List Int}, a ∈ insU x ys ↔ a = x ∨ a ∈ ys
  | [] => by simp [insU]
  | y :: ys => by
    unfold insU
    split
    · simp
    · split
      · rename_i h; subst h; simp
      · rw [List.mem_cons, mem_insU, List.mem_cons]
        constructor
        · rintro (h | h | h)
          · exact .inr (.inl h)
          · exact .inl h
          · exact .inr (.inr h)
        · rintro (h | h | h)
          · exact .inr (.inl h)
          · exact .inl h
          · exact .inr (.inr h)
theorem pw_insU {x : Int} : ∀ {ys : List Int}, ys.Pairwise (· < ·) → (insU x ys).Pairwise (· < ·)
  | [], _ => by simp [insU]
  | y :: ys, h => by
    obtain ⟨h1, h2⟩ := List.pairwise_cons.mp h
    unfold insU
    split
    · rename_i c
      refine List.pairwise_cons.mpr ⟨fun z hz => ?_, h⟩
      rcases List.mem_cons.mp hz with rfl | hz
      · exact c
      · have := h1 z hz; omega
    · split
      · exact h
      · refine List.pairwise_cons.mpr ⟨fun z hz => ?_, pw_insU h2⟩
        rcases mem_insU.mp hz with rfl | hz
        · omega
        · exact h1 z hz
theorem mem_uniqI {a : Int} : ∀ {ns : List Int}, a ∈ uniqI ns ↔ a ∈ ns
  | [] => by simp [uniqI]
  | n :: ns => by
    show a ∈ insU n (uniqI ns) ↔ _
    rw [mem_insU, mem_uniqI, List.mem_cons]
theorem pw_uniqI : ∀ (ns : List Int), (uniqI ns).Pairwise (· < ·)
  | [] => .nil
  | n :: ns => pw_insU (pw_uniqI ns)
theorem uniq_eq {xs ys : List Int} (hx : xs.Pairwise (· < ·)) (hy : ys.Pairwise (· < ·)) (h : ∀ a, a ∈ xs ↔ a ∈ ys) : xs = ys := by
  refine List.Perm.eq_of_pairwise (le := (· < ·)) (fun a b _ _ h1 h2 => by omega) hx hy ?_
  exact (List.perm_ext_iff_of_nodup (hx.imp fun h => Int.ne_of_lt h) (hy.imp fun h => Int.ne_of_lt h)).mpr h
section
variable {X : Cx} {R : RK} {S : Type}
def rSetI (X : Cx) : List V → Hp → VK → Prop := fun xs H Q => ∃ (l : Addr) (ns : List Int), xs = [.ref l] ∧ SqL X.K H l (ns.map V.int) ∧ ns.length + 1 < scanBound ∧ ∀ a m, H a = none → m = (uniqI ns).length → Q (.ref a) (upd H a (SetO X.w a (fun z => decide (z ∈ ns)) m))
theorem setR_len {w : World} {h : Heap} {a : Addr} {ns : List Int} {m : Nat} (r : SetR w h a (fun z => decide (z ∈ ns)) m) : m = (uniqI ns).length := by
  obtain ⟨o, es, ep, t, _, _, _, _, nd, hm, _, _, hn, _⟩ := r
  have p : (es.toList.map keyOf).Perm (uniqI ns) := (List.perm_ext_iff_of_nodup nd ((pw_uniqI ns).imp fun h => Int.ne_of_lt h)).mpr fun k => by
    rw [← hm k, decide_eq_true_iff, mem_uniqI]
  rw [← p.length_eq, List.length_map, Array.length_toList, hn]
theorem c_setI (hc : X.calm = true) : CallR X (.type "set") (rSetI X) := by
  intro pins s σ H xs us Q I r h
  obtain ⟨l, ns, rfl, hl, hf, q⟩ := h
  rw [Vals.ref1 r]
  obtain ⟨its, rv, pl, hz⟩ := I.list hl
  have hn : H s.heap.objs.size = none := I.hok.fresh (Nat.le_refl _)
  refine setOf_list (P := X.prog) (w := X.w) ns (I.ok.hd hc) pl.isList (by simpa using ints_of_vals rv) hf fun g k m hS hm keep => ?_
  exact ⟨.ref s.heap.objs.size, _, I.laid (t' := k) keep (Nat.le_refl _) (setO_new hS), rfl, q _ m hn (setR_len hS)⟩
def sortSetD : List D → Option (List D)
  | [d] => match strip d with
    | .lst es => match asInts es with
      | some ns => if ns.length ≤ 4000 ∧ (uniqI ns).length < 64 then some ((uniqI ns).map .int) else none
      | none => none
    | _ => none
  | _ => none
/-- sorted(set(e)) -/
theorem qn_sortSet {e : Expr} {p pos p2 pos2 : Pos} {f : Ev → M R.S (List D)} (hc : X.calm = true) (hg : Gl X "sorted") (hm : X.mg "sorted" = none) (hg2 : Gl X "set") (hm2 : X.mg "set" = none) (ha : QA X R [e] f)
    (he : starEach [e] X.env = (false, eval e X.env) :: starEach [] X.env := by rfl) (hpl : (backTo pos2 (starEach [] X.env)).any (·.1) = false := by rfl)
    (he2 : starEach [.Call (.Name "set" p2) [e] [] pos2] X.env = (false, eval (.Call (.Name "set" p2) [e] [] pos2) X.env) :: starEach [] X.env := by rfl) (hpl2 : (backTo pos (starEach [] X.env)).any (·.1) = false := by rfl) :
    QN X R (.Call (.Name "sorted" p) [.Call (.Name "set" p2) [e] [] pos2] [] pos) (dBN sortSetD f) :=
  imp_e (pe_callB (cr_sortedSet hc) hg hm (by decide +kernel) (pa_cons (pe_callTy (c_setI hc) hg2 hm2 (by decide +kernel) ha (he := he) (hpl := hpl)) pa_nil he2) (he := he2) (hpl := hpl2)) fun σ H Q ⟨hs, Z, H0, F0, ρ, st, F, d, st', w, e, q⟩ => by
    obtain ⟨ds, s1, e1, e2⟩ := mb_some e
    obtain ⟨e3, rfl⟩ := ml_some e2
    refine ⟨hs, Z, H0, F0, ρ, st, F, ds, _, w, e1, fun vs F1 H1 w1 m1 r1 => ?_⟩
    match ds, e3 with
    | [d'], e3 =>
      obtain ⟨v, rfl, rv⟩ := r1.one
      have e3 : (match strip d' with
        | .lst es => match asInts es with
          | some ns => if ns.length ≤ 4000 ∧ (uniqI ns).length < 64 then some ((uniqI ns).map .int) else none
          | none => none
        | _ => none) = some d := e3
      cases c : strip d' with
      | lst es =>
        rw [c] at e3
        dsimp only at e3
        cases c2 : asInts es with
        | some ns =>
          rw [c2] at e3
          obtain ⟨⟨b1, b2⟩, rfl⟩ := ite_some e3
          obtain ⟨a, xs, rfl, ea, rl⟩ := rv.lst w1 c
          rw [asInts_eq c2] at rl
          have ex := rpl_ints rl
          subst ex
          refine ⟨a, ns, rfl, SqL.of ea, Nat.lt_of_le_of_lt (Nat.succ_le_succ b1) (by decide), fun t m nt hm' => ?_⟩
          refine ⟨t, _, m, rfl, upd_same, by omega, fun ns' p hp hmem hlen np => ?_⟩
          have e4 : ns' = uniqI ns := uniq_eq hp (pw_uniqI ns) fun z => by rw [hmem z, decide_eq_true_iff, mem_uniqI]
          rw [e4]
          exact q p _ F1 _ (w1.lay nt _) m1 np (of_ints _)
        | none => rw [c2] at e3; cases e3
      | _ => rw [c] at e3; cases e3
end
end QL
end
section
set_option Elab.async false
set_option linter.all false
set_option maxRecDepth 100000
set_option maxHeartbeats 4000000
/-! QL: xs.index(x), xs[::-1], tuple(xs), range(a, b, c). -/
namespace QL
open PySem PySem.Spec L2

section
variable {X : Cx} {R : RK} {S : Type}
/-! xs.index(x) -/
def idxO (d e : D) : Option D := match strip d with
  | .lst es => if fitD DEP (.lst es) = true ∧ fitD DEP (strip e) = true then ((es.map (dat (DEP - 1))).findIdx? fun z => PyData.eqv z (dat DEP (strip e))).map fun (j : Nat) => D.int (j : Int) else none
  | _ => none
def dIdx (f g : Ev → M S D) : Ev → M S D := fun ρ => mb (f ρ) fun d => mb (g ρ) fun e => ml (idxO d e)
theorem qe_index {x e : Expr} {apos pos : Pos} {f g : Ev → M R.S D} (hu : X.A.units + 65 < cLine) (hx : QE X R x f) (he : QE X R e g)
    (h : ∀ {t : TA}, PA X [e] t → PE X (.Call (.Attribute x "index" apos) [e] [] pos) (tBM X.K "list" (rIndexD X.K) (tq R f) t)) (hst : starEach [e] X.env = (false, eval e X.env) :: starEach [] X.env := by rfl) :
    QE X R (.Call (.Attribute x "index" apos) [e] [] pos) (dIdx f g) := imp_e (h (pa_cons he pa_nil hst)) fun σ H Q ⟨hs, Z, H0, F0, ρ, st, F, out, st', w, e, q⟩ => by
  obtain ⟨d, s1, e1, e2⟩ := mb_some e
  obtain ⟨e', s2, e3, e4⟩ := mb_some e2
  obtain ⟨e5, rfl⟩ := ml_some e4
  refine ⟨hs, Z, H0, F0, ρ, st, F, d, s1, w, e1, fun v F1 H1 w1 m1 r1 => ?_⟩
  unfold idxO at e5
  cases c : strip d with
  | lst es =>
    rw [c] at e5
    dsimp only at e5
    by_cases cc : fitD DEP (.lst es) = true ∧ fitD DEP (strip e') = true
    · rw [if_pos cc] at e5
      obtain ⟨j, hj, rfl⟩ := map_some' e5
      obtain ⟨a, xs, rfl, ea, rl⟩ := r1.lst w1 c
      refine ⟨.inl ⟨rfl, xs, SqL.of ea⟩, hs, Z, H0, F0, ρ, s1, F1, e', _, w1, e3, fun u F2 H2 w2 m2 r2 => ?_⟩
      have vw := (r1.mono m2).vw w2
      rw [c] at vw
      obtain ⟨hlt, hp, hno⟩ := List.findIdx?_eq_some_iff_getElem.mp hj
      refine ⟨a, u, dat DEP (strip e'), es.map (dat (DEP - 1)), j, _, rfl, rfl, dp_of DEP (.lst es) _ vw cc.1, dp_of _ _ _ (r2.vw w2) cc.2, shaped_of (d := .lst es) cc.1, shaped_of cc.2, List.getElem?_eq_getElem hlt, hp, fun m z hm hz => ?_, q _ F2 H2 w2 (m1.trans m2) (.inl (.int _))⟩
      obtain ⟨hml, rfl⟩ := List.getElem?_eq_some_iff.mp hz
      have := hno m hm
      simpa using this
    · rw [if_neg cc] at e5; cases e5
  | _ => rw [c] at e5; cases e5
/-! xs[::-1] -/
def revO (d : D) : Option (List D) := match strip d with
  | .lst es => some es.reverse
  | _ => none
def dRev (f : Ev → M S D) : Ev → M S (List D) := fun ρ => mb (f ρ) fun d => ml (revO d)
theorem RpL.rev {hs : Hs} {F : Hp} : ∀ {vs : List V} {ds : List D}, RpL hs F vs ds → RpL hs F vs.reverse ds.reverse
  | _, _, .nil => .nil
  | _, _, .cons r t => by rw [List.reverse_cons, List.reverse_cons]; exact (RpL.rev t).append (.cons r .nil)
theorem qn_rev {e : Expr} {k : Nat} {p1 p2 p3 pos : Pos} {f : Ev → M R.S D} (he : QE X R e f) : QN X R (.Subscript e (.Slice none none (some (.UnaryOp .USub (.Constant (.int 1) k p1) p2)) p3) pos) (dRev f) :=
  imp_e (pe_revL he) fun σ H Q ⟨hs, Z, H0, F0, ρ, st, F, out, st', w, e, q⟩ => by
    obtain ⟨d, s1, e1, e2⟩ := mb_some e
    obtain ⟨e5, rfl⟩ := ml_some e2
    refine ⟨hs, Z, H0, F0, ρ, st, F, d, _, w, e1, fun v F1 H1 w1 m1 r1 => ?_⟩
    unfold revO at e5
    cases c : strip d with
    | lst es =>
      rw [c] at e5; cases e5
      obtain ⟨a, xs, rfl, ea, rl⟩ := r1.lst w1 c
      exact ⟨a, xs, rfl, SqL.of ea, fun p np => q p _ F1 H1 w1 m1 np rl.rev⟩
    | _ => rw [c] at e5; cases e5
/-! tuple(xs) -/
def tupleD : List D → Option D
  | [d] => match strip d with
    | .lst es => some (.tup es)
    | .tup es => some (.tup es)
    | _ => none
  | _ => none
theorem q_tuple : CQ R (fun xs H Q => ∃ p ys, xs = [.ref p] ∧ ((SqL X.K H p ys ∧ ∀ l, H l = none → Q (.ref l) (upd H l (.tup ys))) ∨ (SqT X.K H p ys ∧ Q (.ref p) H))) tupleD := by
  rintro vs H Q ⟨hs, Z, H0, F0, ρ, st, σ, F, ds, z, w, r, e, q⟩
  match ds, e with
  | [d], e =>
    obtain ⟨v, rfl, rv⟩ := r.one
    have e : (match strip d with
      | .lst es => some (D.tup es)
      | .tup es => some (.tup es)
      | _ => none) = some z := e
    cases c : strip d with
    | lst es =>
      rw [c] at e; cases e
      obtain ⟨a, xs, rfl, ea, rl⟩ := rv.lst w c
      refine ⟨a, xs, rfl, .inl ⟨SqL.of ea, fun p np => ?_⟩⟩
      have m := same_alloc w np (.tup xs)
      exact q _ _ _ (w.alloc np _) m (.tup upd_same (rl.mono m))
    | tup es =>
      rw [c] at e; cases e
      obtain ⟨a, xs, rfl, ea, rl⟩ := rv.tup w c
      exact ⟨a, xs, rfl, .inr ⟨SqT.of (w.FH _ _ ea), q _ F H w (Same.refl _) (.tup ea rl)⟩⟩
    | _ => rw [c] at e; cases e
/-! range(a, b, c) -/
def rngC (lo c : Int) (n : Nat) : List D := (List.range n).map fun (i : Nat) => D.int (lo + (i : Int) * c)
def rng3 : List D → Option (List D)
  | [.int i, .int j, .int c] => if c ≠ 0 ∧ c.natAbs < 1073741824 ∧ Builtin.Range.small i j c = true ∧ 0 ≤ Builtin.Range.rangeSize i j c then some (rngC i c (Builtin.Range.rangeSize i j c).toNat) else none
  | _ => none
theorem RpEL.int3 {hs : Hs} {ρ : Ev} {σ : L2.St} {F : Hp} {vs : List V} {i j k : Int} (r : RpEL hs ρ σ F vs [.int i, .int j, .int k]) : vs = [.int i, .int j, .int k] := by
  match vs, r with
  | [a, b, c], ⟨r1, r2, r3, _⟩ => rw [r1.int, r2.int, r3.int]
theorem itok_c {hs : Hs} {Z : Addr → Prop} {H0 F0 F : Hp} (lo c : Int) (n : Nat) : ItOk R hs Z H0 F0 F (rngC lo c n) (Itc lo c n) := fun i ρ2 st2 σ2 F2 H2 w2 m2 => by
  refine ⟨fun h => ?_, fun d hd => ?_⟩
  · show n ≤ i
    simpa [rngC] using h
  · unfold rngC at hd
    rw [List.getElem?_map] at hd
    obtain ⟨k, hk, rfl⟩ := map_some' hd
    obtain ⟨h1, h2⟩ := List.getElem?_eq_some_iff.mp hk
    rw [List.getElem_range] at h2
    subst h2
    rw [List.length_range] at h1
    refine ⟨h1, fun x H3 hy => ?_⟩
    obtain ⟨rfl, rfl⟩ := hy
    exact ⟨F2, w2, Same.refl _, .int _, fun _ _ e => e⟩
theorem rng3_down {i j : Int} (h1 : -1000000000000 ≤ i) (h2 : i ≤ 1000000000000) (h3 : -1000000000000 ≤ j) (h4 : j ≤ 1000000000000) : rng3 [.int i, .int j, .int (-1)] = some (rngC i (-1) (i - j).toNat) := by
  obtain ⟨a, b, c, d⟩ := RgC.neg (i := i) (j := j) (by omega) (by omega) (by omega) (by omega)
  show (if (-1 : Int) ≠ 0 ∧ (-1 : Int).natAbs < 1073741824 ∧ Builtin.Range.small i j (-1) = true ∧ 0 ≤ Builtin.Range.rangeSize i j (-1) then some (rngC i (-1) (Builtin.Range.rangeSize i j (-1)).toNat) else none) = _
  rw [if_pos ⟨a, b, c, by rw [d]; omega⟩, d, Int.toNat_natCast]
theorem qi_rng3 {tg a b c : Expr} {p pos : Pos} {f : Ev → M R.S (List D)} (hg : Gl X "range") (hm : X.mg "range" = none) (ha : QA X R [a, b, c] f)
    (h : ∀ {ta : TA}, PA X [a, b, c] ta → PI X tg (.Call (.Name "range" p) [a, b, c] [] pos) (iRng3 ta)) : QI X R tg (.Call (.Name "range" p) [a, b, c] [] pos) (dIR rng3 f) :=
  imp_i (h ha) fun σ H G ⟨hs, Z, H0, F0, ρ, st, F, ds, st', w, e, q⟩ => by
    obtain ⟨as, s1, e1, e2⟩ := mb_some e
    obtain ⟨e3, rfl⟩ := ml_some e2
    refine ⟨hs, Z, H0, F0, ρ, st, F, as, _, w, e1, fun vs F1 H1 w1 m1 r1 => ?_⟩
    unfold rng3 at e3
    split at e3
    · rename_i i j c
      obtain ⟨⟨c1, c2, c3, c4⟩, rfl⟩ := ite_some e3
      exact ⟨i, j, c, _, r1.int3, ⟨c1, c2, c3, (Int.toNat_of_nonneg c4).symm⟩, q _ F1 H1 w1 m1 fun _ _ _ => itok_c i c _⟩
    · cases e3
/-! a, b, c = e1, e2, e3 where new lists are owned -/
def Ev3 (R : RK) (i j l : Nat) (ta : TA) (den : Ev → M R.S Out) : Prop := ∀ {hs : Hs} {Z : Addr → Prop} {H0 F0 : Hp} {ρ : Ev} {st st' : R.S} {σ : L2.St} {F H : Hp} {o : Out} {Q : List V → Hp → Prop}, W R hs Z H0 F0 ρ st σ F H → den ρ st = some (o, st') →
  (∀ u v x ρ' F2 H2, o = .nx ρ' → W R hs Z H0 F0 ρ' st' (((σ.set i (some u)).set j (some v)).set l (some x)) F2 H2 → Same F F2 → Q [u, v, x] H2) → ta σ H Q
def dNEN (i j l : Nat) (f : Ev → M S (List D)) (g : Ev → M S D) (h : Ev → M S (List D)) : Ev → M S Out := fun ρ => mb (f ρ) fun ds => mb (g ρ) fun e => mb (h ρ) fun es => ml (if plain e = true then some (.nx (((ρ.set i (.own (.lst ds))).set j (.val e)).set l (.own (.lst es)))) else none)
def dEEN (i j l : Nat) (f g : Ev → M S D) (h : Ev → M S (List D)) : Ev → M S Out := fun ρ => mb (f ρ) fun d => mb (g ρ) fun e => mb (h ρ) fun es => ml (if plain d = true ∧ plain e = true then some (.nx (((ρ.set i (.val d)).set j (.val e)).set l (.own (.lst es)))) else none)
def dENE (i j l : Nat) (f : Ev → M S D) (h : Ev → M S (List D)) (g : Ev → M S D) : Ev → M S Out := fun ρ => mb (f ρ) fun d => mb (h ρ) fun es => mb (g ρ) fun e => ml (if plain d = true ∧ plain e = true then some (.nx (((ρ.set i (.val d)).set j (.own (.lst es))).set l (.val e))) else none)
theorem ev_NEN {i j l : Nat} {f : Ev → M R.S (List D)} {g : Ev → M R.S D} {h : Ev → M R.S (List D)} : Ev3 R i j l (tCons (tqN R f) (tCons (tq R g) (tCons (tqN R h) tNil))) (dNEN i j l f g h) := by
  intro hs Z H0 F0 ρ st st' σ F H o Q w e k
  obtain ⟨ds, s1, e1, e⟩ := mb_some e
  obtain ⟨d, s2, e2, e⟩ := mb_some e
  obtain ⟨es, s3, e3, e⟩ := mb_some e
  obtain ⟨e4, rfl⟩ := ml_some e
  obtain ⟨pl, rfl⟩ := ite_some e4
  refine ⟨hs, Z, H0, F0, ρ, st, F, ds, s1, w, e1, fun p vs F1 H1 w1 m1 np r1 => ?_⟩
  refine ⟨hs, _, _, F0, ρ, s1, F1, d, s2, w1.hold np (.lst vs), e2, fun v F2 H2 w2 m2 r2 => ?_⟩
  refine ⟨hs, _, _, F0, ρ, s2, F2, es, _, w2, e3, fun p2 vs2 F3 H3 w3 m3 np2 r3 => ?_⟩
  obtain ⟨w4, g1, g2, g3, g4, g5⟩ := W.free w1 np w3
  exact k _ _ _ _ F3 _ rfl (((w4.adopt g1 g2 g3 g4 g5.1 g5.2 (r1.mono (m2.trans m3)) i).setV ((r2.pl pl).mono m3) j).setO np2 r3 l) ((m1.trans m2).trans m3)
theorem ev_EEN {i j l : Nat} {f g : Ev → M R.S D} {h : Ev → M R.S (List D)} : Ev3 R i j l (tCons (tq R f) (tCons (tq R g) (tCons (tqN R h) tNil))) (dEEN i j l f g h) := by
  intro hs Z H0 F0 ρ st st' σ F H o Q w e k
  obtain ⟨d, s1, e1, e⟩ := mb_some e
  obtain ⟨d2, s2, e2, e⟩ := mb_some e
  obtain ⟨es, s3, e3, e⟩ := mb_some e
  obtain ⟨e4, rfl⟩ := ml_some e
  obtain ⟨⟨pl, pl2⟩, rfl⟩ := ite_some e4
  refine ⟨hs, Z, H0, F0, ρ, st, F, d, s1, w, e1, fun v F1 H1 w1 m1 r1 => ?_⟩
  refine ⟨hs, _, _, F0, ρ, s1, F1, d2, s2, w1, e2, fun u F2 H2 w2 m2 r2 => ?_⟩
  refine ⟨hs, _, _, F0, ρ, s2, F2, es, _, w2, e3, fun p2 vs2 F3 H3 w3 m3 np2 r3 => ?_⟩
  exact k _ _ _ _ F3 _ rfl (((w3.setV ((r1.pl pl).mono (m2.trans m3)) i).setV ((r2.pl pl2).mono m3) j).setO np2 r3 l) ((m1.trans m2).trans m3)
theorem ev_ENE {i j l : Nat} {f g : Ev → M R.S D} {h : Ev → M R.S (List D)} : Ev3 R i j l (tCons (tq R f) (tCons (tqN R h) (tCons (tq R g) tNil))) (dENE i j l f h g) := by
  intro hs Z H0 F0 ρ st st' σ F H o Q w e k
  obtain ⟨d, s1, e1, e⟩ := mb_some e
  obtain ⟨es, s2, e2, e⟩ := mb_some e
  obtain ⟨d2, s3, e3, e⟩ := mb_some e
  obtain ⟨e4, rfl⟩ := ml_some e
  obtain ⟨⟨pl, pl2⟩, rfl⟩ := ite_some e4
  refine ⟨hs, Z, H0, F0, ρ, st, F, d, s1, w, e1, fun v F1 H1 w1 m1 r1 => ?_⟩
  refine ⟨hs, _, _, F0, ρ, s1, F1, es, s2, w1, e2, fun p vs F2 H2 w2 m2 np r2 => ?_⟩
  refine ⟨hs, _, _, F0, ρ, s2, F2, d2, _, w2.hold np (.lst vs), e3, fun u F3 H3 w3 m3 r3 => ?_⟩
  obtain ⟨w4, g1, g2, g3, g4, g5⟩ := W.free w2 np w3
  have w5 := w4.setV ((r1.pl pl).mono (m2.trans m3)) i
  exact k _ _ _ _ F3 _ rfl ((w5.adopt g1 g2 g3 g4 (fun j' e' q a qa => by
    rcases get_set q with ⟨_, z, _⟩ | ⟨ne, q⟩
    · cases z
    · rw [List.getElem?_set_ne (Ne.symm ne)] at qa
      exact g5.1 j' e' q a qa) (fun ⟨i', dss, a, as, z1, z2, z3, z4⟩ => by
    rcases get_set z1 with ⟨_, z, _⟩ | ⟨ne, z1⟩
    · cases z
    · rw [List.getElem?_set_ne (Ne.symm ne)] at z2
      exact g5.2 ⟨i', dss, a, as, z1, z2, z3, z4⟩) (r2.mono m3) j).setV (r3.pl pl2) l) ((m1.trans m2).trans m3)
theorem qs_par3 {i j l : Nat} {x y z : Str} {a b c : Expr} {pos px py pz pt : Pos} {kt k2 pt2} {ta : TA} {den : Ev → M R.S Out} (hc : X.calm = true) (hN : X.N.Nodup) (hi : X.N[i]? = some x) (hj : X.N[j]? = some y) (hl : X.N[l]? = some z) (hij : i ≠ j) (hil : i ≠ l) (hjl : j ≠ l)
    (hx : X.env.scope.names.lookup x = some .local) (hy : X.env.scope.names.lookup y = some .local) (hz : X.env.scope.names.lookup z = some .local) (ha : PA X [a, b, c] ta) (ev : Ev3 R i j l ta den)
    (hw : swappedStores [.Tuple [.Name x px, .Name y py, .Name z pz] kt pt] (.Tuple [a, b, c] k2 pt2) X.env = pure (some [x, y, z]))
    (hs : swapsWithSole [.Tuple [.Name x px, .Name y py, .Name z pz] kt pt] (.Tuple [a, b, c] k2 pt2) pos.line X.env = pure false := by rfl) :
    QS X R (.Assign [.Tuple [.Name x px, .Name y py, .Name z pz] kt pt] (.Tuple [a, b, c] k2 pt2) pos) den :=
  imp_s (ps_par3 hc hN hi hj hl hij hil hjl hx hy hz ha hw hs) fun D σ H ⟨hs, Z, H0, F0, ρ, st, F, o, st', w, e, q⟩ => ev w e fun u v x ρ' F2 H2 eo w2 m2 => by
    subst eo
    exact ⟨u, v, x, rfl, q _ F2 _ w2 m2⟩
theorem qs_asg3 {i j l : Nat} {x y z : Str} {a b c : Expr} {pos px py pz pt : Pos} {kt k2 pt2} {ta : TA} {den : Ev → M R.S Out} (hc : X.calm = true) (hN : X.N.Nodup) (hi : X.N[i]? = some x) (hj : X.N[j]? = some y) (hl : X.N[l]? = some z)
    (hx : Loc X.env.scope x) (hy : Loc X.env.scope y) (hz : Loc X.env.scope z) (fx : X.fn x = true ∨ X.env.scope.names.lookup x = some .local) (fy : X.fn y = true ∨ X.env.scope.names.lookup y = some .local) (fz : X.fn z = true ∨ X.env.scope.names.lookup z = some .local) (ha : PA X [a, b, c] ta) (ev : Ev3 R i j l ta den)
    (hs : swapsWithSole [.Tuple [.Name x px, .Name y py, .Name z pz] kt pt] (.Tuple [a, b, c] k2 pt2) pos.line X.env = pure false := by rfl) (hw : swappedStores [.Tuple [.Name x px, .Name y py, .Name z pz] kt pt] (.Tuple [a, b, c] k2 pt2) X.env = pure none := by rfl)
    (h1 : (assignEach [.Tuple [.Name x px, .Name y py, .Name z pz] kt pt] X.env).map (·.2) = [assign (.Tuple [.Name x px, .Name y py, .Name z pz] kt pt) X.env] := by rfl)
    (hn : (assignEach [.Name x px, .Name y py, .Name z pz] X.env).length = 3 := by rfl) (hst : (assignEach [.Name x px, .Name y py, .Name z pz] X.env).findIdx? (·.1) = none := by rfl)
    (g1 : (assignEach [.Name x px, .Name y py, .Name z pz] X.env).map (·.2) = assign (.Name x px) X.env :: (assignEach [.Name y py, .Name z pz] X.env).map (·.2) := by rfl) (g2 : (assignEach [.Name y py, .Name z pz] X.env).map (·.2) = assign (.Name y py) X.env :: (assignEach [.Name z pz] X.env).map (·.2) := by rfl)
    (g3 : (assignEach [.Name z pz] X.env).map (·.2) = assign (.Name z pz) X.env :: (assignEach [] X.env).map (·.2) := by rfl) :
    QS X R (.Assign [.Tuple [.Name x px, .Name y py, .Name z pz] kt pt] (.Tuple [a, b, c] k2 pt2) pos) den :=
  imp_s (ps_asg (pe_tup ha) (pg_tup hc (pgs_cons (pg_name hN hi hx fx) (pgs_cons (pg_name hN hj hy fy) (pgs_cons (pg_name hN hl hz fz) pgs_nil g3) g2) g1) hn hst) hs hw h1) fun D σ H ⟨hs, Z, H0, F0, ρ, st, F, o, st', w, e, q⟩ => ev w e fun u v x ρ' F2 H2 eo w2 m2 => by
    subst eo
    exact ⟨by show 3 ≤ sizeLine; decide, fun t nt => ⟨t, _, rfl, SqT.of upd_same, rfl, _, _, rfl, _, _, rfl, _, _, rfl, rfl, q _ F2 _ (w2.lay nt _) m2⟩⟩
/-! xs + ys, new and owned -/
def catO (d e : D) : Option (List D) := match strip d, strip e with
  | .lst a, .lst b => if a.length + b.length ≤ LIM then some (a ++ b) else none
  | _, _ => none
def dCat (f g : Ev → M S D) : Ev → M S (List D) := fun ρ => mb (f ρ) fun d => mb (g ρ) fun e => ml (catO d e)
theorem qn_add {a b : Expr} {pos : Pos} {f1 f2 : Ev → M R.S D} (ha : QE X R a f1) (hb : QE X R b f2) : QN X R (.BinOp a .Add b pos) (dCat f1 f2) := imp_e (pe_op o_add ha hb) fun σ H Q ⟨hs, Z, H0, F0, ρ, st, F, out, st', w, e, q⟩ => by
  obtain ⟨d, s1, e1, e⟩ := mb_some e
  obtain ⟨d2, s2, e2, e⟩ := mb_some e
  obtain ⟨e3, rfl⟩ := ml_some e
  refine ⟨hs, Z, H0, F0, ρ, st, F, d, s1, w, e1, fun v F1 H1 w1 m1 r1 => ?_⟩
  refine ⟨hs, Z, H0, F0, ρ, s1, F1, d2, _, w1, e2, fun u F2 H2 w2 m2 r2 => ?_⟩
  unfold catO at e3
  cases q1 : strip d with
  | lst x =>
    rw [q1] at e3
    cases q2 : strip d2 with
    | lst y =>
      rw [q2] at e3
      obtain ⟨c, rfl⟩ := ite_some e3
      obtain ⟨p1, xs, rfl, g1, rl1⟩ := (r1.mono m2).lst w2 q1
      obtain ⟨p2, ys, rfl, g2, rl2⟩ := r2.lst w2 q2
      exact .inr (.inr (.inl ⟨p1, p2, xs, ys, rfl, rfl, g1, g2, by rw [rl1.length, rl2.length]; exact lim_line c, fun p np => q p _ F2 H2 w2 (m1.trans m2) np (rl1.append rl2)⟩))
    | _ => rw [q2] at e3; cases e3
  | _ => rw [q1] at e3; cases e3
end
end QL
end
section
set_option Elab.async false
set_option linter.all false
set_option maxRecDepth 100000
set_option maxHeartbeats 4000000
/-! QL: max, min of a list of alike data. -/
namespace QL
open PySem PySem.Spec L2

theorem vals_at {vs : List V} {us : List Value} (r : Vals vs us) : ∀ {i : Nat} {u : Value}, us[i]? = some u → ∃ v, vs[i]? = some v ∧ RelV v u := by
  induction r with
  | nil => intro i u h; simp at h
  | cons r1 _ ih =>
    intro i u h
    cases i with
    | zero => simp at h; subst h; exact ⟨_, rfl, r1⟩
    | succ i => obtain ⟨v, h1, h2⟩ := ih (i := i) (u := u) (by simpa using h); exact ⟨v, by simpa using h1, h2⟩
theorem best_mem {α : Type} (lt : α → α → Bool) : ∀ (xs : List α) (x : α), xs.foldl (fun a y => if lt a y = true then y else a) x ∈ x :: xs
  | [], x => by simp
  | y :: xs, x => by
    rw [List.foldl_cons]
    split
    · exact List.mem_cons_of_mem _ (best_mem lt xs y)
    · rcases List.mem_cons.mp (best_mem lt xs x) with h | h
      · rw [h]; exact List.mem_cons_self
      · exact List.mem_cons_of_mem _ (List.mem_cons_of_mem _ h)
def rMaxDat (K : PySem.W.Frag) : List V → Hp → VK → Prop := fun vs H Q => ∃ (a : Addr) (xs : List V) (d : PyData) (ds : List PyData), vs = [.ref a] ∧ SqL K H a xs ∧ DpAll K H xs (d :: ds) ∧ PySem.W.AlikeAll (d :: ds) ∧ PyData.depthAll (d :: ds) ≤ 60 ∧
  ∀ (i : Nat) (v : V), xs[i]? = some v → (d :: ds)[i]? = some (PySem.W.maxD d ds) → Q v H
def rMinDat (K : PySem.W.Frag) : List V → Hp → VK → Prop := fun vs H Q => ∃ (a : Addr) (xs : List V) (d : PyData) (ds : List PyData), vs = [.ref a] ∧ SqL K H a xs ∧ DpAll K H xs (d :: ds) ∧ PySem.W.AlikeAll (d :: ds) ∧ PyData.depthAll (d :: ds) ≤ 60 ∧
  ∀ (i : Nat) (v : V), xs[i]? = some v → (d :: ds)[i]? = some (PySem.W.minD d ds) → Q v H
section
variable {X : Cx} {R : RK} {S : Type}
theorem c_maxDat (hc : X.calm = true) (hu : X.A.units + 70 < cLine) : CallR X (.builtin "max") (rMaxDat X.K) := by
  intro pins s σ H vs us Q I r h
  obtain ⟨a, xs, d, ds, rfl, hl, hd, ha, hdep, q⟩ := h
  rw [Vals.ref1 r]
  obtain ⟨its, rv, pl, hz⟩ := I.list hl
  obtain ⟨as, rd⟩ := Dp.readsAll I _ _ _ hd rv
  refine PySem.W.max_list_data (vs := its.toArray) (I.ok.hd hc) pl.isList (by simpa using rd) ha (by omega) fun i v h' tk bs hi hr hk => ?_
  have hi' : its[i]? = some v := by simpa using hi
  obtain ⟨w, hw, rw_⟩ := vals_at rv hi'
  obtain ⟨cs, r2, hlt, hm, _⟩ := PySem.W.readsAll_at rd i v hi'
  have hmax : PySem.W.maxD d ds ∈ d :: ds := best_mem PySem.W.dataLt ds d
  have e := PySem.W.alike_unique _ _ _ _ _ (ha.1 _ hm _ hmax) (PySem.W.reads_keeps hk r2) hr
  refine ⟨w, H, I.kept (t' := tk) hk, rw_, q i w hw ?_⟩
  rw [← e, List.getD_eq_getElem?_getD, List.getElem?_eq_getElem hlt]; rfl
theorem c_minDat (hc : X.calm = true) (hu : X.A.units + 70 < cLine) : CallR X (.builtin "min") (rMinDat X.K) := by
  intro pins s σ H vs us Q I r h
  obtain ⟨a, xs, d, ds, rfl, hl, hd, ha, hdep, q⟩ := h
  rw [Vals.ref1 r]
  obtain ⟨its, rv, pl, hz⟩ := I.list hl
  obtain ⟨as, rd⟩ := Dp.readsAll I _ _ _ hd rv
  refine PySem.W.min_list_data (vs := its.toArray) (I.ok.hd hc) pl.isList (by simpa using rd) ha (by omega) fun i v h' tk bs hi hr hk => ?_
  have hi' : its[i]? = some v := by simpa using hi
  obtain ⟨w, hw, rw_⟩ := vals_at rv hi'
  obtain ⟨cs, r2, hlt, hm, _⟩ := PySem.W.readsAll_at rd i v hi'
  have hmin : PySem.W.minD d ds ∈ d :: ds := best_mem (fun a y => PySem.W.dataLt y a) ds d
  have e := PySem.W.alike_unique _ _ _ _ _ (ha.1 _ hm _ hmin) (PySem.W.reads_keeps hk r2) hr
  refine ⟨w, H, I.kept (t' := tk) hk, rw_, q i w hw ?_⟩
  rw [← e, List.getD_eq_getElem?_getD, List.getElem?_eq_getElem hlt]; rfl
/-! the same on data -/
def ltG (d e : D) : Bool := PySem.W.dataLt (dat 8 d) (dat 8 e)
def maxE (d : D) (ds : List D) : D := ds.foldl (fun a y => if ltG a y = true then y else a) d
def minE (d : D) (ds : List D) : D := ds.foldl (fun a y => if ltG y a = true then y else a) d
def alikeB (ds : List D) : Bool := ds.all fun x => (ds.all fun y => PySem.W.alike (dat 8 x) (dat 8 y)) && (match dat 8 x with | .none => false | _ => true)
theorem alikeB_all {ds : List D} (h : alikeB ds = true) : PySem.W.AlikeAll (ds.map (dat 8)) := by
  have h := List.all_eq_true.mp h
  refine ⟨fun x hx y hy => ?_, fun x hx => ?_⟩
  · obtain ⟨x', hx', rfl⟩ := List.mem_map.mp hx
    obtain ⟨y', hy', rfl⟩ := List.mem_map.mp hy
    have := h x' hx'
    rw [Bool.and_eq_true] at this
    exact List.all_eq_true.mp this.1 y' hy'
  · obtain ⟨x', hx', rfl⟩ := List.mem_map.mp hx
    have := h x' hx'
    rw [Bool.and_eq_true] at this
    intro e
    rw [e] at this
    exact Bool.false_ne_true this.2
theorem dat_maxE : ∀ (ds : List D) (d : D), dat 8 (maxE d ds) = PySem.W.maxD (dat 8 d) (ds.map (dat 8))
  | [], d => rfl
  | e :: ds, d => by
    show dat 8 (maxE (if ltG d e = true then e else d) ds) = PySem.W.maxD (if PySem.W.dataLt (dat 8 d) (dat 8 e) = true then dat 8 e else dat 8 d) (ds.map (dat 8))
    rw [dat_maxE ds]
    congr 1
    unfold ltG
    split <;> rfl
theorem dat_minE : ∀ (ds : List D) (d : D), dat 8 (minE d ds) = PySem.W.minD (dat 8 d) (ds.map (dat 8))
  | [], d => rfl
  | e :: ds, d => by
    show dat 8 (minE (if ltG e d = true then e else d) ds) = PySem.W.minD (if PySem.W.dataLt (dat 8 e) (dat 8 d) = true then dat 8 e else dat 8 d) (ds.map (dat 8))
    rw [dat_minE ds]
    congr 1
    unfold ltG
    split <;> rfl
theorem dat_inj : ∀ {n : Nat} {d e : D}, fitD n d = true → fitD n e = true → dat n d = dat n e → d = e
  | 0, d, e, h, h', q => by
    cases d <;> first | (cases h; done) | skip
    all_goals cases e <;> first | (cases h'; done) | skip
    all_goals simp [dat] at q
    all_goals first | rfl | (subst q; rfl)
  | n + 1, d, e, h, h', q => by
    have all : ∀ ds es : List D, ds.all (fitD n) = true → es.all (fitD n) = true → ds.map (dat n) = es.map (dat n) → ds = es := by
      intro ds
      induction ds with
      | nil => intro es _ _ q; cases es <;> simp at q ⊢
      | cons d ds ih =>
        intro es h h' q
        cases es with
        | nil => simp at q
        | cons e es =>
          rw [List.all_cons, Bool.and_eq_true] at h h'
          rw [List.map_cons, List.map_cons, List.cons.injEq] at q
          rw [dat_inj h.1 h'.1 q.1, ih es h.2 h'.2 q.2]
    cases d <;> first | (cases h; done) | skip
    all_goals cases e <;> first | (cases h'; done) | skip
    all_goals first
      | (simp only [dat, PyData.list.injEq] at q; rw [all _ _ h h' q])
      | (simp only [dat, PyData.tuple.injEq] at q; rw [all _ _ h h' q])
      | (simp [dat] at q; done)
      | (simp [dat] at q; subst q; rfl)
      | rfl
def maxG (ds : List D) : Option D := match maxD ds with
  | some z => some z
  | none => match ds with
    | [d] => match strip d with
      | .lst (x :: xs) => if (x :: xs).all (fitD 8) = true ∧ alikeB (x :: xs) = true then some (maxE x xs) else none
      | _ => none
    | _ => none
def minG (ds : List D) : Option D := match minD ds with
  | some z => some z
  | none => match ds with
    | [d] => match strip d with
      | .lst (x :: xs) => if (x :: xs).all (fitD 8) = true ∧ alikeB (x :: xs) = true then some (minE x xs) else none
      | _ => none
    | _ => none
def rMax2 (K : PySem.W.Frag) : List V → Hp → VK → Prop := fun vs H Q => rMax K vs H Q ∨ rMaxDat K vs H Q
def rMin2 (K : PySem.W.Frag) : List V → Hp → VK → Prop := fun vs H Q => rMin K vs H Q ∨ rMinDat K vs H Q
theorem c_max (hc : X.calm = true) (hu : X.A.units + 70 < cLine) : CallR X (.builtin "max") (rMax2 X.K) := (cr_max hc).or (c_maxDat hc hu)
theorem c_min (hc : X.calm = true) (hu : X.A.units + 70 < cLine) : CallR X (.builtin "min") (rMin2 X.K) := (cr_min hc).or (c_minDat hc hu)
theorem dpAll_of {K : PySem.W.Frag} {hs : Hs} {H : Hp} (n : Nat) : ∀ {ds : List D} {vs : List V}, RpL hs H vs ds → ds.all (fitD n) = true → DpAll K H vs (ds.map (dat n))
  | [], _, r, _ => by cases r; exact .nil
  | d :: ds, _, r, f => by
    cases r with
    | cons r1 r2 =>
      rw [List.all_cons, Bool.and_eq_true] at f
      exact .cons (dp_of n d _ r1 f.1) (dpAll_of n r2 f.2)
theorem depAll_of (n : Nat) : ∀ ds : List D, PyData.depthAll (ds.map (dat n)) ≤ n
  | [] => by simp [PyData.depthAll]
  | d :: ds => by
    simp only [List.map_cons, PyData.depthAll]
    exact Nat.max_le.mpr ⟨dep_of n d, depAll_of n ds⟩
theorem pick_dat {hs : Hs} {F : Hp} {xs : List V} {ds : List D} {z : D} (rl : RpL hs F xs ds) (fa : ds.all (fitD 8) = true) (hz : z ∈ ds) {i : Nat} {v : V} (hv : xs[i]? = some v) (hi : (ds.map (dat 8))[i]? = some (dat 8 z)) : Rp hs F v z := by
  obtain ⟨d, hd, rd⟩ := rl.getV hv
  rw [List.getElem?_map, hd] at hi
  have e : dat 8 d = dat 8 z := Option.some.inj hi
  have fa := List.all_eq_true.mp fa
  rw [← dat_inj (fa d (List.mem_of_getElem? hd)) (fa z hz) e]
  exact rd
theorem q_maxG : CQ R (rMax2 X.K) maxG := by
  rintro vs H Q ⟨hs, Z, H0, F0, ρ, st, σ, F, ds, z, w, r, e, q⟩
  unfold maxG at e
  cases c : maxD ds with
  | some y =>
    rw [c] at e; cases e
    exact .inl (q_maxL _ _ _ ⟨hs, Z, H0, F0, ρ, st, σ, F, ds, z, w, r, c, q⟩)
  | none =>
    rw [c] at e
    match ds, e with
    | [d], e =>
      obtain ⟨v, rfl, rv⟩ := r.one
      dsimp only at e
      cases c2 : strip d with
      | lst es =>
        rw [c2] at e
        match es, c2, e with
        | x :: xs, c2, e =>
          obtain ⟨⟨fa, al⟩, rfl⟩ := ite_some e
          obtain ⟨a, us, rfl, ea, rl⟩ := rv.lst w c2
          refine .inr ⟨a, us, dat 8 x, xs.map (dat 8), rfl, SqL.of ea, dpAll_of 8 (rl.mono w.FH) fa, alikeB_all al, Nat.le_trans (depAll_of 8 (x :: xs)) (by decide), fun i v hv hi => ?_⟩
          rw [← dat_maxE] at hi
          exact q v F H w (Same.refl _) (pick_dat rl fa (best_mem ltG xs x) hv hi)
      | _ => rw [c2] at e; cases e
theorem q_minG : CQ R (rMin2 X.K) minG := by
  rintro vs H Q ⟨hs, Z, H0, F0, ρ, st, σ, F, ds, z, w, r, e, q⟩
  unfold minG at e
  cases c : minD ds with
  | some y =>
    rw [c] at e; cases e
    exact .inl (q_minL _ _ _ ⟨hs, Z, H0, F0, ρ, st, σ, F, ds, z, w, r, c, q⟩)
  | none =>
    rw [c] at e
    match ds, e with
    | [d], e =>
      obtain ⟨v, rfl, rv⟩ := r.one
      dsimp only at e
      cases c2 : strip d with
      | lst es =>
        rw [c2] at e
        match es, c2, e with
        | x :: xs, c2, e =>
          obtain ⟨⟨fa, al⟩, rfl⟩ := ite_some e
          obtain ⟨a, us, rfl, ea, rl⟩ := rv.lst w c2
          refine .inr ⟨a, us, dat 8 x, xs.map (dat 8), rfl, SqL.of ea, dpAll_of 8 (rl.mono w.FH) fa, alikeB_all al, Nat.le_trans (depAll_of 8 (x :: xs)) (by decide), fun i v hv hi => ?_⟩
          rw [← dat_minE] at hi
          exact q v F H w (Same.refl _) (pick_dat rl fa (best_mem (fun a y => ltG y a) xs x) hv hi)
      | _ => rw [c2] at e; cases e
/-! sorted of alike data -/
def rSortDat (K : PySem.W.Frag) : List V → Hp → VK → Prop := fun vs H Q => ∃ (a : Addr) (bs : List (V × D)), vs = [.ref a] ∧ SqL K H a (bs.map (·.1)) ∧ (∀ b ∈ bs, Dp K H b.1 (dat 8 b.2)) ∧ PySem.W.AllAlike (bs.map fun b => dat 8 b.2) ∧ PySem.W.Sortable (bs.map fun b => dat 8 b.2) ∧
  ∀ (p : Addr), H p = none → Q (.ref p) (upd H p (.lst ((bs.mergeSort (PySem.W.dataLe false fun b => dat 8 b.2)).map (·.1))))
theorem each_vals {K : PySem.W.Frag} {H : Hp} {pins : List (Addr × Obj)} {σ : L2.St} {s : Shared} (I : Inv X pins σ H s) : ∀ {bs : List (V × D)} {us : List Value}, Vals (bs.map (·.1)) us → (∀ b ∈ bs, Dp X.K H b.1 (dat 8 b.2)) →
    PySem.W.EachIs (fun v (b : V × D) => RelV b.1 v) us bs ∧ PySem.W.EachIs (fun v (b : V × D) => ∃ as, Reads s.heap v (dat 8 b.2) as) us bs
  | [], _, .nil, _ => ⟨.nil, .nil⟩
  | b :: bs, _, .cons r t, h => by
    obtain ⟨h1, h2⟩ := each_vals (K := K) I t fun c hc => h c (List.mem_cons_of_mem _ hc)
    exact ⟨.cons r h1, .cons (Dp.reads I _ _ _ (h b List.mem_cons_self) r) h2⟩
theorem vals_each : ∀ {us : List Value} {bs : List (V × D)}, PySem.W.EachIs (fun v (b : V × D) => RelV b.1 v) us bs → Vals (bs.map (·.1)) us
  | _, _, .nil => .nil
  | _, _, .cons r t => .cons r (vals_each t)
theorem c_sortDat (hu : X.A.units + 70 < cLine) : CallR X (.builtin "sorted") (rSortDat X.K) := by
  intro pins s σ H vs us Q I r h
  obtain ⟨a, bs, rfl, hl, hd, hal, hso, q⟩ := h
  rw [Vals.ref1 r]
  obtain ⟨its, rv, pl, hz⟩ := I.list hl
  obtain ⟨e1, e2⟩ := each_vals (K := X.K) I rv hd
  refine PySem.W.sorted_data (vs := its) (enc := fun b : V × D => dat 8 b.2) pl.isList e1 e2 hal hso (by rw [List.length_map] at hz; exact hz) (fun b _ => by have := dep_of 8 b.2; omega) fun out hout eo => ?_
  obtain ⟨ep, he'⟩ := PyProof.Rows.sortedAll_at s.heap its out.toArray
  have rv' := vals_each eo
  refine ⟨.ref _, upd H (s.heap.objs.size + 1) (.lst ((bs.mergeSort (PySem.W.dataLe false fun b : V × D => dat 8 b.2)).map (·.1))), I.laid (t' := s.toks) (fun _ _ => PyProof.Rows.sortedAll_old) (Nat.le_succ _) ⟨?_, out, ep, rv', he'⟩, rfl, q _ (I.hok.fresh (Nat.le_succ _))⟩
  rw [List.length_map, List.length_mergeSort]
  rw [List.length_map] at hz
  exact hz
def leG (d e : D) : Bool := !ltG e d
def tupB : D → Bool
  | .tup (_ :: _) => true
  | _ => false
def othB : D → Bool
  | .tup _ => false
  | .non => false
  | .hd _ => false
  | .brw _ _ => false
  | .dct _ _ => false
  | _ => true
def sortG (ds : List D) : Option (List D) := match sortD ds with
  | some z => some z
  | none => match ds with
    | [d] => match strip d with
      | .lst es => if es.all (fitD 8) = true ∧ alikeB es = true ∧ (es.all tupB = true ∨ es.all othB = true) then some (es.mergeSort leG) else none
      | _ => none
    | _ => none
def rSortG (K : PySem.W.Frag) : List V → Hp → VK → Prop := fun vs H Q => rSorted2 K vs H Q ∨ rSortDat K vs H Q
theorem c_sortG (hu : X.A.units + 70 < cLine) : CallR X (.builtin "sorted") (rSortG X.K) := c_sorted.or (c_sortDat hu)
theorem zip_fst {hs : Hs} {F : Hp} : ∀ {xs : List V} {ds : List D}, RpL hs F xs ds → (xs.zip ds).map (·.1) = xs ∧ (xs.zip ds).map (·.2) = ds ∧ ∀ b ∈ xs.zip ds, Rp hs F b.1 b.2
  | _, _, .nil => ⟨rfl, rfl, fun b h => by cases h⟩
  | _, _, .cons r t => by
    obtain ⟨a, b, c⟩ := zip_fst t
    refine ⟨by rw [List.zip_cons_cons, List.map_cons, a], by rw [List.zip_cons_cons, List.map_cons, b], fun p hp => ?_⟩
    rw [List.zip_cons_cons] at hp
    rcases List.mem_cons.mp hp with rfl | hp
    · exact r
    · exact c p hp
theorem rpl_of {hs : Hs} {F : Hp} : ∀ {bs : List (V × D)}, (∀ b ∈ bs, Rp hs F b.1 b.2) → RpL hs F (bs.map (·.1)) (bs.map (·.2))
  | [], _ => .nil
  | b :: bs, h => .cons (h b List.mem_cons_self) (rpl_of fun c hc => h c (List.mem_cons_of_mem _ hc))
theorem q_sortG : CNQ R (rSortG X.K) sortG := by
  rintro vs H Q ⟨hs, Z, H0, F0, ρ, st, σ, F, ds, zs, w, r, e, q⟩
  unfold sortG at e
  cases c : sortD ds with
  | some y =>
    rw [c] at e; cases e
    exact .inl (q_sorted _ _ _ ⟨hs, Z, H0, F0, ρ, st, σ, F, ds, zs, w, r, c, q⟩)
  | none =>
    rw [c] at e
    match ds, e with
    | [d], e =>
      obtain ⟨v, rfl, rv⟩ := r.one
      dsimp only at e
      cases c2 : strip d with
      | lst es =>
        rw [c2] at e
        obtain ⟨⟨fa, al, so⟩, rfl⟩ := ite_some e
        obtain ⟨a, us, rfl, ea, rl⟩ := rv.lst w c2
        obtain ⟨z1, z2, z3⟩ := zip_fst rl
        have em : (us.zip es).map (fun b => dat 8 b.2) = es.map (dat 8) := by rw [← z2, List.map_map, z2]; rfl
        have fa' := List.all_eq_true.mp fa
        have hmem : ∀ b ∈ us.zip es, b.2 ∈ es := fun b hb => by rw [← z2]; exact List.mem_map.mpr ⟨b, hb, rfl⟩
        refine .inr ⟨a, us.zip es, rfl, by rw [z1]; exact SqL.of ea, fun b hb => dp_of 8 _ _ ((z3 b hb).mono w.FH) (fa' _ (hmem b hb)), ?_, ?_, fun p np => ?_⟩
        · rw [em]; exact (alikeB_all al).1
        · rw [em]
          rcases so with so | so
          · refine .inl fun x hx => ?_
            obtain ⟨y, hy, rfl⟩ := List.mem_map.mp hx
            have := List.all_eq_true.mp so y hy
            match y, this with
            | .tup (z :: zs), _ => exact ⟨_, _, rfl⟩
          · refine .inr fun x hx => ?_
            obtain ⟨y, hy, rfl⟩ := List.mem_map.mp hx
            have := List.all_eq_true.mp so y hy
            cases y <;> first | (cases this; done) | exact ⟨(fun z => nomatch z), fun _ z => nomatch z⟩
        · have e5 : ((us.zip es).mergeSort (PySem.W.dataLe false fun b : V × D => dat 8 b.2)).map (·.2) = es.mergeSort leG := by
            exact (List.map_mergeSort (r := PySem.W.dataLe false fun b : V × D => dat 8 b.2) (s := leG) (f := (·.2)) (l := us.zip es) fun x _ y _ => rfl).trans (by rw [z2])
          refine q p _ F H w (Same.refl _) np ?_
          rw [← e5]
          exact rpl_of fun b hb => z3 b ((List.mergeSort_perm _ _).mem_iff.mp hb)
      | _ => rw [c2] at e; cases e
/-! < <= > >= of alike data -/
def rLtDat (K : PySem.W.Frag) : R2 := fun x y H Q => ∃ d e, Dp K H x d ∧ Dp K H y e ∧ PySem.W.alike d e = true ∧ d ≠ .none ∧ d.depth ≤ 60 ∧ Q (.bl (PySem.W.dataLt d e)) H
def rLeDat (K : PySem.W.Frag) : R2 := fun x y H Q => ∃ d e, Dp K H x d ∧ Dp K H y e ∧ PySem.W.alike d e = true ∧ d ≠ .none ∧ d.depth ≤ 60 ∧ Q (.bl (!PySem.W.dataLt e d)) H
def rGtDat (K : PySem.W.Frag) : R2 := fun x y H Q => ∃ d e, Dp K H x d ∧ Dp K H y e ∧ PySem.W.alike d e = true ∧ d ≠ .none ∧ d.depth ≤ 60 ∧ Q (.bl (PySem.W.dataLt e d)) H
def rGeDat (K : PySem.W.Frag) : R2 := fun x y H Q => ∃ d e, Dp K H x d ∧ Dp K H y e ∧ PySem.W.alike d e = true ∧ d ≠ .none ∧ d.depth ≤ 60 ∧ Q (.bl (!PySem.W.dataLt d e)) H
theorem op_ltV (hu : X.A.units + 70 < cLine) : OpR X (compareOp .Lt) (fun x y H Q => rI0 (fun i j => .bl (decide (i < j))) x y H Q ∨ rLtDat X.K x y H Q) := op_lt.or (by
  intro pins s σ H x y v u Q I rx ry h
  obtain ⟨d, e, hd, he, al, nn, dp, q⟩ := h
  obtain ⟨as, r1⟩ := Dp.reads I d x v hd rx
  obtain ⟨bs, r2⟩ := Dp.reads I e y u he ry
  exact PySem.W.rcLt_alike d e X.A s v u as bs r1 r2 al nn (by have := Nat.min_le_left d.depth e.depth; omega) X.prog X.w X.xe _ ⟨.bl _, H, I, rfl, q⟩)
def ltV (d e : D) : Option D := match ltD d e with
  | some z => some z
  | none => if fitD 8 (strip d) = true ∧ fitD 8 (strip e) = true ∧ alikeB [strip d, strip e] = true then some (.bl (ltG (strip d) (strip e))) else none
theorem q_ltV {K : PySem.W.Frag} : OpQ R (fun x y H Q => rI0 (fun i j => .bl (decide (i < j))) x y H Q ∨ rLtDat K x y H Q) ltV := by
  rintro x y H Q ⟨hs, Z, H0, F0, ρ, st, σ, F, d, e, z, w, r1, r2, h3, q⟩
  unfold ltV at h3
  cases c : ltD d e with
  | some y' => rw [c] at h3; cases h3; exact .inl (q_lt _ _ _ _ ⟨hs, Z, H0, F0, ρ, st, σ, F, d, e, z, w, r1, r2, c, q⟩)
  | none =>
    rw [c] at h3
    obtain ⟨⟨c1, c2, c3⟩, rfl⟩ := ite_some h3
    have al := alikeB_all c3
    exact .inr ⟨_, _, dp_of 8 _ _ (r1.vw w) c1, dp_of 8 _ _ (r2.vw w) c2, al.1 _ (List.mem_cons_self ..) _ (List.mem_cons_of_mem _ (List.mem_cons_self ..)), al.2 _ (List.mem_cons_self ..), Nat.le_trans (dep_of 8 _) (by decide), q _ F H w (Same.refl _) (.bl _)⟩
@[simp] theorem ltV_int (i j : Int) : ltV (.int i) (.int j) = ltD (.int i) (.int j) := rfl
theorem op_leV (hu : X.A.units + 70 < cLine) : OpR X (compareOp .LtE) (fun x y H Q => rI0 (fun i j => .bl (decide (i ≤ j))) x y H Q ∨ rLeDat X.K x y H Q) := op_le.or (by
  intro pins s σ H x y v u Q I rx ry h
  obtain ⟨d, e, hd, he, al, nn, dp, q⟩ := h
  obtain ⟨as, r1⟩ := Dp.reads I d x v hd rx
  obtain ⟨bs, r2⟩ := Dp.reads I e y u he ry
  exact PySem.W.rcLe_alike d e X.A s v u as bs r1 r2 al nn (by have := Nat.min_le_left d.depth e.depth; omega) X.prog X.w X.xe _ ⟨.bl _, H, I, rfl, q⟩)
def leV (d e : D) : Option D := match leD d e with
  | some z => some z
  | none => if fitD 8 (strip d) = true ∧ fitD 8 (strip e) = true ∧ alikeB [strip d, strip e] = true then some (.bl (!ltG (strip e) (strip d))) else none
theorem q_leV {K : PySem.W.Frag} : OpQ R (fun x y H Q => rI0 (fun i j => .bl (decide (i ≤ j))) x y H Q ∨ rLeDat K x y H Q) leV := by
  rintro x y H Q ⟨hs, Z, H0, F0, ρ, st, σ, F, d, e, z, w, r1, r2, h3, q⟩
  unfold leV at h3
  cases c : leD d e with
  | some y' => rw [c] at h3; cases h3; exact .inl (q_le _ _ _ _ ⟨hs, Z, H0, F0, ρ, st, σ, F, d, e, z, w, r1, r2, c, q⟩)
  | none =>
    rw [c] at h3
    obtain ⟨⟨c1, c2, c3⟩, rfl⟩ := ite_some h3
    have al := alikeB_all c3
    exact .inr ⟨_, _, dp_of 8 _ _ (r1.vw w) c1, dp_of 8 _ _ (r2.vw w) c2, al.1 _ (List.mem_cons_self ..) _ (List.mem_cons_of_mem _ (List.mem_cons_self ..)), al.2 _ (List.mem_cons_self ..), Nat.le_trans (dep_of 8 _) (by decide), q _ F H w (Same.refl _) (.bl _)⟩
@[simp] theorem leV_int (i j : Int) : leV (.int i) (.int j) = leD (.int i) (.int j) := rfl
theorem op_gtV (hu : X.A.units + 70 < cLine) : OpR X (compareOp .Gt) (fun x y H Q => rI0 (fun i j => .bl (decide (j < i))) x y H Q ∨ rGtDat X.K x y H Q) := op_gt.or (by
  intro pins s σ H x y v u Q I rx ry h
  obtain ⟨d, e, hd, he, al, nn, dp, q⟩ := h
  obtain ⟨as, r1⟩ := Dp.reads I d x v hd rx
  obtain ⟨bs, r2⟩ := Dp.reads I e y u he ry
  exact PySem.W.rcGt_alike d e X.A s v u as bs r1 r2 al nn (by have := Nat.min_le_left d.depth e.depth; omega) X.prog X.w X.xe _ ⟨.bl _, H, I, rfl, q⟩)
def gtV (d e : D) : Option D := match gtD d e with
  | some z => some z
  | none => if fitD 8 (strip d) = true ∧ fitD 8 (strip e) = true ∧ alikeB [strip d, strip e] = true then some (.bl (ltG (strip e) (strip d))) else none
theorem q_gtV {K : PySem.W.Frag} : OpQ R (fun x y H Q => rI0 (fun i j => .bl (decide (j < i))) x y H Q ∨ rGtDat K x y H Q) gtV := by
  rintro x y H Q ⟨hs, Z, H0, F0, ρ, st, σ, F, d, e, z, w, r1, r2, h3, q⟩
  unfold gtV at h3
  cases c : gtD d e with
  | some y' => rw [c] at h3; cases h3; exact .inl (q_gt _ _ _ _ ⟨hs, Z, H0, F0, ρ, st, σ, F, d, e, z, w, r1, r2, c, q⟩)
  | none =>
    rw [c] at h3
    obtain ⟨⟨c1, c2, c3⟩, rfl⟩ := ite_some h3
    have al := alikeB_all c3
    exact .inr ⟨_, _, dp_of 8 _ _ (r1.vw w) c1, dp_of 8 _ _ (r2.vw w) c2, al.1 _ (List.mem_cons_self ..) _ (List.mem_cons_of_mem _ (List.mem_cons_self ..)), al.2 _ (List.mem_cons_self ..), Nat.le_trans (dep_of 8 _) (by decide), q _ F H w (Same.refl _) (.bl _)⟩
@[simp] theorem gtV_int (i j : Int) : gtV (.int i) (.int j) = gtD (.int i) (.int j) := rfl
theorem op_geV (hu : X.A.units + 70 < cLine) : OpR X (compareOp .GtE) (fun x y H Q => rI0 (fun i j => .bl (decide (j ≤ i))) x y H Q ∨ rGeDat X.K x y H Q) := op_ge.or (by
  intro pins s σ H x y v u Q I rx ry h
  obtain ⟨d, e, hd, he, al, nn, dp, q⟩ := h
  obtain ⟨as, r1⟩ := Dp.reads I d x v hd rx
  obtain ⟨bs, r2⟩ := Dp.reads I e y u he ry
  exact PySem.W.rcGe_alike d e X.A s v u as bs r1 r2 al nn (by have := Nat.min_le_left d.depth e.depth; omega) X.prog X.w X.xe _ ⟨.bl _, H, I, rfl, q⟩)
def geV (d e : D) : Option D := match geD d e with
  | some z => some z
  | none => if fitD 8 (strip d) = true ∧ fitD 8 (strip e) = true ∧ alikeB [strip d, strip e] = true then some (.bl (!ltG (strip d) (strip e))) else none
theorem q_geV {K : PySem.W.Frag} : OpQ R (fun x y H Q => rI0 (fun i j => .bl (decide (j ≤ i))) x y H Q ∨ rGeDat K x y H Q) geV := by
  rintro x y H Q ⟨hs, Z, H0, F0, ρ, st, σ, F, d, e, z, w, r1, r2, h3, q⟩
  unfold geV at h3
  cases c : geD d e with
  | some y' => rw [c] at h3; cases h3; exact .inl (q_ge _ _ _ _ ⟨hs, Z, H0, F0, ρ, st, σ, F, d, e, z, w, r1, r2, c, q⟩)
  | none =>
    rw [c] at h3
    obtain ⟨⟨c1, c2, c3⟩, rfl⟩ := ite_some h3
    have al := alikeB_all c3
    exact .inr ⟨_, _, dp_of 8 _ _ (r1.vw w) c1, dp_of 8 _ _ (r2.vw w) c2, al.1 _ (List.mem_cons_self ..) _ (List.mem_cons_of_mem _ (List.mem_cons_self ..)), al.2 _ (List.mem_cons_self ..), Nat.le_trans (dep_of 8 _) (by decide), q _ F H w (Same.refl _) (.bl _)⟩
@[simp] theorem geV_int (i j : Int) : geV (.int i) (.int j) = geD (.int i) (.int j) := rfl
end
end QL
end
section
set_option Elab.async false
set_option linter.all false
set_option maxRecDepth 100000
set_option maxHeartbeats 4000000
/-! QL: what a denotation gives, by simp (Wp). -/
namespace QL
open PySem L2

def Wp {S α : Type} (m : Option (α × S)) (Q : α → S → Prop) : Prop := ∃ a s, m = some (a, s) ∧ Q a s
section
variable {S α β : Type}
theorem Wp.imp {m : Option (α × S)} {Q Q' : α → S → Prop} (h : Wp m Q) (i : ∀ a s, Q a s → Q' a s) : Wp m Q' := by
  obtain ⟨a, s, e, q⟩ := h
  exact ⟨a, s, e, i a s q⟩
theorem wp_eq {m : Option (α × S)} {a : α} {s : S} (h : Wp m fun a' s' => a' = a ∧ s' = s) : m = some (a, s) := by
  obtain ⟨a', s', e, rfl, rfl⟩ := h
  exact e
theorem wp_congr {m m' : Option (α × S)} {Q : α → S → Prop} (h : m = m') : Wp m Q = Wp m' Q := by rw [h]
/-- an option that is there, and what follows -/
def OptP {α : Type} (o : Option α) (P : α → Prop) : Prop := ∃ a, o = some a ∧ P a
theorem optP_congr {α : Type} {o o' : Option α} {P : α → Prop} (h : o = o') : OptP o P = OptP o' P := by rw [h]
@[simp] theorem optP_some {α : Type} {a : α} {P : α → Prop} : OptP (some a) P ↔ P a := ⟨fun ⟨_, e, p⟩ => by cases e; exact p, fun p => ⟨a, rfl, p⟩⟩
@[simp] theorem optP_none {α : Type} {P : α → Prop} : OptP (none : Option α) P ↔ False := ⟨fun ⟨_, e, _⟩ => (by cases e), fun z => z.elim⟩
@[simp] theorem optP_ite {α : Type} {c : Prop} [Decidable c] {a : α} {P : α → Prop} : OptP (if c then some a else none) P ↔ c ∧ P a := by
  by_cases h : c
  · rw [if_pos h]; exact ⟨fun ⟨z, e, p⟩ => by cases e; exact ⟨h, p⟩, fun ⟨_, p⟩ => ⟨a, rfl, p⟩⟩
  · rw [if_neg h]; exact ⟨fun ⟨z, e, _⟩ => (by cases e), fun ⟨z, _⟩ => absurd z h⟩
@[simp] theorem wp_some {a : α} {s : S} {Q : α → S → Prop} : Wp (some (a, s)) Q ↔ Q a s := ⟨fun ⟨a', s', e, q⟩ => by cases e; exact q, fun q => ⟨a, s, rfl, q⟩⟩
@[simp] theorem wp_none {Q : α → S → Prop} : Wp (none : Option (α × S)) Q ↔ False := ⟨fun ⟨_, _, e, _⟩ => (by cases e), fun z => z.elim⟩
@[simp] theorem wp_mr {a : α} {s : S} {Q : α → S → Prop} : Wp (mr a s) Q ↔ Q a s := wp_some
@[simp] theorem wp_ml {o : Option α} {s : S} {Q : α → S → Prop} : Wp (ml o s) Q ↔ OptP o fun a => Q a s := by
  cases o with
  | none => exact ⟨fun ⟨_, _, e, _⟩ => (by cases e), fun ⟨_, e, _⟩ => by cases e⟩
  | some a => exact ⟨fun ⟨_, _, e, q⟩ => by cases e; exact ⟨a, rfl, q⟩, fun ⟨_, e, q⟩ => by cases e; exact ⟨a, s, rfl, q⟩⟩
@[simp] theorem wp_mb {m : M S α} {k : α → M S β} {s : S} {Q : β → S → Prop} : Wp (mb m k s) Q ↔ Wp (m s) fun a s' => Wp (k a s') Q := by
  unfold mb
  cases e : m s with
  | none => exact ⟨fun ⟨_, _, z, _⟩ => (by cases z), fun ⟨_, _, z, _⟩ => (by cases z)⟩
  | some p => obtain ⟨a, s'⟩ := p; exact ⟨fun h => ⟨a, s', rfl, h⟩, fun ⟨_, _, z, q⟩ => by cases z; exact q⟩
theorem wp_if {c : Prop} [Decidable c] {m m' : Option (α × S)} {Q : α → S → Prop} : Wp (if c then m else m') Q ↔ (c → Wp m Q) ∧ (¬ c → Wp m' Q) := by
  by_cases h : c
  · rw [if_pos h]; exact ⟨fun q => ⟨fun _ => q, fun z => absurd h z⟩, fun q => q.1 h⟩
  · rw [if_neg h]; exact ⟨fun q => ⟨fun z => absurd z h, fun _ => q⟩, fun q => q.2 h⟩
theorem wp_fn {c : Prop} [Decidable c] {f g : M S α} {s : S} {Q : α → S → Prop} : Wp ((if c then f else g) s) Q ↔ (c → Wp (f s) Q) ∧ (¬ c → Wp (g s) Q) := by
  by_cases h : c
  · rw [if_pos h]; exact ⟨fun q => ⟨fun _ => q, fun z => absurd h z⟩, fun q => q.1 h⟩
  · rw [if_neg h]; exact ⟨fun q => ⟨fun z => absurd z h, fun _ => q⟩, fun q => q.2 h⟩
end

section
variable {S : Type} {ρ : Ev} {s : S}
/-! values -/
@[simp] theorem LIM_eq : LIM = 16000000 := rfl
theorem if_and {k : Bool} {A B : Prop} : ((k = true → A) ∧ (k = false → B)) ↔ if k = true then A else B := by
  cases k
  · exact ⟨fun h => h.2 rfl, fun h => ⟨fun z => (by cases z), fun _ => h⟩⟩
  · exact ⟨fun h => h.1 rfl, fun h => ⟨fun _ => h, fun z => (by cases z)⟩⟩
@[simp] theorem strip_int' (i : Int) : strip (.int i) = .int i := rfl
@[simp] theorem strip_bl (b : Bool) : strip (.bl b) = .bl b := rfl
@[simp] theorem strip_str' (x : Str) : strip (.str x) = .str x := rfl
@[simp] theorem strip_non : strip .non = .non := rfl
@[simp] theorem strip_hd (n : Nat) : strip (.hd n) = .hd n := rfl
@[simp] theorem strip_lst (ds : List D) : strip (.lst ds) = .lst ds := rfl
@[simp] theorem strip_tup (ds : List D) : strip (.tup ds) = .tup ds := rfl
@[simp] theorem strip_brw (i : Nat) (d : D) : strip (.brw i d) = d := rfl
@[simp] theorem plain_int (i : Int) : plain (.int i) = true := rfl
@[simp] theorem plain_bl (b : Bool) : plain (.bl b) = true := rfl
@[simp] theorem plain_str (x : Str) : plain (.str x) = true := rfl
@[simp] theorem plain_non : plain .non = true := rfl
@[simp] theorem plain_hd (n : Nat) : plain (.hd n) = true := rfl
@[simp] theorem plain_lst (ds : List D) : plain (.lst ds) = true := rfl
@[simp] theorem plain_tup (ds : List D) : plain (.tup ds) = true := rfl
@[simp] theorem plain_brw (i : Nat) (d : D) : plain (.brw i d) = false := rfl
@[simp] theorem plO_eq {d e : D} : plO d = some e ↔ plain d = true ∧ d = e := ⟨plO_some, fun ⟨h, e⟩ => by unfold plO; rw [if_pos h, e]⟩
@[simp] theorem scal0_int (i : Int) : scal0 (.int i) = true := rfl
@[simp] theorem scal0_bl (b : Bool) : scal0 (.bl b) = true := rfl
@[simp] theorem scal0_non : scal0 .non = true := rfl
@[simp] theorem addD_int (i j : Int) : addD (.int i) (.int j) = some (.int (i + j)) := rfl
@[simp] theorem subD_int (i j : Int) : subD (.int i) (.int j) = some (.int (i - j)) := rfl
@[simp] theorem mulD_int (i j : Int) : mulD (.int i) (.int j) = if small64 i = true ∨ small64 j = true then some (.int (i * j)) else none := by
  show (if (small64 i || small64 j) = true then some (D.int (i * j)) else none) = _
  simp only [Bool.or_eq_true]
@[simp] theorem small64_eq (i : Int) : small64 i = true ↔ -18446744073709551616 < i ∧ i < 18446744073709551616 := decide_eq_true_iff
@[simp] theorem fdivD_int (i j : Int) : fdivD (.int i) (.int j) = if 0 < j ∧ j < 1073741824 then some (.int (i / j)) else none := by
  show (if decide (0 < j ∧ j < 1073741824) = true then some (D.int (i / j)) else none) = _
  simp only [decide_eq_true_eq]
@[simp] theorem modD_int (i j : Int) : modD (.int i) (.int j) = if 0 < j then some (.int (i % j)) else none := by
  show (if decide (0 < j) = true then some (D.int (i % j)) else none) = _
  simp only [decide_eq_true_eq]
@[simp] theorem negD_int (i : Int) : negD (.int i) = some (.int (-i)) := rfl
@[simp] theorem ltD_int (i j : Int) : ltD (.int i) (.int j) = some (.bl (decide (i < j))) := rfl
@[simp] theorem leD_int (i j : Int) : leD (.int i) (.int j) = some (.bl (decide (i ≤ j))) := rfl
@[simp] theorem gtD_int (i j : Int) : gtD (.int i) (.int j) = some (.bl (decide (j < i))) := rfl
@[simp] theorem geD_int (i j : Int) : geD (.int i) (.int j) = some (.bl (decide (j ≤ i))) := rfl
@[simp] theorem isND_non (b : Bool) : isND b .non .non = some (.bl b) := rfl
@[simp] theorem isND_int (b : Bool) (i : Int) : isND b (.int i) .non = some (.bl (!b)) := rfl
@[simp] theorem isND_bl (b c : Bool) : isND b (.bl c) .non = some (.bl (!b)) := rfl
@[simp] theorem isND_str (b : Bool) (x : Str) : isND b (.str x) .non = some (.bl (!b)) := rfl
@[simp] theorem isND_tup (b : Bool) (ds : List D) : isND b (.tup ds) .non = some (.bl (!b)) := rfl
@[simp] theorem isND_lst (b : Bool) (ds : List D) : isND b (.lst ds) .non = some (.bl (!b)) := rfl
@[simp] theorem str2_str (x y : Str) : str2 (.str x) (.str y) = some (x, y) := rfl
@[simp] theorem eqO_str (n : Bool) (x y : Str) : eqO n (.str x) (.str y) = some (.bl (n ^^ decide (x = y))) := rfl
@[simp] theorem eqO_int (n : Bool) (i j : Int) : eqO n (.int i) (.int j) = some (.bl (n ^^ decide (i = j))) := by
  show (if fitD DEP (.int i) = true ∧ fitD DEP (.int j) = true then some (D.bl (n ^^ (i == j))) else none) = _
  rw [if_pos ⟨rfl, rfl⟩]; rfl
@[simp] theorem eqO_bl (n : Bool) (i j : Bool) : eqO n (.bl i) (.bl j) = some (.bl (n ^^ (i == j))) := by
  show (if fitD DEP (.bl i) = true ∧ fitD DEP (.bl j) = true then some (D.bl (n ^^ (i == j))) else none) = _
  rw [if_pos ⟨rfl, rfl⟩]
theorem eqO_gen (n : Bool) {d e : D} (h : str2 d e = none) (f1 : fitD DEP (strip d) = true) (f2 : fitD DEP (strip e) = true) : eqO n d e = some (.bl (n ^^ eqD (strip d) (strip e))) := by
  unfold eqO
  rw [h]
  exact if_pos ⟨f1, f2⟩
@[simp] theorem idxD_lst (ds : List D) (i : Int) : idxD (.lst ds) (.int i) = atI ds i := rfl
@[simp] theorem idxD_tup (ds : List D) (i : Int) : idxD (.tup ds) (.int i) = atI ds i := rfl
@[simp] theorem idxD_brw (n : Nat) (ds : List D) (i : Int) : idxD (.brw n (.lst ds)) (.int i) = atI ds i := rfl
theorem atI_pos {α : Type} {ds : List α} {i : Int} (h0 : 0 ≤ i) (h1 : i < ds.length) : atI ds i = ds[i.toNat]? := by
  unfold atI ixN
  rw [if_pos h0, if_pos h1]; rfl
@[simp] theorem atI_zero {α : Type} (d : α) (ds : List α) : atI (d :: ds) 0 = some d := by
  rw [atI_pos (by decide) (by simp only [List.length_cons]; omega)]; rfl
@[simp] theorem atI_one {α : Type} (d e : α) (ds : List α) : atI (d :: e :: ds) 1 = some e := by
  rw [atI_pos (by decide) (by simp only [List.length_cons]; omega)]; rfl
@[simp] theorem atI_two {α : Type} (d e f : α) (ds : List α) : atI (d :: e :: f :: ds) 2 = some f := by
  rw [atI_pos (by decide) (by simp only [List.length_cons]; omega)]; rfl
@[simp] theorem atI_three {α : Type} (d e f g : α) (ds : List α) : atI (d :: e :: f :: g :: ds) 3 = some g := by
  rw [atI_pos (by decide) (by simp only [List.length_cons]; omega)]; rfl
@[simp] theorem atI_four {α : Type} (d e f g h : α) (ds : List α) : atI (d :: e :: f :: g :: h :: ds) 4 = some h := by
  rw [atI_pos (by decide) (by simp only [List.length_cons]; omega)]; rfl
@[simp] theorem atI_five {α : Type} (d e f g h k : α) (ds : List α) : atI (d :: e :: f :: g :: h :: k :: ds) 5 = some k := by
  rw [atI_pos (by decide) (by simp only [List.length_cons]; omega)]; rfl
theorem atI_neg1 {α : Type} {ds : List α} (h : ds ≠ []) : atI ds (-1) = ds.getLast? := by
  unfold atI ixN
  have : 0 < ds.length := List.length_pos_iff.mpr h
  rw [if_neg (by decide), if_pos (by omega), List.getLast?_eq_getElem?]
  show ds[(-1 + (ds.length : Int)).toNat]? = _
  congr 1
  omega
theorem atI_neg1_cons {α : Type} : ∀ (d : α) (ds : List α), atI (d :: ds) (-1) = some ((d :: ds).getLast (by simp)) := fun d ds => by
  rw [atI_neg1 (by simp), List.getLast?_eq_some_getLast]
@[simp] theorem addD_tup (a b : D) (ds es : List D) : addD (.tup (a :: ds)) (.tup (b :: es)) = if (a :: ds).length + (b :: es).length ≤ LIM then some (.tup ((a :: ds) ++ (b :: es))) else none := by
  show (if (a :: ds).length + (b :: es).length ≤ LIM ∧ a :: ds ≠ [] ∧ b :: es ≠ [] then some (D.tup ((a :: ds) ++ (b :: es))) else none) = _
  by_cases c : (a :: ds).length + (b :: es).length ≤ LIM
  · rw [if_pos c, if_pos ⟨c, by simp, by simp⟩]
  · rw [if_neg c, if_neg fun z => c z.1]
theorem addD_lst (ds es : List D) (h : ds.length + es.length ≤ LIM) : addD (.lst ds) (.lst es) = some (.lst (ds ++ es)) := if_pos h
@[simp] theorem truD_bl (b : Bool) : truD (.bl b) = some b := rfl
@[simp] theorem truD_int (i : Int) : truD (.int i) = some (i != 0) := rfl
@[simp] theorem truD_non : truD .non = some false := rfl
@[simp] theorem truD_lst (ds : List D) : truD (.lst ds) = some (!ds.isEmpty) := rfl
@[simp] theorem truD_tup (ds : List D) : truD (.tup ds) = some (!ds.isEmpty) := rfl
/-! expressions -/
def rds (i : Nat) : Slot → Option D
  | .val d => some d
  | .own d => some (.brw i d)
  | .non => none
  | .deep _ => none
@[simp] theorem rds_val (i : Nat) (d : D) : rds i (.val d) = some d := rfl
@[simp] theorem rds_own (i : Nat) (d : D) : rds i (.own d) = some (.brw i d) := rfl
@[simp] theorem rds_non (i : Nat) : rds i .non = none := rfl
@[simp] theorem rds_deep (i : Nat) (d : List (List D)) : rds i (.deep d) = none := rfl
@[simp] theorem wp_dVar {i : Nat} {Q : D → S → Prop} : Wp (dVar i ρ s) Q ↔ OptP ((ρ[i]?).bind (rds i)) fun d => Q d s := by
  unfold dVar
  rw [wp_ml]
  cases ρ[i]? with
  | none => exact Iff.rfl
  | some z => cases z <;> exact Iff.rfl
@[simp] theorem wp_dC {d : D} {Q : D → S → Prop} : Wp (dC d ρ s) Q ↔ Q d s := wp_mr
@[simp] theorem wp_dOp {g : D → D → Option D} {f1 f2 : Ev → M S D} {Q : D → S → Prop} : Wp (dOp g f1 f2 ρ s) Q ↔ Wp (f1 ρ s) fun d s1 => Wp (f2 ρ s1) fun e s2 => OptP (g d e) fun z => Q z s2 := by
  unfold dOp; simp only [wp_mb, wp_ml]
@[simp] theorem wp_dU {g : D → Option D} {f : Ev → M S D} {Q : D → S → Prop} : Wp (dU g f ρ s) Q ↔ Wp (f ρ s) fun d s1 => OptP (g d) fun z => Q z s1 := by
  unfold dU; simp only [wp_mb, wp_ml]
@[simp] theorem wp_dNil {Q : List D → S → Prop} : Wp (dNil ρ s) Q ↔ Q [] s := wp_mr
@[simp] theorem wp_dCons {f : Ev → M S D} {g : Ev → M S (List D)} {Q : List D → S → Prop} : Wp (dCons f g ρ s) Q ↔ Wp (f ρ s) fun d s1 => Wp (g ρ s1) fun ds s2 => Q (d :: ds) s2 := by
  unfold dCons; simp only [wp_mb, wp_mr]
theorem ex_ite {α : Type} {c : Prop} [Decidable c] {a : α} {P : α → Prop} : (∃ z, (if c then some a else none) = some z ∧ P z) ↔ c ∧ P a := by
  by_cases h : c
  · rw [if_pos h]; exact ⟨fun ⟨z, e, p⟩ => by cases e; exact ⟨h, p⟩, fun ⟨_, p⟩ => ⟨a, rfl, p⟩⟩
  · rw [if_neg h]; exact ⟨fun ⟨z, e, _⟩ => (by cases e), fun ⟨z, _⟩ => absurd z h⟩
@[simp] theorem wp_dTup {f : Ev → M S (List D)} {Q : D → S → Prop} : Wp (dTup f ρ s) Q ↔ Wp (f ρ s) fun ds s1 => (ds.all plain = true ∧ ds.length ≤ 1000) ∧ Q (.tup ds) s1 := by
  unfold dTup; simp only [wp_mb, wp_ml, optP_ite]
@[simp] theorem wp_dPl {f : Ev → M S (List D)} {Q : List D → S → Prop} : Wp (dPl f ρ s) Q ↔ Wp (f ρ s) fun ds s1 => (ds.all plain = true ∧ ds.length ≤ 1000) ∧ Q ds s1 := by
  unfold dPl; simp only [wp_mb, wp_ml, optP_ite]
@[simp] theorem wp_dFz {f : Ev → M S (List D)} {Q : D → S → Prop} : Wp (dFz f ρ s) Q ↔ Wp (f ρ s) fun ds s1 => Q (.lst ds) s1 := by
  unfold dFz; simp only [wp_mb, wp_mr]
def blO : D → Option Bool
  | .bl k => some k
  | _ => none
@[simp] theorem blO_bl (k : Bool) : blO (.bl k) = some k := rfl
theorem blO_some {d : D} {k : Bool} (h : blO d = some k) : d = .bl k := by
  cases d <;> first | (cases h; rfl) | cases h
@[simp] theorem wp_dTst {f : Ev → M S D} {Q : Bool → S → Prop} : Wp (dTst f ρ s) Q ↔ Wp (f ρ s) fun d s1 => OptP (blO d) fun k => Q k s1 := by
  unfold dTst
  simp only [wp_mb, wp_ml]
  exact Iff.rfl
@[simp] theorem wp_dTru {f : Ev → M S D} {Q : Bool → S → Prop} : Wp (dTru f ρ s) Q ↔ Wp (f ρ s) fun d s1 => OptP (truD (strip d)) fun k => Q k s1 := by
  unfold dTru; simp only [wp_mb, wp_ml]
theorem wp_dAnd' {f g : Ev → M S Bool} {Q : Bool → S → Prop} : Wp (dAnd f g ρ s) Q ↔ Wp (f ρ s) fun c s1 => (c = true → Wp (g ρ s1) Q) ∧ (c = false → Q false s1) := by
  unfold dAnd
  simp only [wp_mb]
  refine ⟨fun h => h.imp fun c s1 q => ?_, fun h => h.imp fun c s1 q => ?_⟩
  · cases c
    · exact ⟨fun z => (by cases z), fun _ => wp_mr.mp q⟩
    · exact ⟨fun _ => q, fun z => (by cases z)⟩
  · cases c
    · exact wp_mr.mpr (q.2 rfl)
    · exact q.1 rfl
@[simp] theorem wp_dAnd {f g : Ev → M S Bool} {Q : Bool → S → Prop} : Wp (dAnd f g ρ s) Q ↔ Wp (f ρ s) fun c s1 => if c = true then Wp (g ρ s1) Q else Q false s1 := by
  simp only [wp_dAnd', if_and]
theorem wp_dOr' {f g : Ev → M S Bool} {Q : Bool → S → Prop} : Wp (dOr f g ρ s) Q ↔ Wp (f ρ s) fun c s1 => (c = true → Q true s1) ∧ (c = false → Wp (g ρ s1) Q) := by
  unfold dOr
  simp only [wp_mb]
  refine ⟨fun h => h.imp fun c s1 q => ?_, fun h => h.imp fun c s1 q => ?_⟩
  · cases c
    · exact ⟨fun z => (by cases z), fun _ => q⟩
    · exact ⟨fun _ => wp_mr.mp q, fun z => (by cases z)⟩
  · cases c
    · exact q.2 rfl
    · exact wp_mr.mpr (q.1 rfl)
@[simp] theorem wp_dOr {f g : Ev → M S Bool} {Q : Bool → S → Prop} : Wp (dOr f g ρ s) Q ↔ Wp (f ρ s) fun c s1 => if c = true then Q true s1 else Wp (g ρ s1) Q := by
  simp only [wp_dOr', if_and]
@[simp] theorem wp_dNot {f : Ev → M S Bool} {Q : Bool → S → Prop} : Wp (dNot f ρ s) Q ↔ Wp (f ρ s) fun c s1 => Q (!c) s1 := by
  unfold dNot; simp only [wp_mb, wp_mr]
theorem wp_bl {f : D → M S D} {d : D} {k : Bool} : True := trivial
theorem wp_dAndV' {f g : Ev → M S D} {Q : D → S → Prop} : Wp (dAndV f g ρ s) Q ↔ Wp (f ρ s) fun d s1 => ∃ c, d = .bl c ∧ (c = true → Wp (g ρ s1) Q) ∧ (c = false → Q (.bl false) s1) := by
  unfold dAndV
  simp only [wp_mb]
  refine ⟨fun h => h.imp fun d s1 q => ?_, fun h => h.imp fun d s1 ⟨c, e, q⟩ => ?_⟩
  · cases d with
    | bl c =>
      cases c
      · exact ⟨false, rfl, fun z => (by cases z), fun _ => wp_mr.mp q⟩
      · exact ⟨true, rfl, fun _ => q, fun z => (by cases z)⟩
    | _ => obtain ⟨_, _, z, _⟩ := q; cases z
  · subst e
    cases c
    · exact wp_mr.mpr (q.2 rfl)
    · exact q.1 rfl
@[simp] theorem wp_dAndV {f g : Ev → M S D} {Q : D → S → Prop} : Wp (dAndV f g ρ s) Q ↔ Wp (f ρ s) fun d s1 => OptP (blO d) fun c => if c = true then Wp (g ρ s1) Q else Q (.bl false) s1 := by
  rw [wp_dAndV']
  refine ⟨fun h => h.imp fun d s1 ⟨c, e, q⟩ => ?_, fun h => h.imp fun d s1 ⟨c, e, q⟩ => ?_⟩
  · subst e; exact optP_some.mpr (if_and.mp q)
  · exact ⟨c, blO_some e, if_and.mpr q⟩
theorem wp_dOrV' {f g : Ev → M S D} {Q : D → S → Prop} : Wp (dOrV f g ρ s) Q ↔ Wp (f ρ s) fun d s1 => ∃ c, d = .bl c ∧ (c = true → Q (.bl true) s1) ∧ (c = false → Wp (g ρ s1) Q) := by
  unfold dOrV
  simp only [wp_mb]
  refine ⟨fun h => h.imp fun d s1 q => ?_, fun h => h.imp fun d s1 ⟨c, e, q⟩ => ?_⟩
  · cases d with
    | bl c =>
      cases c
      · exact ⟨false, rfl, fun z => (by cases z), fun _ => q⟩
      · exact ⟨true, rfl, fun _ => wp_mr.mp q, fun z => (by cases z)⟩
    | _ => obtain ⟨_, _, z, _⟩ := q; cases z
  · subst e
    cases c
    · exact q.2 rfl
    · exact wp_mr.mpr (q.1 rfl)
@[simp] theorem wp_dOrV {f g : Ev → M S D} {Q : D → S → Prop} : Wp (dOrV f g ρ s) Q ↔ Wp (f ρ s) fun d s1 => OptP (blO d) fun c => if c = true then Q (.bl true) s1 else Wp (g ρ s1) Q := by
  rw [wp_dOrV']
  refine ⟨fun h => h.imp fun d s1 ⟨c, e, q⟩ => ?_, fun h => h.imp fun d s1 ⟨c, e, q⟩ => ?_⟩
  · subst e; exact optP_some.mpr (if_and.mp q)
  · exact ⟨c, blO_some e, if_and.mpr q⟩
theorem wp_dNotV' {f : Ev → M S D} {Q : D → S → Prop} : Wp (dNotV f ρ s) Q ↔ Wp (f ρ s) fun d s1 => ∃ c, d = .bl c ∧ Q (.bl (!c)) s1 := by
  unfold dNotV
  simp only [wp_mb]
  refine ⟨fun h => h.imp fun d s1 q => ?_, fun h => h.imp fun d s1 ⟨c, e, q⟩ => ?_⟩
  · cases d with
    | bl c => exact ⟨c, rfl, wp_mr.mp q⟩
    | _ => obtain ⟨_, _, z, _⟩ := q; cases z
  · subst e; exact wp_mr.mpr q
@[simp] theorem wp_dNotV {f : Ev → M S D} {Q : D → S → Prop} : Wp (dNotV f ρ s) Q ↔ Wp (f ρ s) fun d s1 => OptP (blO d) fun c => Q (.bl (!c)) s1 := by
  rw [wp_dNotV']
  refine ⟨fun h => h.imp fun d s1 ⟨c, e, q⟩ => ?_, fun h => h.imp fun d s1 ⟨c, e, q⟩ => ?_⟩
  · subst e; exact optP_some.mpr q
  · exact ⟨c, blO_some e, q⟩
theorem wp_dIf' {c : Ev → M S Bool} {f g : Ev → M S D} {Q : D → S → Prop} : Wp (dIf c f g ρ s) Q ↔ Wp (c ρ s) fun k s1 => (k = true → Wp (f ρ s1) Q) ∧ (k = false → Wp (g ρ s1) Q) := by
  unfold dIf
  simp only [wp_mb]
  refine ⟨fun h => h.imp fun c s1 q => ?_, fun h => h.imp fun c s1 q => ?_⟩
  · cases c
    · exact ⟨fun z => (by cases z), fun _ => q⟩
    · exact ⟨fun _ => q, fun z => (by cases z)⟩
  · cases c
    · exact q.2 rfl
    · exact q.1 rfl
@[simp] theorem wp_dIf {c : Ev → M S Bool} {f g : Ev → M S D} {Q : D → S → Prop} : Wp (dIf c f g ρ s) Q ↔ Wp (c ρ s) fun k s1 => if k = true then Wp (f ρ s1) Q else Wp (g ρ s1) Q := by
  simp only [wp_dIf', if_and]
@[simp] theorem wp_dChn {g g' : D → D → Option D} {f1 f2 f3 : Ev → M S D} {Q : D → S → Prop} : Wp (dChn g g' f1 f2 f3 ρ s) Q ↔ Wp (f1 ρ s) fun d s1 => Wp (f2 ρ s1) fun e s2 => OptP (g d e) fun z => OptP (blO z) fun k => if k = true then Wp (f3 ρ s2) fun x s3 => OptP (g' e x) fun z => Q z s3 else Q (.bl false) s2 := by
  unfold dChn
  simp only [wp_mb, wp_ml]
  refine ⟨fun h => h.imp fun d s1 h => h.imp fun e s2 ⟨k, e1, q⟩ => ⟨k, e1, ?_⟩, fun h => h.imp fun d s1 h => h.imp fun e s2 ⟨k, e1, q⟩ => ⟨k, e1, ?_⟩⟩
  · cases k with
    | bl c =>
      refine optP_some.mpr ?_
      cases c
      · exact (if_neg Bool.false_ne_true).mpr ((wp_mr (Q := Q)).mp q)
      · refine (if_pos rfl).mpr ?_
        exact (wp_mb.mp q).imp fun x s3 q => wp_ml.mp q
    | _ => obtain ⟨_, _, z, _⟩ := q; cases z
  · obtain ⟨c, e2, q⟩ := q
    obtain rfl := blO_some e2
    cases c
    · exact wp_mr.mpr ((if_neg Bool.false_ne_true).mp q)
    · exact wp_mb.mpr (((if_pos rfl).mp q).imp fun x s3 q => wp_ml.mpr q)
@[simp] theorem wp_dCall {n : Nat} {g : List D → Option D} {fa : Ev → M S (List D)} {Q : D → S → Prop} : Wp (dCall n g fa ρ s) Q ↔ Wp (fa ρ s) fun ds s1 => ds.length = n ∧ OptP (g (ds.map strip)) fun d => (ds.all plain = true ∨ scal0 d = true) ∧ Q d s1 := by
  unfold dCall
  simp only [wp_mb, wp_ml]
  refine ⟨fun h => h.imp fun ds s1 ⟨z, e, q⟩ => ?_, fun h => h.imp fun ds s1 ⟨h1, d, h2, h3, q⟩ => ⟨d, ?_, q⟩⟩
  · by_cases c : ds.length = n
    · rw [if_pos c] at e
      refine ⟨c, ?_⟩
      cases c2 : g (ds.map strip) with
      | none => rw [c2] at e; cases e
      | some d =>
        rw [c2] at e
        obtain ⟨c3, rfl⟩ := ite_some e
        exact ⟨_, rfl, c3, q⟩
    · rw [if_neg c] at e; cases e
  · rw [if_pos h1, h2]
    exact if_pos h3
@[simp] theorem wp_dCallR {n : Nat} {g : List D → M S D} {fa : Ev → M S (List D)} {Q : D → S → Prop} : Wp (dCallR n g fa ρ s) Q ↔ Wp (fa ρ s) fun ds s1 => (ds.length = n ∧ ds.all plain = true) ∧ Wp (g ds s1) Q := by
  unfold dCallR
  simp only [wp_mb, wp_fn]
  refine ⟨fun h => h.imp fun ds s1 q => ?_, fun h => h.imp fun ds s1 q => ⟨fun _ => q.2, fun z => absurd q.1 z⟩⟩
  by_cases c : ds.length = n ∧ ds.all plain = true
  · exact ⟨c, q.1 c⟩
  · obtain ⟨_, _, z, _⟩ := q.2 c; cases z
@[simp] theorem wp_dB {g : List D → Option D} {fa : Ev → M S (List D)} {Q : D → S → Prop} : Wp (dB g fa ρ s) Q ↔ Wp (fa ρ s) fun ds s1 => OptP (g ds) fun z => Q z s1 := by
  unfold dB; simp only [wp_mb, wp_ml]
@[simp] theorem wp_dBN {g : List D → Option (List D)} {fa : Ev → M S (List D)} {Q : List D → S → Prop} : Wp (dBN g fa ρ s) Q ↔ Wp (fa ρ s) fun ds s1 => OptP (g ds) fun z => Q z s1 := by
  unfold dBN; simp only [wp_mb, wp_ml]
@[simp] theorem lenD_lst (ds : List D) : lenD [.lst ds] = some (.int (ds.length : Int)) := rfl
@[simp] theorem lenD_tup (ds : List D) : lenD [.tup ds] = some (.int (ds.length : Int)) := rfl
@[simp] theorem lenD_brw (n : Nat) (ds : List D) : lenD [.brw n (.lst ds)] = some (.int (ds.length : Int)) := rfl
@[simp] theorem absD_int (i : Int) : absD [.int i] = some (.int (if i < 0 then -i else i)) := rfl
@[simp] theorem intD_int (i : Int) : intD [.int i] = some (.int i) := rfl
@[simp] theorem intD_bl (k : Bool) : intD [.bl k] = some (.int (if k then 1 else 0)) := rfl
@[simp] theorem max2D_int (i j : Int) : max2D [.int i, .int j] = some (.int (if j > i then j else i)) := rfl
@[simp] theorem min2D_int (i j : Int) : min2D [.int i, .int j] = some (.int (if j < i then j else i)) := rfl
@[simp] theorem lst1_lst (g : List D → Option D) (ds : List D) : lst1 g [.lst ds] = g ds := rfl
@[simp] theorem lst1_brw (g : List D → Option D) (n : Nat) (ds : List D) : lst1 g [.brw n (.lst ds)] = g ds := rfl
@[simp] theorem listD_lst (ds : List D) : listD [.lst ds] = some ds := rfl
@[simp] theorem listD_tup (ds : List D) : listD [.tup ds] = some ds := rfl
@[simp] theorem listD_brw (n : Nat) (ds : List D) : listD [.brw n (.lst ds)] = some ds := rfl
theorem sumD_eq (ns : List Int) : sumD [.lst (ns.map .int)] = some (.int ns.sum) := by
  show (asInts (ns.map .int)).map (fun ns => D.int ns.sum) = _
  rw [asInts_map]; rfl
theorem anyD_eq (ns : List Bool) : anyD [.lst (ns.map .bl)] = some (.bl (ns.any id)) := by
  show (asBls (ns.map .bl)).map (fun ns => D.bl (ns.any id)) = _
  rw [asBls_map]; rfl
theorem allD_eq (ns : List Bool) : allD [.lst (ns.map .bl)] = some (.bl (ns.all id)) := by
  show (asBls (ns.map .bl)).map (fun ns => D.bl (ns.all id)) = _
  rw [asBls_map]; rfl
theorem minD_eq (n : Int) (ns : List Int) : minD [.lst ((n :: ns).map .int)] = some (.int (leastI ns n)) := by
  show (match asInts ((n :: ns).map .int) with
    | some (n :: ns) => some (D.int (leastI ns n))
    | _ => none) = _
  rw [asInts_map]
theorem maxD_eq (n : Int) (ns : List Int) : maxD [.lst ((n :: ns).map .int)] = some (.int (mostI ns n)) := by
  show (match asInts ((n :: ns).map .int) with
    | some (n :: ns) => some (D.int (mostI ns n))
    | _ => none) = _
  rw [asInts_map]
/-! iterables -/
@[simp] theorem wp_dIS {f : Ev → M S D} {Q : List D → S → Prop} : Wp (dIS f ρ s) Q ↔ Wp (f ρ s) fun d s1 => OptP (seqO d) fun ds => Q ds s1 := by
  unfold dIS; simp only [wp_mb, wp_ml]
@[simp] theorem seqO_lst (ds : List D) : seqO (.lst ds) = some ds := rfl
@[simp] theorem seqO_tup (ds : List D) : seqO (.tup ds) = some ds := rfl
@[simp] theorem wp_dIR {g : List D → Option (List D)} {f : Ev → M S (List D)} {Q : List D → S → Prop} : Wp (dIR g f ρ s) Q ↔ Wp (f ρ s) fun ds s1 => OptP (g ds) fun z => Q z s1 := by
  unfold dIR; simp only [wp_mb, wp_ml]
def rngOk (j : Int) : Prop := -1000000000000 ≤ j ∧ j < 1000000000000
@[simp] theorem optP_rng1 {j : Int} {P : List D → Prop} : OptP (rng1 [.int j]) P ↔ rngOk j ∧ P (rngL 0 j.toNat) := by
  show OptP (if -1000000000000 ≤ j ∧ j < 1000000000000 then some (rngL 0 j.toNat) else none) P ↔ _
  rw [optP_ite]; exact Iff.rfl
@[simp] theorem optP_rng2 {i j : Int} {P : List D → Prop} : OptP (rng2 [.int i, .int j]) P ↔ (rngOk i ∧ rngOk j) ∧ P (rngL i (j - i).toNat) := by
  show OptP (if -1000000000000 ≤ i ∧ i < 1000000000000 ∧ -1000000000000 ≤ j ∧ j < 1000000000000 then some (rngL i (j - i).toNat) else none) P ↔ _
  rw [optP_ite]
  exact ⟨fun ⟨⟨a, b, c, d⟩, p⟩ => ⟨⟨⟨a, b⟩, ⟨c, d⟩⟩, p⟩, fun ⟨⟨⟨a, b⟩, ⟨c, d⟩⟩, p⟩ => ⟨⟨a, b, c, d⟩, p⟩⟩
theorem rngOk_nat {n : Nat} (h : n ≤ 1000000) : rngOk (n : Int) := ⟨by omega, by omega⟩
theorem rngOk_of {j : Int} (h1 : -1000000 ≤ j) (h2 : j ≤ 1000000) : rngOk j := ⟨by omega, by omega⟩
@[simp] theorem enuD_lst (ds : List D) : enuD [.lst ds] = some (ds.zipIdx.map fun p => .tup [.int (p.2 : Nat), p.1]) := rfl
@[simp] theorem zipD_lst (ds es : List D) : zipD [.lst ds, .lst es] = some ((ds.zip es).map fun p => .tup [p.1, p.2]) := rfl
/-! slices -/
@[simp] theorem wp_dNoP {Q : Option Int → S → Prop} : Wp (dNoP ρ s) Q ↔ Q none s := wp_mr
def intO : D → Option (Option Int)
  | .int i => some (some i)
  | _ => none
@[simp] theorem intO_int (i : Int) : intO (.int i) = some (some i) := rfl
@[simp] theorem wp_dPrt {f : Ev → M S D} {Q : Option Int → S → Prop} : Wp (dPrt f ρ s) Q ↔ Wp (f ρ s) fun d s1 => OptP (intO d) fun i => Q i s1 := by
  unfold dPrt
  simp only [wp_mb, wp_ml]
  exact Iff.rfl
def cutL (ds : List D) (l h : Option Int) : List D := (ds.drop (HT.sIx ds.length 0 l)).take (HT.sIx ds.length ds.length h - HT.sIx ds.length 0 l)
def slO (d : D) (l h : Option Int) : Option (List D) := match strip d with
  | .lst ds => some (cutL ds l h)
  | _ => none
@[simp] theorem optP_lrg {n : Int} {P : List D → Prop} : OptP (lrgO 0 (.int n)) P ↔ (-1000000000000 ≤ n ∧ n ≤ 16000000) ∧ P (rngL 0 n.toNat) := by
  show OptP (if -1000000000000 ≤ n ∧ n ≤ 0 + 16000000 then some (rngL 0 (n - 0).toNat) else none) P ↔ _
  rw [optP_ite, Int.zero_add, Int.sub_zero]
@[simp] theorem wp_dLrg1 {f : Ev → M S D} {Q : List D → S → Prop} : Wp (dLrg1 f ρ s) Q ↔ Wp (f ρ s) fun d s1 => OptP (lrgO 0 d) fun z => Q z s1 := by
  unfold dLrg1
  simp only [wp_mb, wp_ml]
@[simp] theorem sortD_lst (ds : List D) : sortD [.lst ds] = sortL ds := rfl
@[simp] theorem sortD_brw (n : Nat) (ds : List D) : sortD [.brw n (.lst ds)] = sortL ds := rfl
@[simp] theorem slA_lst (ds : List D) (l h : Option Int) : slA (.lst ds) l h = some (.lst (cutD ds l h)) := rfl
@[simp] theorem slA_brw (n : Nat) (ds : List D) (l h : Option Int) : slA (.brw n (.lst ds)) l h = some (.lst (cutD ds l h)) := rfl
@[simp] theorem slA_tup (ds : List D) (l h : Option Int) : slA (.tup ds) l h = some (.tup (cutD ds l h)) := rfl
@[simp] theorem wp_dSlA {f : Ev → M S D} {fl fh : Ev → M S (Option Int)} {Q : D → S → Prop} : Wp (dSlA f fl fh ρ s) Q ↔ Wp (f ρ s) fun d s1 => Wp (fl ρ s1) fun l s2 => Wp (fh ρ s2) fun h s3 => OptP (slA d l h) fun z => Q z s3 := by
  unfold dSlA
  simp only [wp_mb, wp_ml]
theorem cutD_from {α : Type} (ds : List α) (i : Nat) : cutD ds (some (i : Int)) none = ds.drop i := by
  unfold cutD
  have e1 : HT.sIx ds.length ds.length none = ds.length := rfl
  have e2 : HT.sIx ds.length 0 (some (i : Int)) = min i ds.length := by
    unfold HT.sIx
    simp
    try omega
  rw [e1, e2]
  by_cases c : i ≤ ds.length
  · rw [Nat.min_eq_left c, List.take_of_length_le (by rw [List.length_drop]; omega)]
  · rw [Nat.min_eq_right (by omega), List.drop_eq_nil_of_le (by omega), List.drop_eq_nil_of_le (by omega)]; simp
theorem cutD_to {α : Type} (ds : List α) (i : Nat) : cutD ds none (some (i : Int)) = ds.take i := by
  unfold cutD
  have e1 : HT.sIx ds.length 0 none = 0 := rfl
  have e2 : HT.sIx ds.length ds.length (some (i : Int)) = min i ds.length := by
    unfold HT.sIx
    simp
    try omega
  rw [e1, e2, List.drop_zero, Nat.sub_zero]
  by_cases c : i ≤ ds.length
  · rw [Nat.min_eq_left c]
  · rw [Nat.min_eq_right (by omega), List.take_of_length_le (by omega), List.take_of_length_le (by omega)]
@[simp] theorem slO_lst (ds : List D) (l h : Option Int) : slO (.lst ds) l h = some (cutL ds l h) := rfl
@[simp] theorem slO_brw (n : Nat) (ds : List D) (l h : Option Int) : slO (.brw n (.lst ds)) l h = some (cutL ds l h) := rfl
@[simp] theorem wp_dSl {f : Ev → M S D} {fl fh : Ev → M S (Option Int)} {Q : List D → S → Prop} : Wp (dSl f fl fh ρ s) Q ↔ Wp (f ρ s) fun d s1 => Wp (fl ρ s1) fun l s2 => Wp (fh ρ s2) fun h s3 => OptP (slO d l h) fun z => Q z s3 := by
  unfold dSl
  simp only [wp_mb, wp_ml]
  exact Iff.rfl
/-! statements -/
def seqP (g : Ev → M S Out) (Q : Out → S → Prop) : Out → S → Prop
  | .nx ρ, s => Wp (g ρ s) Q
  | o, s => Q o s
@[simp] theorem seqP_nx (g : Ev → M S Out) (Q : Out → S → Prop) (ρ : Ev) (s : S) : seqP g Q (.nx ρ) s ↔ Wp (g ρ s) Q := Iff.rfl
@[simp] theorem seqP_rt (g : Ev → M S Out) (Q : Out → S → Prop) (d : D) (s : S) : seqP g Q (.rt d) s ↔ Q (.rt d) s := Iff.rfl
@[simp] theorem seqP_bk (g : Ev → M S Out) (Q : Out → S → Prop) (ρ : Ev) (s : S) : seqP g Q (.bk ρ) s ↔ Q (.bk ρ) s := Iff.rfl
@[simp] theorem seqP_ct (g : Ev → M S Out) (Q : Out → S → Prop) (ρ : Ev) (s : S) : seqP g Q (.ct ρ) s ↔ Q (.ct ρ) s := Iff.rfl
@[simp] theorem wp_dSeq {f g : Ev → M S Out} {Q : Out → S → Prop} : Wp (dSeq f g ρ s) Q ↔ Wp (f ρ s) fun o s1 => seqP g Q o s1 := by
  unfold dSeq
  simp only [wp_mb]
  refine ⟨fun h => h.imp fun o s1 q => ?_, fun h => h.imp fun o s1 q => ?_⟩
  · cases o <;> first | exact q | exact (wp_some (Q := Q)).mp q
  · cases o <;> first | exact q | exact (wp_some (Q := Q)).mpr q
@[simp] theorem wp_dNx {Q : Out → S → Prop} : Wp (dNx ρ s) Q ↔ Q (.nx ρ) s := wp_mr
@[simp] theorem wp_dPass {Q : Out → S → Prop} : Wp (dPass ρ s) Q ↔ Q (.nx ρ) s := wp_mr
@[simp] theorem wp_dBrk {Q : Out → S → Prop} : Wp (dBrk ρ s) Q ↔ Q (.bk ρ) s := wp_mr
@[simp] theorem wp_dCnt {Q : Out → S → Prop} : Wp (dCnt ρ s) Q ↔ Q (.ct ρ) s := wp_mr
@[simp] theorem wp_dRetN {Q : Out → S → Prop} : Wp (dRetN ρ s) Q ↔ Q (.rt .non) s := wp_mr
@[simp] theorem wp_dRet {f : Ev → M S D} {Q : Out → S → Prop} : Wp (dRet f ρ s) Q ↔ Wp (f ρ s) fun d s1 => plain d = true ∧ Q (.rt d) s1 := by
  unfold dRet
  simp only [wp_mb, wp_ml, wp_mr]
  exact ⟨fun h => h.imp fun d s1 ⟨e, z, q⟩ => by obtain ⟨p, rfl⟩ := plO_some z; exact ⟨p, q⟩, fun h => h.imp fun d s1 ⟨p, q⟩ => ⟨d, plO_eq.mpr ⟨p, rfl⟩, q⟩⟩
@[simp] theorem wp_dExpr {f : Ev → M S D} {Q : Out → S → Prop} : Wp (dExpr f ρ s) Q ↔ Wp (f ρ s) fun d s1 => Q (.nx ρ) s1 := by
  unfold dExpr; simp only [wp_mb, wp_mr]
theorem wp_dIfS' {c : Ev → M S Bool} {f g : Ev → M S Out} {Q : Out → S → Prop} : Wp (dIfS c f g ρ s) Q ↔ Wp (c ρ s) fun k s1 => (k = true → Wp (f ρ s1) Q) ∧ (k = false → Wp (g ρ s1) Q) := by
  unfold dIfS
  simp only [wp_mb]
  refine ⟨fun h => h.imp fun c s1 q => ?_, fun h => h.imp fun c s1 q => ?_⟩
  · cases c
    · exact ⟨fun z => (by cases z), fun _ => q⟩
    · exact ⟨fun _ => q, fun z => (by cases z)⟩
  · cases c
    · exact q.2 rfl
    · exact q.1 rfl
@[simp] theorem wp_dIfS {c : Ev → M S Bool} {f g : Ev → M S Out} {Q : Out → S → Prop} : Wp (dIfS c f g ρ s) Q ↔ Wp (c ρ s) fun k s1 => if k = true then Wp (f ρ s1) Q else Wp (g ρ s1) Q := by
  simp only [wp_dIfS', if_and]
@[simp] theorem wp_dAsg {f : Ev → M S D} {g : D → Ev → Option Ev} {Q : Out → S → Prop} : Wp (dAsg f g ρ s) Q ↔ Wp (f ρ s) fun d s1 => plain d = true ∧ OptP (g d ρ) fun ρ' => Q (.nx ρ') s1 := by
  unfold dAsg
  simp only [wp_mb, wp_ml, wp_mr]
  exact ⟨fun h => h.imp fun d s1 ⟨e, z, q⟩ => by obtain ⟨p, rfl⟩ := plO_some z; exact ⟨p, q⟩, fun h => h.imp fun d s1 ⟨p, q⟩ => ⟨d, plO_eq.mpr ⟨p, rfl⟩, q⟩⟩
@[simp] theorem gN_eq (i : Nat) (d : D) (ρ : Ev) : gN i d ρ = some (ρ.set i (.val d)) := rfl
@[simp] theorem gNil_nil (ρ : Ev) : gNil' [] ρ = some ρ := rfl
@[simp] theorem gCons_cons (g : D → Ev → Option Ev) (g' : List D → Ev → Option Ev) (d : D) (ds : List D) (ρ : Ev) : gCons' g g' (d :: ds) ρ = (g d ρ).bind (g' ds) := by
  show (match g d ρ with
    | none => none
    | some ρ' => g' ds ρ') = _
  cases g d ρ <;> rfl
@[simp] theorem gTp_tup (n : Nat) (g : List D → Ev → Option Ev) (ds : List D) (ρ : Ev) : gTp n g (.tup ds) ρ = if ds.length = n then g ds ρ else none := rfl
@[simp] theorem wp_dSetO {i : Nat} {f : Ev → M S (List D)} {Q : Out → S → Prop} : Wp (dSetO i f ρ s) Q ↔ Wp (f ρ s) fun ds s1 => Q (.nx (ρ.set i (.own (.lst ds)))) s1 := by
  unfold dSetO; simp only [wp_mb, wp_mr]
@[simp] theorem wp_dSetF {i : Nat} {f : Ev → M S (List D)} {Q : Out → S → Prop} : Wp (dSetF i f ρ s) Q ↔ Wp (f ρ s) fun ds s1 => Q (.nx (ρ.set i (.val (.lst ds)))) s1 := by
  unfold dSetF; simp only [wp_mb, wp_mr]
@[simp] theorem wp_dParNN {i j : Nat} {f g : Ev → M S (List D)} {Q : Out → S → Prop} : Wp (dParNN i j f g ρ s) Q ↔ Wp (f ρ s) fun ds s1 => Wp (g ρ s1) fun es s2 => Q (.nx ((ρ.set i (.own (.lst ds))).set j (.own (.lst es)))) s2 := by
  unfold dParNN; simp only [wp_mb, wp_mr]
@[simp] theorem wp_dParNE {i j : Nat} {f : Ev → M S (List D)} {g : Ev → M S D} {Q : Out → S → Prop} : Wp (dParNE i j f g ρ s) Q ↔ Wp (f ρ s) fun ds s1 => Wp (g ρ s1) fun e s2 => plain e = true ∧ Q (.nx ((ρ.set i (.own (.lst ds))).set j (.val e))) s2 := by
  unfold dParNE; simp only [wp_mb, wp_ml, optP_ite]
@[simp] theorem wp_dParEN {i j : Nat} {f : Ev → M S D} {g : Ev → M S (List D)} {Q : Out → S → Prop} : Wp (dParEN i j f g ρ s) Q ↔ Wp (f ρ s) fun d s1 => Wp (g ρ s1) fun es s2 => plain d = true ∧ Q (.nx ((ρ.set i (.val d)).set j (.own (.lst es)))) s2 := by
  unfold dParEN; simp only [wp_mb, wp_ml, optP_ite]
def parO (i j : Nat) (ρ : Ev) : List D → Option Out
  | [d, e] => if plain d = true ∧ plain e = true then some (.nx ((ρ.set i (.val d)).set j (.val e))) else none
  | _ => none
@[simp] theorem parO_two (i j : Nat) (ρ : Ev) (d e : D) : parO i j ρ [d, e] = if plain d = true ∧ plain e = true then some (.nx ((ρ.set i (.val d)).set j (.val e))) else none := rfl
@[simp] theorem wp_dPar {i j : Nat} {f : Ev → M S (List D)} {Q : Out → S → Prop} : Wp (dPar i j f ρ s) Q ↔ Wp (f ρ s) fun ds s1 => OptP (parO i j ρ ds) fun o => Q o s1 := by
  unfold dPar
  simp only [wp_mb, wp_ml]
  exact Iff.rfl
theorem upO_own {i : Nat} {g : List D → Option (List D)} {ρ : Ev} {ds : List D} (h : ρ[i]? = some (.own (.lst ds))) : upO i g ρ = (g ds).map fun es => ρ.set i (.own (.lst es)) := by
  unfold upO
  rw [h]
  dsimp only
  cases g ds <;> rfl
def ownS : Slot → Option (List D)
  | .own (.lst ds) => some ds
  | _ => none
@[simp] theorem ownS_own (ds : List D) : ownS (.own (.lst ds)) = some ds := rfl
theorem ownS_some {z : Slot} {ds : List D} (h : ownS z = some ds) : z = .own (.lst ds) := by
  cases z with
  | own d => cases d <;> first | (cases h; rfl) | cases h
  | _ => cases h
theorem own_at {i : Nat} {ds : List D} (h : (ρ[i]?).bind ownS = some ds) : ρ[i]? = some (.own (.lst ds)) := by
  cases c : ρ[i]? with
  | none => rw [c] at h; cases h
  | some z => rw [c] at h; rw [ownS_some h]
@[simp] theorem wp_dApp {i : Nat} {f : Ev → M S D} {Q : Out → S → Prop} : Wp (dApp i f ρ s) Q ↔ Wp (f ρ s) fun d s1 => plain d = true ∧ OptP ((ρ[i]?).bind ownS) fun ds => ds.length < LIM ∧ Q (.nx (ρ.set i (.own (.lst (ds ++ [d]))))) s1 := by
  unfold dApp
  simp only [wp_mb, wp_ml]
  refine ⟨fun h => h.imp fun d s1 ⟨o, e, q⟩ => ?_, fun h => h.imp fun d s1 ⟨p, ds, e1, e2, q⟩ => ⟨_, ?_, q⟩⟩
  · by_cases p : plain d = true
    · rw [if_pos p] at e
      obtain ⟨ρ', e3, rfl⟩ := map_some' e
      obtain ⟨ds, es, e4, e5, rfl⟩ := upO_some e3
      obtain ⟨c, rfl⟩ := ite_some e5
      exact ⟨p, ds, by rw [e4]; rfl, c, q⟩
    · rw [if_neg p] at e; cases e
  · rw [if_pos p, upO_own (own_at e1), if_pos e2]; rfl
@[simp] theorem wp_dStI {i : Nat} {fe fk : Ev → M S D} {Q : Out → S → Prop} : Wp (dStI i fe fk ρ s) Q ↔ Wp (fe ρ s) fun d s1 => Wp (fk ρ s1) fun k s2 => plain d = true ∧ OptP ((ρ[i]?).bind ownS) fun ds => OptP (setAt k d ds) fun es => Q (.nx (ρ.set i (.own (.lst es)))) s2 := by
  unfold dStI
  simp only [wp_mb, wp_ml]
  refine ⟨fun h => h.imp fun d s1 h => h.imp fun k s2 ⟨o, e, q⟩ => ?_, fun h => h.imp fun d s1 h => h.imp fun k s2 ⟨p, ds, e1, es, e2, q⟩ => ⟨_, ?_, q⟩⟩
  · by_cases p : plain d = true
    · rw [if_pos p] at e
      obtain ⟨ρ', e3, rfl⟩ := map_some' e
      obtain ⟨ds, es, e4, e5, rfl⟩ := upO_some e3
      exact ⟨p, ds, by rw [e4]; rfl, es, e5, q⟩
    · rw [if_neg p] at e; cases e
  · rw [if_pos p, upO_own (own_at e1), e2]; rfl
@[simp] theorem wp_dExt {i : Nat} {f : Ev → M S D} {Q : Out → S → Prop} : Wp (dExt i f ρ s) Q ↔ Wp (f ρ s) fun d s1 => OptP (lstO d) fun es => OptP ((ρ[i]?).bind ownS) fun ds => ds.length + es.length ≤ LIM ∧ Q (.nx (ρ.set i (.own (.lst (ds ++ es))))) s1 := by
  unfold dExt
  simp only [wp_mb, wp_ml]
  refine ⟨fun h => h.imp fun d s1 ⟨o, e, q⟩ => ?_, fun h => h.imp fun d s1 ⟨es, e0, ds, e1, e2, q⟩ => ⟨_, ?_, q⟩⟩
  · cases d with
    | lst es =>
      obtain ⟨ρ', e3, rfl⟩ := map_some' e
      obtain ⟨ds, es', e4, e5, rfl⟩ := upO_some e3
      obtain ⟨c, rfl⟩ := ite_some e5
      exact ⟨es, rfl, ds, by rw [e4]; rfl, c, q⟩
    | _ => cases e
  · cases d with
    | lst es' =>
      cases e0
      dsimp only
      rw [upO_own (own_at e1), if_pos e2]; rfl
    | _ => cases e0
@[simp] theorem lstO_lst (ds : List D) : lstO (.lst ds) = some ds := rfl
@[simp] theorem wp_dFrz {i : Nat} {f : Ev → M S Out} {Q : Out → S → Prop} : Wp (dFrz i f ρ s) Q ↔ Wp (f (frz i ρ) s) Q := Iff.rfl
def frzS : Slot → Slot
  | .own d => .val d
  | s => s
@[simp] theorem frzS_own (d : D) : frzS (.own d) = .val d := rfl
@[simp] theorem frzS_val (d : D) : frzS (.val d) = .val d := rfl
@[simp] theorem frzS_non : frzS .non = .non := rfl
@[simp] theorem frz_zero (x : Slot) (ρ : Ev) : frz 0 (x :: ρ) = frzS x :: ρ := by cases x <;> rfl
@[simp] theorem frz_succ (i : Nat) (x : Slot) (ρ : Ev) : frz (i + 1) (x :: ρ) = x :: frz i ρ := by
  unfold frz
  rw [List.getElem?_cons_succ]
  cases ρ[i]? with
  | none => rfl
  | some z => cases z <;> rfl
@[simp] theorem wp_dNEN {i j l : Nat} {f h : Ev → M S (List D)} {g : Ev → M S D} {Q : Out → S → Prop} : Wp (dNEN i j l f g h ρ s) Q ↔ Wp (f ρ s) fun ds s1 => Wp (g ρ s1) fun e s2 => Wp (h ρ s2) fun es s3 => plain e = true ∧ Q (.nx (((ρ.set i (.own (.lst ds))).set j (.val e)).set l (.own (.lst es)))) s3 := by
  unfold dNEN; simp only [wp_mb, wp_ml, optP_ite]
@[simp] theorem wp_dEEN {i j l : Nat} {f g : Ev → M S D} {h : Ev → M S (List D)} {Q : Out → S → Prop} : Wp (dEEN i j l f g h ρ s) Q ↔ Wp (f ρ s) fun d s1 => Wp (g ρ s1) fun e s2 => Wp (h ρ s2) fun es s3 => (plain d = true ∧ plain e = true) ∧ Q (.nx (((ρ.set i (.val d)).set j (.val e)).set l (.own (.lst es)))) s3 := by
  unfold dEEN; simp only [wp_mb, wp_ml, optP_ite]
@[simp] theorem wp_dENE {i j l : Nat} {f g : Ev → M S D} {h : Ev → M S (List D)} {Q : Out → S → Prop} : Wp (dENE i j l f h g ρ s) Q ↔ Wp (f ρ s) fun d s1 => Wp (h ρ s1) fun es s2 => Wp (g ρ s2) fun e s3 => (plain d = true ∧ plain e = true) ∧ Q (.nx (((ρ.set i (.val d)).set j (.own (.lst es))).set l (.val e))) s3 := by
  unfold dENE; simp only [wp_mb, wp_ml, optP_ite]
@[simp] theorem wp_dCat {f g : Ev → M S D} {Q : List D → S → Prop} : Wp (dCat f g ρ s) Q ↔ Wp (f ρ s) fun d s1 => Wp (g ρ s1) fun e s2 => OptP (catO d e) fun z => Q z s2 := by
  unfold dCat; simp only [wp_mb, wp_ml]
@[simp] theorem catO_ll (a b : List D) : catO (.lst a) (.lst b) = if a.length + b.length ≤ LIM then some (a ++ b) else none := rfl
@[simp] theorem catO_bl (n : Nat) (a b : List D) : catO (.brw n (.lst a)) (.lst b) = if a.length + b.length ≤ LIM then some (a ++ b) else none := rfl
@[simp] theorem catO_lb (n : Nat) (a b : List D) : catO (.lst a) (.brw n (.lst b)) = if a.length + b.length ≤ LIM then some (a ++ b) else none := rfl
@[simp] theorem catO_bb (n m : Nat) (a b : List D) : catO (.brw n (.lst a)) (.brw m (.lst b)) = if a.length + b.length ≤ LIM then some (a ++ b) else none := rfl
/-! a def's value -/
theorem pureF_eq {n m : Nat} {f : Ev → M Unit Out} {ds : List D} {d : D} (hn : ds.length = n) (h : Wp (f (startE m ds) ()) fun o _ => o = .rt d) : pureF (runF n m f) ds = some d := by
  obtain ⟨o, s, e, rfl⟩ := h
  unfold pureF runF mb
  rw [if_pos hn, e]
  rfl
theorem runF_wp {n m : Nat} {f : Ev → M S Out} {ds : List D} {s : S} {Q : D → S → Prop} (hn : ds.length = n) (h : Wp (f (startE m ds) s) fun o s' => ∃ d, o = .rt d ∧ Q d s') : Wp (runF n m f ds s) Q := by
  obtain ⟨o, s', e, d, rfl, q⟩ := h
  unfold runF mb
  rw [if_pos hn, e]
  exact ⟨d, s', rfl, q⟩
/-! loops -/
theorem forl_nil {g : D → Ev → Option Ev} {b : Ev → M S Out} {Q : Out → S → Prop} : Wp (forl g b [] ρ s) Q ↔ Q (.nx ρ) s := wp_mr
def forP (g : D → Ev → Option Ev) (b : Ev → M S Out) (ds : List D) (Q : Out → S → Prop) : Out → S → Prop
  | .nx ρ, s => Wp (forl g b ds ρ s) Q
  | .ct ρ, s => Wp (forl g b ds ρ s) Q
  | .bk ρ, s => Q (.nx ρ) s
  | .rt d, s => Q (.rt d) s
theorem forl_cons {g : D → Ev → Option Ev} {b : Ev → M S Out} {d : D} {ds : List D} {Q : Out → S → Prop} : Wp (forl g b (d :: ds) ρ s) Q ↔ ∃ ρ1, g d ρ = some ρ1 ∧ Wp (b ρ1 s) fun o s1 => forP g b ds Q o s1 := by
  show Wp (mb (ml (g d ρ)) (fun ρ1 => mb (b ρ1) fun o => match o with
    | .nx ρ' => forl g b ds ρ'
    | .ct ρ' => forl g b ds ρ'
    | .bk ρ' => mr (.nx ρ')
    | .rt d => mr (.rt d)) s) Q ↔ _
  simp only [wp_mb, wp_ml]
  refine ⟨fun ⟨ρ1, e, h⟩ => ⟨ρ1, e, h.imp fun o s1 q => ?_⟩, fun ⟨ρ1, e, h⟩ => ⟨ρ1, e, h.imp fun o s1 q => ?_⟩⟩
  · cases o <;> first | exact q | exact (wp_some (Q := Q)).mp q
  · cases o <;> first | exact q | exact (wp_some (Q := Q)).mpr q
/-- a loop that does not leave early, by an invariant over the turn -/
theorem forl_inv {g : D → Ev → Option Ev} {b : Ev → M S Out} {Q : Out → S → Prop} (ds : List D) (I : Nat → Ev → S → Prop) (h0 : I 0 ρ s)
    (hs : ∀ i d ρ s, ds[i]? = some d → I i ρ s → ∃ ρ1, g d ρ = some ρ1 ∧ Wp (b ρ1 s) fun o s1 => (∃ ρ2, (o = .nx ρ2 ∨ o = .ct ρ2) ∧ I (i + 1) ρ2 s1) ∨ (∃ ρ2, o = .bk ρ2 ∧ Q (.nx ρ2) s1) ∨ (∃ r, o = .rt r ∧ Q (.rt r) s1))
    (he : ∀ ρ s, I ds.length ρ s → Q (.nx ρ) s) : Wp (forl g b ds ρ s) Q := by
  have key : ∀ (es : List D) (n : Nat) ρ s, n + es.length = ds.length → (∀ (j : Nat) d, es[j]? = some d → ds[n + j]? = some d) → I n ρ s → Wp (forl g b es ρ s) Q := by
    intro es
    induction es with
    | nil =>
      intro n ρ s hn _ hI
      refine forl_nil.mpr (he ρ s ?_)
      have : n = ds.length := by simpa using hn
      rw [← this]; exact hI
    | cons d es ih =>
      intro n ρ s hn hd hI
      obtain ⟨ρ1, e, h⟩ := hs n d ρ s (hd 0 d rfl) hI
      refine forl_cons.mpr ⟨ρ1, e, h.imp fun o s1 q => ?_⟩
      rcases q with ⟨ρ2, e2, q⟩ | ⟨ρ2, rfl, q⟩ | ⟨r, rfl, q⟩
      · have nx : Wp (forl g b es ρ2 s1) Q := ih (n + 1) ρ2 s1 (by rw [List.length_cons] at hn; omega) (fun j d' hj => by
          have := hd (j + 1) d' (by simpa using hj)
          rw [show n + 1 + j = n + (j + 1) by omega]; exact this) q
        rcases e2 with rfl | rfl <;> exact nx
      · exact q
      · exact q
  exact key ds 0 ρ s (by simp) (fun j d h => by simpa using h) h0
/-- the end of a turn that folds -/
def FE {α J S : Type} (mk : α → J → Ev) (a : α) (P : α → Prop) (s : S) (o : Out) (s1 : S) : Prop := (∃ j', o = .nx (mk a j') ∨ o = .ct (mk a j')) ∧ s1 = s ∧ P a
theorem fe_nx {α J S : Type} {mk : α → J → Ev} {a : α} {P : α → Prop} {s : S} {ρ : Ev} (j : J) (e : ρ = mk a j) (p : P a) : FE mk a P s (.nx ρ) s := ⟨⟨j, .inl (by rw [e])⟩, rfl, p⟩
theorem fe_ct {α J S : Type} {mk : α → J → Ev} {a : α} {P : α → Prop} {s : S} {ρ : Ev} (j : J) (e : ρ = mk a j) (p : P a) : FE mk a P s (.ct ρ) s := ⟨⟨j, .inr (by rw [e])⟩, rfl, p⟩
/-- a loop that folds: mk a j is the frame by the state a and what else stands in the slots -/
theorem forl_fold {α β J : Type} {g : D → Ev → Option Ev} {b : Ev → M S Out} {Q : Out → S → Prop} (enc : β → D) (mk : α → J → Ev) (step : α → β → α) (P : Nat → α → Prop) : ∀ (xs : List β) (n : Nat) (a : α) (j : J) (s : S), P n a →
    (∀ i x, xs[i]? = some x → ∀ a j, P (n + i) a → OptP (g (enc x) (mk a j)) fun ρ1 => Wp (b ρ1 s) fun o s1 => FE mk (step a x) (P (n + i + 1)) s o s1) →
    (∀ j, P (n + xs.length) (xs.foldl step a) → Q (.nx (mk (xs.foldl step a) j)) s) → Wp (forl g b (xs.map enc) (mk a j) s) Q
  | [], n, a, j, s, p, _, he => forl_nil.mpr (he j p)
  | x :: xs, n, a, j, s, p, hs, he => by
    obtain ⟨ρ1, e, h⟩ := hs 0 x rfl a j p
    refine forl_cons.mpr ⟨ρ1, e, h.imp fun o s1 ⟨⟨j', eo⟩, es, p'⟩ => ?_⟩
    subst es
    have nx := forl_fold (g := g) (b := b) (Q := Q) enc mk step P xs (n + 1) (step a x) j' s1 p' (fun i y hy a j p => by
      have := hs (i + 1) y (by simpa using hy) a j (by rw [show n + (i + 1) = n + 1 + i by omega]; exact p)
      rw [show n + (i + 1) + 1 = n + 1 + i + 1 by omega] at this
      exact this) (fun j p => he j (by rw [List.length_cons, show n + (xs.length + 1) = n + 1 + xs.length by omega]; exact p))
    rcases eo with rfl | rfl <;> exact nx
@[simp] theorem wp_dFor {it : Ev → M S (List D)} {g : D → Ev → Option Ev} {b : Ev → M S Out} {Q : Out → S → Prop} : Wp (dFor it g b ρ s) Q ↔ Wp (it ρ s) fun ds s1 => Wp (forl g b ds ρ s1) Q := by
  unfold dFor; simp only [wp_mb]
/-- a while, by an invariant and a measure -/
theorem whl_inv {c : Ev → M S Bool} {b : Ev → M S Out} {Q : Out → S → Prop} (I : Nat → Ev → S → Prop) (n : Nat) (hn : n < FUEL) (h0 : I n ρ s)
    (hs : ∀ n ρ s, I n ρ s → Wp (c ρ s) fun k s1 => (k = false → Q (.nx ρ) s1) ∧ (k = true → Wp (b ρ s1) fun o s2 => (∃ ρ2 m, (o = .nx ρ2 ∨ o = .ct ρ2) ∧ m < n ∧ I m ρ2 s2) ∨ (∃ ρ2, o = .bk ρ2 ∧ Q (.nx ρ2) s2) ∨ (∃ r, o = .rt r ∧ Q (.rt r) s2))) : Wp (dWhl c b ρ s) Q := by
  have key : ∀ (f n : Nat) ρ s, n < f → I n ρ s → Wp (whl c b f ρ s) Q := by
    intro f
    induction f with
    | zero => intro n ρ s h _; omega
    | succ f ih =>
      intro n ρ s hf hI
      show Wp (mb (c ρ) (fun k => match k with
        | false => mr (.nx ρ)
        | true => mb (b ρ) fun o => match o with
          | .nx ρ' => whl c b f ρ'
          | .ct ρ' => whl c b f ρ'
          | .bk ρ' => mr (.nx ρ')
          | .rt d => mr (.rt d)) s) Q
      rw [wp_mb]
      refine (hs n ρ s hI).imp fun k s1 ⟨q1, q2⟩ => ?_
      cases k with
      | false => exact wp_mr.mpr (q1 rfl)
      | true =>
        refine wp_mb.mpr ((q2 rfl).imp fun o s2 q => ?_)
        rcases q with ⟨ρ2, m, e, hm, q⟩ | ⟨ρ2, rfl, q⟩ | ⟨r, rfl, q⟩
        · have := ih m ρ2 s2 (by omega) q
          rcases e with rfl | rfl <;> exact this
        · exact wp_mr.mpr q
        · exact wp_mr.mpr q
  exact key FUEL n ρ s hn h0
/-! comprehensions -/
def lc1 (g : D → Ev → Option Ev) (t : Ev → M S Bool) (f : Ev → M S D) (ρ : Ev) (d : D) : M S (Option D) := mb (ml (g d ρ)) fun ρ1 => mb (t ρ1) fun b => match b with
  | false => mr none
  | true => mb (f ρ1) fun y => mb (ml (plO y)) fun y => mr (some y)
theorem lcl_cons {g : D → Ev → Option Ev} {t : Ev → M S Bool} {f : Ev → M S D} {d : D} {ds : List D} {Q : List D → S → Prop} (h : Wp (lc1 g t f ρ d s) fun o s1 => Wp (lcl g t f ρ ds s1) fun ys s2 => Q (o.toList ++ ys) s2) : Wp (lcl g t f ρ (d :: ds) s) Q := by
  show Wp (mb (ml (g d ρ)) (fun ρ1 => mb (t ρ1) fun b => match b with
    | false => lcl g t f ρ ds
    | true => mb (f ρ1) fun y => mb (ml (plO y)) fun y => mb (lcl g t f ρ ds) fun ys => mr (y :: ys)) s) Q
  unfold lc1 at h
  rw [wp_mb] at h ⊢
  refine h.imp fun ρ1 s1 h => ?_
  rw [wp_mb] at h ⊢
  refine h.imp fun b s2 h => ?_
  cases b with
  | false => exact (wp_mr.mp h).imp fun ys s3 q => q
  | true =>
    have h := wp_mb.mp h
    refine wp_mb.mpr (h.imp fun y s3 h => ?_)
    rw [wp_mb] at h ⊢
    refine h.imp fun y s4 h => ?_
    refine wp_mb.mpr ((wp_mr.mp h).imp fun ys s5 q => wp_mr.mpr q)
@[simp] theorem wp_lcl_nil {g : D → Ev → Option Ev} {t : Ev → M S Bool} {f : Ev → M S D} {Q : List D → S → Prop} : Wp (lcl g t f ρ [] s) Q ↔ Q [] s := wp_mr
@[simp] theorem wp_lcl_cons {g : D → Ev → Option Ev} {t : Ev → M S Bool} {f : Ev → M S D} {d : D} {ds : List D} {Q : List D → S → Prop} : Wp (lcl g t f ρ (d :: ds) s) Q ↔ Wp (lc1 g t f ρ d s) fun o s1 => Wp (lcl g t f ρ ds s1) fun ys s2 => Q (o.toList ++ ys) s2 := by
  refine ⟨fun h => ?_, lcl_cons⟩
  have h : Wp (mb (ml (g d ρ)) (fun ρ1 => mb (t ρ1) fun b => match b with
    | false => lcl g t f ρ ds
    | true => mb (f ρ1) fun y => mb (ml (plO y)) fun y => mb (lcl g t f ρ ds) fun ys => mr (y :: ys)) s) Q := h
  unfold lc1
  rw [wp_mb] at h ⊢
  refine h.imp fun ρ1 s1 h => ?_
  rw [wp_mb] at h ⊢
  refine h.imp fun b s2 h => ?_
  cases b with
  | false => exact wp_mr.mpr (Wp.imp (show Wp (lcl g t f ρ ds s2) Q from h) fun ys s3 q => q)
  | true =>
    have h := wp_mb.mp h
    refine wp_mb.mpr (h.imp fun y s3 h => ?_)
    rw [wp_mb] at h ⊢
    refine h.imp fun y s4 h => ?_
    exact wp_mr.mpr ((wp_mb.mp h).imp fun ys s5 q => wp_mr.mp q)
/-- each item by itself, the state kept: a filterMap -/
theorem lcl_pure {α : Type} {g : D → Ev → Option Ev} {t : Ev → M S Bool} {f : Ev → M S D} {h : α → Option D} (enc : α → D) : ∀ (xs : List α) (s : S), (∀ x ∈ xs, ∀ s, Wp (lc1 g t f ρ (enc x) s) fun o s1 => o = h x ∧ s1 = s) → lcl g t f ρ (xs.map enc) s = some (xs.filterMap h, s)
  | [], s, _ => rfl
  | x :: xs, s, hx => by
    refine wp_eq (lcl_cons ((hx x List.mem_cons_self s).imp fun o s1 ⟨e1, e2⟩ => ?_))
    subst e1 e2
    have := lcl_pure enc xs s1 fun y hy => hx y (List.mem_cons_of_mem _ hy)
    rw [this]
    refine wp_some.mpr ⟨?_, rfl⟩
    rw [List.filterMap_cons]
    cases h x <;> rfl
theorem lcl_map {α : Type} {g : D → Ev → Option Ev} {t : Ev → M S Bool} {f : Ev → M S D} {Q : List D → S → Prop} (enc : α → D) (h : α → D) (xs : List α) (hx : ∀ x ∈ xs, ∀ s, Wp (lc1 g t f ρ (enc x) s) fun o s1 => o = some (h x) ∧ s1 = s) (q : Q (xs.map h) s) : Wp (lcl g t f ρ (xs.map enc) s) Q := by
  refine ⟨_, _, lcl_pure (h := fun x => some (h x)) enc xs s hx, ?_⟩
  rw [show xs.filterMap (fun x => some (h x)) = xs.map h from List.filterMap_eq_map ▸ rfl]
  exact q
theorem filterMap_if {α β : Type} (p : α → Bool) (h : α → β) : ∀ xs : List α, xs.filterMap (fun x => if p x = true then some (h x) else none) = (xs.filter p).map h
  | [] => rfl
  | x :: xs => by
    rw [List.filterMap_cons, List.filter_cons]
    by_cases c : p x = true
    · simp only [c, if_true, List.map_cons, filterMap_if p h xs]
    · simp only [c, if_false, filterMap_if p h xs]; rfl
theorem lcl_filter {α : Type} {g : D → Ev → Option Ev} {t : Ev → M S Bool} {f : Ev → M S D} {Q : List D → S → Prop} (enc : α → D) (p : α → Bool) (h : α → D) (xs : List α) (hx : ∀ x ∈ xs, ∀ s, Wp (lc1 g t f ρ (enc x) s) fun o s1 => o = (if p x = true then some (h x) else none) ∧ s1 = s) (q : Q ((xs.filter p).map h) s) : Wp (lcl g t f ρ (xs.map enc) s) Q := by
  refine ⟨_, _, lcl_pure (h := fun x => if p x = true then some (h x) else none) enc xs s hx, ?_⟩
  rw [filterMap_if]
  exact q
def rE (lo : Int) (i : Nat) : D := .int (lo + (i : Int))
theorem rngL_eq (lo : Int) (n : Nat) : rngL lo n = (List.range n).map (rE lo) := rfl
@[simp] theorem rngL_length (lo : Int) (n : Nat) : (rngL lo n).length = n := by simp [rngL]
@[simp] theorem rE_zero (i : Nat) : rE 0 i = .int (i : Int) := by unfold rE; rw [Int.zero_add]
/-- each item takes from the state: a list of results, each with its property -/
theorem lcl_each {α : Type} {g : D → Ev → Option Ev} {t : Ev → M S Bool} {f : Ev → M S D} {V : S → Prop} {P : α → D → Prop} (enc : α → D) : ∀ (xs : List α) (s : S), V s → (∀ x ∈ xs, ∀ s, V s → Wp (lc1 g t f ρ (enc x) s) fun o s1 => ∃ y, o = some y ∧ P x y ∧ V s1) →
    Wp (lcl g t f ρ (xs.map enc) s) fun ys s1 => V s1 ∧ ys.length = xs.length ∧ ∀ (i : Nat) (x : α), xs[i]? = some x → ∃ y, ys[i]? = some y ∧ P x y
  | [], s, v, _ => wp_some.mpr ⟨v, rfl, fun i x e => by simp at e⟩
  | x :: xs, s, v, hx => by
    refine lcl_cons ((hx x List.mem_cons_self s v).imp fun o s1 ⟨y, e, p, v1⟩ => ?_)
    subst e
    refine (lcl_each enc xs s1 v1 fun y hy => hx y (List.mem_cons_of_mem _ hy)).imp fun ys s2 ⟨v2, hl, hp⟩ => ⟨v2, by simp [hl], fun i x' e => ?_⟩
    match i, e with
    | 0, e => cases e; exact ⟨y, rfl, p⟩
    | i + 1, e => exact hp i x' (by simpa using e)
@[simp] theorem wp_dLc {it : Ev → M S (List D)} {g : D → Ev → Option Ev} {t : Ev → M S Bool} {f : Ev → M S D} {vs : List Nat} {Q : List D → S → Prop} : Wp (dLc it g t f vs ρ s) Q ↔ Wp (it ρ s) fun ds s1 => (noOwn vs ρ = true ∧ ds.length ≤ LIM) ∧ Wp (lcl g t f (wipeE ρ vs) ds s1) Q := by
  unfold dLc
  simp only [wp_mb, wp_fn]
  refine ⟨fun h => h.imp fun ds s1 q => ?_, fun h => h.imp fun ds s1 q => ⟨fun _ => q.2, fun z => absurd q.1 z⟩⟩
  by_cases c : noOwn vs ρ = true ∧ ds.length ≤ LIM
  · exact ⟨c, q.1 c⟩
  · obtain ⟨_, _, z, _⟩ := q.2 c; cases z
theorem wp_lc1' {g : D → Ev → Option Ev} {t : Ev → M S Bool} {f : Ev → M S D} {d : D} {Q : Option D → S → Prop} : Wp (lc1 g t f ρ d s) Q ↔ ∃ ρ1, g d ρ = some ρ1 ∧ Wp (t ρ1 s) fun b s1 => (b = false → Q none s1) ∧ (b = true → Wp (f ρ1 s1) fun y s2 => plain y = true ∧ Q (some y) s2) := by
  unfold lc1
  simp only [wp_mb, wp_ml]
  refine ⟨fun ⟨ρ1, e, h⟩ => ⟨ρ1, e, h.imp fun b s1 q => ?_⟩, fun ⟨ρ1, e, h⟩ => ⟨ρ1, e, h.imp fun b s1 q => ?_⟩⟩
  · cases b with
    | false => exact ⟨fun _ => wp_mr.mp q, fun z => (by cases z)⟩
    | true =>
      refine ⟨fun z => (by cases z), fun _ => (wp_mb.mp q).imp fun y s2 q => ?_⟩
      obtain ⟨y', e1, q⟩ := wp_ml.mp (wp_mb.mp q)
      obtain ⟨p, rfl⟩ := plO_eq.mp e1
      exact ⟨p, wp_mr.mp q⟩
  · cases b with
    | false => exact wp_mr.mpr (q.1 rfl)
    | true => exact wp_mb.mpr ((q.2 rfl).imp fun y s2 ⟨p, q⟩ => wp_mb.mpr (wp_ml.mpr ⟨y, plO_eq.mpr ⟨p, rfl⟩, wp_mr.mpr q⟩))
def notOwn : Option Slot → Bool
  | some (.own _) => false
  | some (.deep _) => false
  | _ => true
/-- what may stand in a slot and is not asked -/
def jk : Option D → Slot
  | none => .non
  | some d => .val d
@[simp] theorem notOwn_val (d : D) : notOwn (some (.val d)) = true := rfl
@[simp] theorem notOwn_non : notOwn (some .non) = true := rfl
@[simp] theorem notOwn_own (d : D) : notOwn (some (.own d)) = false := rfl
@[simp] theorem notOwn_deep (d : List (List D)) : notOwn (some (.deep d)) = false := rfl
@[simp] theorem notOwn_jk (d : Option D) : notOwn (some (jk d)) = true := by cases d <;> rfl
theorem noOwn_eq (vs : List Nat) (ρ : Ev) : noOwn vs ρ = vs.all fun i => notOwn ρ[i]? := rfl
theorem if_and' {k : Bool} {A B : Prop} : ((k = false → B) ∧ (k = true → A)) ↔ if k = true then A else B := by rw [and_comm]; exact if_and
@[simp] theorem wp_lc1 {g : D → Ev → Option Ev} {t : Ev → M S Bool} {f : Ev → M S D} {d : D} {Q : Option D → S → Prop} : Wp (lc1 g t f ρ d s) Q ↔ OptP (g d ρ) fun ρ1 => Wp (t ρ1 s) fun b s1 => if b = true then Wp (f ρ1 s1) fun y s2 => plain y = true ∧ Q (some y) s2 else Q none s1 := by
  rw [wp_lc1']
  exact ⟨fun ⟨ρ1, e, h⟩ => ⟨ρ1, e, h.imp fun b s1 q => if_and'.mp q⟩, fun ⟨ρ1, e, h⟩ => ⟨ρ1, e, h.imp fun b s1 q => if_and'.mpr q⟩⟩
@[simp] theorem wp_dYes {Q : Bool → S → Prop} : Wp (dYes ρ s) Q ↔ Q true s := wp_mr
end
/-! equality of a thing with itself, depth -/
@[simp] theorem fit_int (n : Nat) (i : Int) : fitD n (.int i) = true := by cases n <;> rfl
@[simp] theorem fit_bl (n : Nat) (i : Bool) : fitD n (.bl i) = true := by cases n <;> rfl
@[simp] theorem fit_non (n : Nat) : fitD n .non = true := by cases n <;> rfl
@[simp] theorem fit_lst (n : Nat) (ds : List D) : fitD (n + 1) (.lst ds) = ds.all (fitD n) := rfl
@[simp] theorem fit_tup (n : Nat) (ds : List D) : fitD (n + 1) (.tup ds) = ds.all (fitD n) := rfl
theorem eqO_same (n : Bool) {d : D} (f : fitD DEP d = true) : eqO n d d = some (.bl (!n)) := by
  have sd : strip d = d := by
    cases d <;> first | rfl | cases f
  cases h : str2 d d with
  | some p =>
    obtain ⟨e1, e2⟩ := str2_some h
    unfold eqO
    rw [h]
    have : p.1 = p.2 := by rw [e1] at e2; exact D.str.inj e2
    show some (D.bl (n ^^ decide (p.1 = p.2))) = _
    rw [decide_eq_true this, Bool.xor_true]
  | none =>
    rw [eqO_gen n h (by rw [sd]; exact f) (by rw [sd]; exact f), sd]
    have : eqD d d = true := SeqAt.eqv_refl _ (lay_of _ _ f)
    rw [this, Bool.xor_true]
theorem fit_mono : ∀ {n m : Nat} {d : D}, fitD n d = true → n ≤ m → fitD m d = true
  | 0, m, d, h, _ => by
    cases d with
    | int _ => simp
    | bl _ => simp
    | non => simp
    | str x => cases m <;> exact h
    | _ => cases h
  | n + 1, 0, d, h, hl => by omega
  | n + 1, m + 1, d, h, hl => by
    have all : ∀ ds : List D, ds.all (fitD n) = true → ds.all (fitD m) = true := fun ds h =>
      List.all_eq_true.mpr fun x hx => fit_mono (List.all_eq_true.mp h x hx) (by omega)
    cases d with
    | int _ => simp
    | bl _ => simp
    | non => simp
    | str x => exact h
    | lst xs => exact all xs h
    | tup xs => exact all xs h
    | _ => cases h
theorem fit_map {α : Type} {n : Nat} {f : α → D} (xs : List α) (h : ∀ x ∈ xs, fitD n (f x) = true) : (xs.map f).all (fitD n) = true := by
  rw [List.all_map]
  exact List.all_eq_true.mpr h
@[simp] theorem ex_and_eq {α : Type} {c : Prop} {a : α} {P : α → Prop} : (∃ z, (c ∧ a = z) ∧ P z) ↔ c ∧ P a :=
  ⟨fun ⟨_, ⟨h, e⟩, p⟩ => by subst e; exact ⟨h, p⟩, fun ⟨h, p⟩ => ⟨a, ⟨h, rfl⟩, p⟩⟩
/-! index, reversed slices, tuple -/
@[simp] theorem wp_dIdx {S : Type} {ρ : Ev} {s : S} {f g : Ev → M S D} {Q : D → S → Prop} : Wp (dIdx f g ρ s) Q ↔ Wp (f ρ s) fun d s1 => Wp (g ρ s1) fun e s2 => OptP (idxO d e) fun z => Q z s2 := by
  unfold dIdx
  simp only [wp_mb, wp_ml]
@[simp] theorem wp_dRev {S : Type} {ρ : Ev} {s : S} {f : Ev → M S D} {Q : List D → S → Prop} : Wp (dRev f ρ s) Q ↔ Wp (f ρ s) fun d s1 => OptP (revO d) fun z => Q z s1 := by
  unfold dRev
  simp only [wp_mb, wp_ml]
@[simp] theorem revO_lst (ds : List D) : revO (.lst ds) = some ds.reverse := rfl
@[simp] theorem revO_brw (n : Nat) (ds : List D) : revO (.brw n (.lst ds)) = some ds.reverse := rfl
@[simp] theorem tupleD_lst (ds : List D) : tupleD [.lst ds] = some (.tup ds) := rfl
@[simp] theorem tupleD_brw (n : Nat) (ds : List D) : tupleD [.brw n (.lst ds)] = some (.tup ds) := rfl
@[simp] theorem tupleD_tup (ds : List D) : tupleD [.tup ds] = some (.tup ds) := rfl
@[simp] theorem sortSetD_lst (ns : List Int) : sortSetD [.lst (ns.map .int)] = if ns.length ≤ 4000 ∧ (uniqI ns).length < 64 then some ((uniqI ns).map .int) else none := by
  show (match asInts (ns.map .int) with
    | some ns => if ns.length ≤ 4000 ∧ (uniqI ns).length < 64 then some ((uniqI ns).map D.int) else none
    | none => none) = _
  rw [asInts_map]
theorem reprD_of {d : D} (h : reprB d = true) (hs : strip d = d) : reprD [d] = some (.str (reprS d)) := by
  show (if reprB (strip d) = true then some (D.str (reprS (strip d))) else none) = _
  rw [hs, if_pos h]
/-! sorted, max, min of data -/
theorem maxG_of {ds : List D} {z : D} (h : maxD ds = some z) : maxG ds = some z := by unfold maxG; rw [h]
theorem minG_of {ds : List D} {z : D} (h : minD ds = some z) : minG ds = some z := by unfold minG; rw [h]
theorem sortG_of {ds z : List D} (h : sortD ds = some z) : sortG ds = some z := by unfold sortG; rw [h]
@[simp] theorem sortG_brw (n : Nat) (ds : List D) : sortG [.brw n (.lst ds)] = sortG [.lst ds] := rfl
@[simp] theorem maxG_brw (n : Nat) (ds : List D) : maxG [.brw n (.lst ds)] = maxG [.lst ds] := rfl
@[simp] theorem minG_brw (n : Nat) (ds : List D) : minG [.brw n (.lst ds)] = minG [.lst ds] := rfl
theorem sortG_ints (ns : List Int) : sortG [.lst (ns.map .int)] = some ((sortI ns).map .int) := sortG_of (sortL_ints ns)
theorem sortG_pairs (ps : List (Int × Int)) : sortG [.lst (ps.map pairD)] = some ((sortP ps).map pairD) := sortG_of (sortL_pairs ps)
/-! draws -/
theorem wp_take {m : Int} {st : DS} {Q : D → DS → Prop} (h1 : 0 < m) (h2 : m < 1073741824) (h3 : st.2 ≠ []) (h : ∀ r st', 0 ≤ r → r < m → st'.2 ≠ [] → Q (.int r) st') : Wp (takeM [.hd 0, .int m] st) Q := by
  obtain ⟨r, st', e, r0, r1, v⟩ := takeI_ok h1 h2 h3
  refine ⟨.int r, st', ?_, h r st' r0 r1 v⟩
  show (match takeI m st with
    | some (r, st') => some (D.int r, st')
    | none => none) = _
  rw [e]
end QL
end
section
set_option Elab.async false
set_option linter.all false
set_option maxRecDepth 100000
set_option maxHeartbeats 4000000
/-! QL: equality of data without truth values; loops that fold and may return. -/
namespace QL
open PySem L2

/-- int, None, text, list, tuple, n deep, no bool -/
def okE : Nat → D → Bool
  | 0, d => match d with
    | .non => true
    | .int _ => true
    | .str x => PyData.strOk x
    | _ => false
  | n + 1, d => match d with
    | .non => true
    | .int _ => true
    | .str x => PyData.strOk x
    | .lst xs => xs.all (okE n)
    | .tup xs => xs.all (okE n)
    | _ => false
@[simp] theorem okE_int (n : Nat) (i : Int) : okE n (.int i) = true := by cases n <;> rfl
@[simp] theorem okE_non (n : Nat) : okE n .non = true := by cases n <;> rfl
theorem okE_str (n : Nat) (x : Str) : okE n (.str x) = PyData.strOk x := by cases n <;> rfl
@[simp] theorem okE_lst (n : Nat) (ds : List D) : okE (n + 1) (.lst ds) = ds.all (okE n) := rfl
@[simp] theorem okE_tup (n : Nat) (ds : List D) : okE (n + 1) (.tup ds) = ds.all (okE n) := rfl
theorem okE_fit : ∀ {n : Nat} {d : D}, okE n d = true → fitD n d = true
  | 0, d, h => by cases d <;> first | rfl | exact h | cases h
  | n + 1, d, h => by
    have all : ∀ ds : List D, ds.all (okE n) = true → ds.all (fitD n) = true := fun ds h =>
      List.all_eq_true.mpr fun x hx => okE_fit (List.all_eq_true.mp h x hx)
    cases d with
    | lst xs => exact all xs h
    | tup xs => exact all xs h
    | non => rfl
    | int _ => rfl
    | str x => exact h
    | _ => cases h
theorem okE_eq : ∀ {n : Nat} {d e : D}, okE n d = true → okE n e = true → (PyData.eqv (dat n d) (dat n e) = true ↔ d = e)
  | 0, d, e, h, h' => by
    cases d <;> first | (cases h; done) | skip
    all_goals cases e <;> first | (cases h'; done) | skip
    all_goals simp [dat, PyData.eqv]
  | n + 1, d, e, h, h' => by
    have all : ∀ ds es : List D, ds.all (okE n) = true → es.all (okE n) = true → (PyData.eqvAll (ds.map (dat n)) (es.map (dat n)) = true ↔ ds = es) := by
      intro ds
      induction ds with
      | nil => intro es _ _; cases es <;> simp [PyData.eqvAll]
      | cons d ds ih =>
        intro es h h'
        cases es with
        | nil => simp [PyData.eqvAll]
        | cons e es =>
          rw [List.all_cons, Bool.and_eq_true] at h h'
          simp only [List.map_cons, PyData.eqvAll, Bool.and_eq_true]
          rw [okE_eq h.1 h'.1, ih es h.2 h'.2]
          simp
    cases d <;> first | (cases h; done) | skip
    all_goals cases e <;> first | (cases h'; done) | skip
    all_goals first
      | (simp only [dat, PyData.eqv, D.lst.injEq]; exact all _ _ h h')
      | (simp only [dat, PyData.eqv, D.tup.injEq]; exact all _ _ h h')
      | simp [dat, PyData.eqv]
theorem eqO_iff (n : Bool) {d e : D} (fd : okE DEP d = true) (fe : okE DEP e = true) {b : Bool} (h : b = true ↔ d = e) : eqO n d e = some (.bl (n ^^ b)) := by
  have sd : ∀ {d : D}, okE DEP d = true → strip d = d := fun {d} f => by cases d <;> first | rfl | cases f
  cases hs : str2 d e with
  | some p =>
    obtain ⟨e1, e2⟩ := str2_some hs
    unfold eqO
    rw [hs]
    show some (D.bl (n ^^ decide (p.1 = p.2))) = _
    have : decide (p.1 = p.2) = b := by
      rw [e1, e2, D.str.injEq] at h
      cases b with
      | true => exact decide_eq_true (h.mp rfl)
      | false => exact decide_eq_false fun z => by have := h.mpr z; cases this
    rw [this]
  | none =>
    rw [eqO_gen n hs (by rw [sd fd]; exact okE_fit fd) (by rw [sd fe]; exact okE_fit fe), sd fd, sd fe]
    have : eqD d e = b := by
      unfold eqD
      cases b with
      | true => exact (okE_eq fd fe).mpr (h.mp rfl)
      | false =>
        cases hc : PyData.eqv (dat DEP d) (dat DEP e) with
        | false => rfl
        | true => have := h.mpr ((okE_eq fd fe).mp hc); cases this
    rw [this]
theorem okE_map {α : Type} {n : Nat} {f : α → D} (xs : List α) (h : ∀ x ∈ xs, okE n (f x) = true) : (xs.map f).all (okE n) = true := by
  rw [List.all_map]
  exact List.all_eq_true.mpr h
@[simp] theorem eqO_brwR (n : Bool) (d : D) (k : Nat) (ds : List D) : eqO n d (.brw k (.lst ds)) = eqO n d (.lst ds) := by cases d <;> rfl
@[simp] theorem eqO_brwL (n : Bool) (d : D) (k : Nat) (ds : List D) : eqO n (.brw k (.lst ds)) d = eqO n (.lst ds) d := by cases d <;> rfl
/-- lists of ints -/
theorem eqO_ints (n : Bool) (xs ys : List Int) : eqO n (.lst (xs.map .int)) (.lst (ys.map .int)) = some (.bl (n ^^ decide (xs = ys))) := by
  have ok : ∀ xs : List Int, okE DEP (.lst (xs.map .int)) = true := fun xs => okE_map (n := 8) xs fun _ _ => okE_int _ _
  refine eqO_iff n (ok xs) (ok ys) ?_
  rw [decide_eq_true_eq, D.lst.injEq]
  refine ⟨fun e => by rw [e], fun e => ?_⟩
  induction xs generalizing ys with
  | nil => cases ys with
    | nil => rfl
    | cons _ _ => cases e
  | cons x xs ih => cases ys with
    | nil => cases e
    | cons y ys =>
      rw [List.map_cons, List.map_cons, List.cons.injEq, D.int.injEq] at e
      rw [e.1, ih ys e.2]

/-! in a list -/
theorem dat_fit : ∀ {n : Nat} {d : D}, fitD n d = true → dat (n + 1) d = dat n d
  | 0, d, h => by cases d <;> first | rfl | (cases h; done)
  | n + 1, d, h => by
    have all : ∀ ds : List D, ds.all (fitD n) = true → ds.map (dat (n + 1)) = ds.map (dat n) := fun ds h =>
      List.map_congr_left fun x hx => dat_fit (List.all_eq_true.mp h x hx)
    cases d with
    | lst xs => show PyData.list _ = PyData.list _; rw [all xs h]
    | tup xs => show PyData.tuple _ = PyData.tuple _; rw [all xs h]
    | _ => rfl
theorem inO_iff (n : Bool) {d : D} {es : List D} (hd : okE 8 d = true) (he : ∀ z ∈ es, okE 8 z = true) {b : Bool} (h : b = true ↔ d ∈ es) : inO n d (.lst es) = some (.bl (n ^^ b)) := by
  have sd : strip d = d := by cases d <;> first | rfl | cases hd
  have fe : fitD DEP (.lst es) = true := List.all_eq_true.mpr fun z hz => okE_fit (he z hz)
  show (if fitD DEP (strip d) = true ∧ fitD DEP (.lst es) = true then some (D.bl (n ^^ (es.map (dat 8)).any fun z => PyData.eqv z (dat DEP (strip d)))) else none) = _
  rw [sd, if_pos ⟨fit_mono (okE_fit hd) (by decide), fe⟩]
  have : ((es.map (dat 8)).any fun z => PyData.eqv z (dat DEP d)) = b := by
    rw [Bool.eq_iff_iff, List.any_eq_true, h, show dat DEP d = dat 8 d from dat_fit (okE_fit hd)]
    constructor
    · rintro ⟨z, hz, e⟩
      obtain ⟨y, hy, rfl⟩ := List.mem_map.mp hz
      rw [← (okE_eq (he y hy) hd).mp e]; exact hy
    · intro hm
      exact ⟨dat 8 d, List.mem_map.mpr ⟨d, hm, rfl⟩, (okE_eq hd hd).mpr rfl⟩
  rw [this]
theorem inO_bls (n b : Bool) (bs : List Bool) : inO n (.bl b) (.lst (bs.map .bl)) = some (.bl (n ^^ bs.any (· == b))) := by
  have fe : fitD DEP (.lst (bs.map D.bl)) = true := fit_map (n := 8) bs fun x _ => fit_bl _ x
  show (if fitD DEP (.bl b) = true ∧ fitD DEP (.lst (bs.map D.bl)) = true then some (D.bl (n ^^ ((bs.map D.bl).map (dat 8)).any fun z => PyData.eqv z (dat DEP (.bl b)))) else none) = _
  rw [if_pos ⟨fit_bl _ _, fe⟩, List.map_map, List.any_map]
  congr 3

/-! loops that fold and may return -/
def foldE {α β : Type} (step : α → β → α ⊕ D) : List β → α → α ⊕ D
  | [], a => .inl a
  | x :: xs, a => match step a x with
    | .inl a' => foldE step xs a'
    | .inr d => .inr d
def FX {α J S : Type} (mk : α → J → Ev) (r : α ⊕ D) (P : α → Prop) (s : S) (o : Out) (s1 : S) : Prop := s1 = s ∧ match r with
  | .inl a => (∃ j', o = .nx (mk a j') ∨ o = .ct (mk a j')) ∧ P a
  | .inr d => o = .rt d
theorem fx_nx {α J S : Type} {mk : α → J → Ev} {r : α ⊕ D} {a : α} {P : α → Prop} {s : S} {ρ : Ev} (j : J) (h : r = .inl a) (e : ρ = mk a j) (p : P a) : FX mk r P s (.nx ρ) s := by
  subst h e; exact ⟨rfl, ⟨j, .inl rfl⟩, p⟩
theorem fx_ct {α J S : Type} {mk : α → J → Ev} {r : α ⊕ D} {a : α} {P : α → Prop} {s : S} {ρ : Ev} (j : J) (h : r = .inl a) (e : ρ = mk a j) (p : P a) : FX mk r P s (.ct ρ) s := by
  subst h e; exact ⟨rfl, ⟨j, .inr rfl⟩, p⟩
theorem fx_rt {α J S : Type} {mk : α → J → Ev} {r : α ⊕ D} {d : D} {P : α → Prop} {s : S} (h : r = .inr d) : FX mk r P s (.rt d) s := by
  subst h; exact ⟨rfl, rfl⟩
def FQ {α J S : Type} (mk : α → J → Ev) (P : α → Prop) (Q : Out → S → Prop) (s : S) : α ⊕ D → Prop
  | .inl a => ∀ j, P a → Q (.nx (mk a j)) s
  | .inr d => Q (.rt d) s
theorem forl_foldE {α β J S : Type} {g : D → Ev → Option Ev} {b : Ev → M S Out} {Q : Out → S → Prop} (enc : β → D) (mk : α → J → Ev) (step : α → β → α ⊕ D) (P : Nat → α → Prop) : ∀ (xs : List β) (n : Nat) (a : α) (j : J) (s : S), P n a →
    (∀ i x, xs[i]? = some x → ∀ a j, P (n + i) a → OptP (g (enc x) (mk a j)) fun ρ1 => Wp (b ρ1 s) fun o s1 => FX mk (step a x) (P (n + i + 1)) s o s1) →
    FQ mk (P (n + xs.length)) Q s (foldE step xs a) → Wp (forl g b (xs.map enc) (mk a j) s) Q
  | [], n, a, j, s, p, _, he => forl_nil.mpr (he j p)
  | x :: xs, n, a, j, s, p, hs, he => by
    obtain ⟨ρ1, e, h⟩ := hs 0 x rfl a j p
    refine forl_cons.mpr ⟨ρ1, e, h.imp fun o s1 ⟨es, hq⟩ => ?_⟩
    subst es
    unfold foldE at he
    cases hr : step a x with
    | inr d =>
      rw [hr] at hq he
      have hq : o = .rt d := hq
      subst hq
      exact he
    | inl a' =>
      rw [hr] at hq he
      obtain ⟨⟨j', ho⟩, p'⟩ := hq
      have nx : Wp (forl g b (xs.map enc) (mk a' j') s1) Q := forl_foldE enc mk step P xs (n + 1) a' j' s1 p' (fun i x' hx a j pa => by
        rw [show n + 1 + i = n + (i + 1) by omega] at pa ⊢
        exact hs (i + 1) x' (by rw [List.getElem?_cons_succ]; exact hx) a j pa) (by rw [show n + 1 + xs.length = n + (x :: xs).length by rw [List.length_cons]; omega]; exact he)
      rcases ho with rfl | rfl <;> exact nx
/-! loops over lists that stand there -/
@[simp] theorem wp_forl_nil {S : Type} {ρ : Ev} {s : S} {g : D → Ev → Option Ev} {b : Ev → M S Out} {Q : Out → S → Prop} : Wp (forl g b [] ρ s) Q ↔ Q (.nx ρ) s := forl_nil
@[simp] theorem wp_forl_cons {S : Type} {ρ : Ev} {s : S} {g : D → Ev → Option Ev} {b : Ev → M S Out} {d : D} {ds : List D} {Q : Out → S → Prop} : Wp (forl g b (d :: ds) ρ s) Q ↔ OptP (g d ρ) fun ρ1 => Wp (b ρ1 s) fun o s1 => forP g b ds Q o s1 := forl_cons
@[simp] theorem forP_nx {S : Type} {ρ : Ev} {s : S} {g : D → Ev → Option Ev} {b : Ev → M S Out} {ds : List D} {Q : Out → S → Prop} : forP g b ds Q (.nx ρ) s ↔ Wp (forl g b ds ρ s) Q := Iff.rfl
@[simp] theorem forP_ct {S : Type} {ρ : Ev} {s : S} {g : D → Ev → Option Ev} {b : Ev → M S Out} {ds : List D} {Q : Out → S → Prop} : forP g b ds Q (.ct ρ) s ↔ Wp (forl g b ds ρ s) Q := Iff.rfl
@[simp] theorem forP_bk {S : Type} {ρ : Ev} {s : S} {g : D → Ev → Option Ev} {b : Ev → M S Out} {ds : List D} {Q : Out → S → Prop} : forP g b ds Q (.bk ρ) s ↔ Q (.nx ρ) s := Iff.rfl
@[simp] theorem forP_rt {S : Type} {s : S} {d : D} {g : D → Ev → Option Ev} {b : Ev → M S Out} {ds : List D} {Q : Out → S → Prop} : forP g b ds Q (.rt d) s ↔ Q (.rt d) s := Iff.rfl
/-- a loop over a range: the frame before turn i is mk i j; the turn may return where c i -/
def FR {J S : Type} (mk : Nat → J → Ev) (i : Nat) (c : Prop) (r : D) (s : S) (o : Out) (s1 : S) : Prop := s1 = s ∧ (c → o = .rt r) ∧ (¬ c → ∃ j', o = .nx (mk (i + 1) j') ∨ o = .ct (mk (i + 1) j'))
theorem fr_nx {J S : Type} {mk : Nat → J → Ev} {i : Nat} {c : Prop} {r : D} {s : S} {ρ : Ev} (j : J) (h : ¬ c) (e : ρ = mk (i + 1) j) : FR mk i c r s (.nx ρ) s := ⟨rfl, fun z => absurd z h, fun _ => ⟨j, .inl (by rw [e])⟩⟩
theorem fr_ct {J S : Type} {mk : Nat → J → Ev} {i : Nat} {c : Prop} {r : D} {s : S} {ρ : Ev} (j : J) (h : ¬ c) (e : ρ = mk (i + 1) j) : FR mk i c r s (.ct ρ) s := ⟨rfl, fun z => absurd z h, fun _ => ⟨j, .inr (by rw [e])⟩⟩
theorem fr_rt {J S : Type} {mk : Nat → J → Ev} {i : Nat} {c : Prop} {r d : D} {s : S} (h : c) (e : d = r) : FR mk i c r s (.rt d) s := ⟨rfl, fun _ => by rw [e], fun z => absurd h z⟩
theorem forl_listE {β J S : Type} {g : D → Ev → Option Ev} {b : Ev → M S Out} {Q : Out → S → Prop} (enc : β → D) (xs : List β) (mk : Nat → J → Ev) (c : Nat → Prop) (r : Nat → D) (j : J) (s : S)
    (hs : ∀ i x, xs[i]? = some x → (∀ k, k < i → ¬ c k) → ∀ j, OptP (g (enc x) (mk i j)) fun ρ1 => Wp (b ρ1 s) fun o s1 => FR mk i (c i) (r i) s o s1)
    (hr : ∀ i, i < xs.length → (∀ k, k < i → ¬ c k) → c i → Q (.rt (r i)) s) (he : (∀ k, k < xs.length → ¬ c k) → ∀ j, Q (.nx (mk xs.length j)) s) : Wp (forl g b (xs.map enc) (mk 0 j) s) Q := by
  refine forl_inv _ (fun i ρ s1 => (∀ k, k < i → ¬ c k) ∧ (∃ j, ρ = mk i j) ∧ s1 = s) ⟨fun k h => absurd h (by omega), ⟨j, rfl⟩, rfl⟩ (fun i d ρ s1 hd h => ?_) (fun ρ s1 h => ?_)
  · obtain ⟨h1, ⟨j, rfl⟩, rfl⟩ := h
    rw [List.getElem?_map] at hd
    obtain ⟨x, hx, rfl⟩ := map_some' hd
    obtain ⟨ρ1, e, h⟩ := hs i x hx h1 j
    refine ⟨ρ1, e, h.imp fun o s2 hq => ?_⟩
    obtain ⟨e2, q1, q2⟩ := hq
    by_cases hc : c i
    · exact .inr (.inr ⟨r i, q1 hc, by rw [e2]; exact hr i (List.getElem?_eq_some_iff.mp hx).1 h1 hc⟩)
    · obtain ⟨j', ho⟩ := q2 hc
      refine .inl ⟨mk (i + 1) j', ho, fun k hk => ?_, ⟨j', rfl⟩, e2⟩
      by_cases e : k = i
      · rw [e]; exact hc
      · exact h1 k (by omega)
  · obtain ⟨h1, ⟨j, rfl⟩, rfl⟩ := h
    rw [List.length_map] at h1 ⊢
    exact he h1 j
theorem range_get {n i x : Nat} (h : (List.range n)[i]? = some x) : x = i ∧ i < n := by
  obtain ⟨h1, h2⟩ := List.getElem?_eq_some_iff.mp h
  rw [List.getElem_range] at h2
  rw [List.length_range] at h1
  exact ⟨h2.symm, h1⟩
theorem forl_rngE {J S : Type} {g : D → Ev → Option Ev} {b : Ev → M S Out} {Q : Out → S → Prop} (lo : Int) (n : Nat) (mk : Nat → J → Ev) (c : Nat → Prop) (r : Nat → D) (j : J) (s : S)
    (hs : ∀ i, i < n → (∀ k, k < i → ¬ c k) → ∀ j, OptP (g (rE lo i) (mk i j)) fun ρ1 => Wp (b ρ1 s) fun o s1 => FR mk i (c i) (r i) s o s1)
    (hr : ∀ i, i < n → (∀ k, k < i → ¬ c k) → c i → Q (.rt (r i)) s) (he : (∀ k, k < n → ¬ c k) → ∀ j, Q (.nx (mk n j)) s) : Wp (forl g b ((List.range n).map (rE lo)) (mk 0 j) s) Q := by
  refine forl_listE (rE lo) (List.range n) mk c r j s (fun i x hx h1 j => ?_) (fun i hi => ?_) (fun h j => ?_)
  · obtain ⟨rfl, hi⟩ := range_get hx
    exact hs x hi h1 j
  · rw [List.length_range] at hi
    exact hr i hi
  · rw [List.length_range] at h ⊢
    exact he h j
theorem forl_rng {J S : Type} {g : D → Ev → Option Ev} {b : Ev → M S Out} {Q : Out → S → Prop} (lo : Int) (n : Nat) (mk : Nat → J → Ev) (j : J) (s : S)
    (hs : ∀ i, i < n → ∀ j, OptP (g (rE lo i) (mk i j)) fun ρ1 => Wp (b ρ1 s) fun o s1 => FR mk i False .non s o s1)
    (he : ∀ j, Q (.nx (mk n j)) s) : Wp (forl g b ((List.range n).map (rE lo)) (mk 0 j) s) Q :=
  forl_rngE lo n mk (fun _ => False) (fun _ => .non) j s (fun i hi _ j => hs i hi j) (fun _ _ _ z => z.elim) (fun _ j => he j)
end QL
end
section
set_option Elab.async false
set_option linter.all false
set_option maxRecDepth 100000
set_option maxHeartbeats 4000000
/-! QL: small things of many laws: places of lists, searches, loops that check. -/
namespace QL
open PySem L2

/-! places -/
theorem atI_get {α : Type} {xs : List α} {j : Nat} {v : α} (h : xs[j]? = some v) : L2.atI xs (j : Int) = some v := L2.atI_nat h
theorem atI_map {α : Type} (f : α → D) {xs : List α} {j : Nat} (h : j < xs.length) : L2.atI (xs.map f) (j : Int) = some (f xs[j]) := atI_get (by rw [List.getElem?_map, List.getElem?_eq_getElem h]; rfl)
theorem atI_mapD {α : Type} [Inhabited α] (f : α → D) {xs : List α} {j : Nat} (h : j < xs.length) : L2.atI (xs.map f) (j : Int) = some (f (xs.getD j default)) := by
  rw [atI_map f h, List.getD_eq_getElem?_getD, List.getElem?_eq_getElem h]; rfl
theorem getD_mem {α : Type} {xs : List α} {j : Nat} {d : α} (h : j < xs.length) : xs.getD j d ∈ xs := by
  rw [List.getD_eq_getElem?_getD, List.getElem?_eq_getElem h]; exact List.getElem_mem h
theorem getD_of {α : Type} {xs : List α} {j : Nat} {v d : α} (h : xs[j]? = some v) : xs.getD j d = v := by
  rw [List.getD_eq_getElem?_getD, h]; rfl
theorem get_getD {α : Type} {xs : List α} {j : Nat} (d : α) (h : j < xs.length) : xs[j]? = some (xs.getD j d) := by
  rw [List.getD_eq_getElem?_getD, List.getElem?_eq_getElem h]; rfl
/-- an index that a check let through -/
theorem nat_of {i : Int} (h : 0 ≤ i) : ∃ n : Nat, i = n := ⟨i.toNat, by omega⟩
theorem setAt_map {α : Type} (f : α → D) {xs : List α} {j : Nat} (h : j < xs.length) (y : α) : setAt (.int (j : Int)) (f y) (xs.map f) = some ((xs.set j y).map f) := by
  show (match L2.ixN (xs.map f).length (j : Int) with
    | some i => some ((xs.map f).set i (f y))
    | none => none) = _
  have e : L2.ixN (xs.map f).length (j : Int) = some j := by
    unfold L2.ixN
    rw [if_pos (by omega), if_pos (by rw [List.length_map]; omega)]; rfl
  rw [e, List.map_set]
/-! searches -/
theorem find_range {n i : Nat} {p : Nat → Bool} (hi : i < n) (h : ∀ k, k < i → ¬ p k = true) (hp : p i = true) : (List.range n).find? p = some i := by
  rw [List.find?_eq_some_iff_append]
  refine ⟨hp, List.range i, List.range' (i + 1) (n - (i + 1)), ?_, fun k hk => ?_⟩
  · rw [List.range_eq_range', List.range_eq_range']
    have := @List.range'_append_1 0 i (n - i)
    rw [Nat.zero_add, show i + (n - i) = n by omega] at this
    rw [← this, show n - i = (n - (i + 1)) + 1 by omega, List.range'_succ]
  · have := h k (List.mem_range.mp hk)
    simpa using this
theorem find_none {n : Nat} {p : Nat → Bool} (h : ∀ k, k < n → ¬ p k = true) : (List.range n).find? p = none := by
  rw [List.find?_eq_none]
  exact fun k hk => h k (List.mem_range.mp hk)
theorem find_some_range {n i : Nat} {p : Nat → Bool} (h : (List.range n).find? p = some i) : i < n ∧ p i = true ∧ ∀ k, k < i → ¬ p k = true := by
  obtain ⟨hp, as, bs, e, hno⟩ := List.find?_eq_some_iff_append.mp h
  have hi : i < n := List.mem_range.mp (by rw [e]; simp)
  refine ⟨hi, hp, fun k hk => ?_⟩
  have hm : k ∈ as := by
    have hl : as.length = i := by
      have := congrArg (fun l => l[as.length]?) e
      simp only [List.getElem?_append_right (Nat.le_refl _), Nat.sub_self, List.getElem?_cons_zero] at this
      obtain ⟨h1, h2⟩ := List.getElem?_eq_some_iff.mp this
      rw [List.getElem_range] at h2
      exact h2
    have hk2 : (List.range n)[k]? = some k := by rw [List.getElem?_range (by omega)]
    rw [e, List.getElem?_append_left (by omega)] at hk2
    exact List.mem_of_getElem? hk2
  have := hno k hm
  simpa using this
/-- the first of a filter is what the search finds -/
theorem filter_head {α : Type} {p : α → Bool} : ∀ {xs : List α} {x : α} {ys : List α}, xs.filter p = x :: ys → xs.find? p = some x
  | [], _, _, h => by cases h
  | a :: xs, x, ys, h => by
    rw [List.filter_cons] at h
    rw [List.find?_cons]
    by_cases c : p a = true
    · rw [if_pos c] at h
      rw [c]; cases h; rfl
    · rw [if_neg c] at h
      rw [Bool.not_eq_true] at c
      rw [c]; exact filter_head h
theorem filter_nil_iff {α : Type} {p : α → Bool} {xs : List α} : xs.filter p = [] ↔ xs.find? p = none := by
  rw [List.filter_eq_nil_iff, List.find?_eq_none]
theorem head_filter {α : Type} {p : α → Bool} (xs : List α) : (xs.filter p).head? = xs.find? p := by
  cases h : xs.filter p with
  | nil => rw [filter_nil_iff.mp h]; rfl
  | cons x ys => rw [filter_head h]; rfl
/-! loops that check -/
def Chk {J S : Type} (mk : J → Ev) (V : S → Prop) (o : Out) (s : S) : Prop := (∃ j', o = .nx (mk j') ∨ o = .ct (mk j')) ∧ V s
def Acc {α J S : Type} (mk : α → J → Ev) (P : α → S → Prop) (o : Out) (s : S) : Prop := ∃ a' j', (o = .nx (mk a' j') ∨ o = .ct (mk a' j')) ∧ P a' s
theorem forl_chk {β J S : Type} {g : D → Ev → Option Ev} {b : Ev → M S Out} {Q : Out → S → Prop} (enc : β → D) (mk : J → Ev) (V : S → Prop) : ∀ (xs : List β) (j : J) (s : S), V s →
    (∀ x ∈ xs, ∀ j s, V s → OptP (g (enc x) (mk j)) fun ρ1 => Wp (b ρ1 s) fun o s1 => Chk mk V o s1) →
    (∀ j s, V s → Q (.nx (mk j)) s) → Wp (forl g b (xs.map enc) (mk j) s) Q
  | [], j, s, v, _, he => forl_nil.mpr (he j s v)
  | x :: xs, j, s, v, hs, he => by
    obtain ⟨ρ1, e, h⟩ := hs x List.mem_cons_self j s v
    refine forl_cons.mpr ⟨ρ1, e, h.imp fun o s1 ⟨⟨j', ho⟩, v1⟩ => ?_⟩
    have nx : Wp (forl g b (xs.map enc) (mk j') s1) Q := forl_chk enc mk V xs j' s1 v1 (fun y hy => hs y (List.mem_cons_of_mem _ hy)) he
    rcases ho with rfl | rfl <;> exact nx
/-- a turn of such a loop that goes on -/
theorem chk_nx {J S : Type} {mk : J → Ev} {V : S → Prop} {s : S} {ρ : Ev} (j : J) (e : ρ = mk j) (v : V s) : Chk mk V (.nx ρ) s := ⟨⟨j, .inl (by rw [e])⟩, v⟩
theorem chk_ct {J S : Type} {mk : J → Ev} {V : S → Prop} {s : S} {ρ : Ev} (j : J) (e : ρ = mk j) (v : V s) : Chk mk V (.ct ρ) s := ⟨⟨j, .inr (by rw [e])⟩, v⟩
/-- a loop that builds a state and draws -/
theorem forl_acc {α β J S : Type} {g : D → Ev → Option Ev} {b : Ev → M S Out} {Q : Out → S → Prop} (enc : β → D) (mk : α → J → Ev) (P : Nat → α → S → Prop) : ∀ (xs : List β) (n : Nat) (a : α) (j : J) (s : S), P n a s →
    (∀ i x, xs[i]? = some x → ∀ a j s, P (n + i) a s → OptP (g (enc x) (mk a j)) fun ρ1 => Wp (b ρ1 s) fun o s1 => Acc mk (P (n + i + 1)) o s1) →
    (∀ a j s, P (n + xs.length) a s → Q (.nx (mk a j)) s) → Wp (forl g b (xs.map enc) (mk a j) s) Q
  | [], n, a, j, s, p, _, he => forl_nil.mpr (he a j s p)
  | x :: xs, n, a, j, s, p, hs, he => by
    obtain ⟨ρ1, e, h⟩ := hs 0 x rfl a j s p
    refine forl_cons.mpr ⟨ρ1, e, h.imp fun o s1 ⟨a', j', ho, p'⟩ => ?_⟩
    have nx : Wp (forl g b (xs.map enc) (mk a' j') s1) Q := forl_acc enc mk P xs (n + 1) a' j' s1 p' (fun i y hy a j s p => by
      rw [show n + 1 + i = n + (i + 1) by omega] at p ⊢
      exact hs (i + 1) y (by simpa using hy) a j s p) (fun a j s p => he a j s (by rw [List.length_cons, show n + (xs.length + 1) = n + 1 + xs.length by omega]; exact p))
    rcases ho with rfl | rfl <;> exact nx
theorem acc_nx {α J S : Type} {mk : α → J → Ev} {P : α → S → Prop} {s : S} {ρ : Ev} (a : α) (j : J) (e : ρ = mk a j) (p : P a s) : Acc mk P (.nx ρ) s := ⟨a, j, .inl (by rw [e]), p⟩
theorem acc_ct {α J S : Type} {mk : α → J → Ev} {P : α → S → Prop} {s : S} {ρ : Ev} (a : α) (j : J) (e : ρ = mk a j) (p : P a s) : Acc mk P (.ct ρ) s := ⟨a, j, .inr (by rw [e]), p⟩
/-! equality with None and of words -/
theorem eqO_non (n : Bool) : eqO n .non .non = some (.bl (!n)) := eqO_same n rfl
/-- a written choice [c0, c1, ..][draw] -/
theorem pick {es : List D} {r : Int} (h0 : 0 ≤ r) (h1 : r < es.length) : ∃ d, d ∈ es ∧ L2.atI es r = some d := by
  obtain ⟨n, rfl⟩ := nat_of h0
  have hn : n < es.length := by omega
  exact ⟨es[n], List.getElem_mem hn, atI_get (List.getElem?_eq_getElem hn)⟩
/-! equality of encoded lists -/
theorem map_inj {α : Type} {f : α → D} (hf : ∀ a b, f a = f b → a = b) : ∀ {xs ys : List α}, xs.map f = ys.map f → xs = ys
  | [], [], _ => rfl
  | [], _ :: _, h => by cases h
  | _ :: _, [], h => by cases h
  | x :: xs, y :: ys, h => by
    rw [List.map_cons, List.map_cons, List.cons.injEq] at h
    rw [hf _ _ h.1, map_inj hf h.2]
theorem eqO_map {α : Type} [DecidableEq α] {f : α → D} (hf : ∀ a b, f a = f b → a = b) (ok : ∀ a, okE 8 (f a) = true) (n : Bool) (xs ys : List α) : eqO n (.lst (xs.map f)) (.lst (ys.map f)) = some (.bl (n ^^ decide (xs = ys))) := by
  refine eqO_iff n (show okE DEP (.lst (xs.map f)) = true from okE_map (n := 8) xs fun a _ => ok a) (show okE DEP (.lst (ys.map f)) = true from okE_map (n := 8) ys fun a _ => ok a) ?_
  rw [decide_eq_true_eq, D.lst.injEq]
  exact ⟨fun e => by rw [e], map_inj hf⟩
theorem eqO_enc {α : Type} [DecidableEq α] {f : α → D} (hf : ∀ a b, f a = f b → a = b) (ok : ∀ a, okE 9 (f a) = true) (n : Bool) (x y : α) : eqO n (f x) (f y) = some (.bl (n ^^ decide (x = y))) := by
  refine eqO_iff n (ok x) (ok y) ?_
  rw [decide_eq_true_eq]
  exact ⟨fun e => by rw [e], hf x y⟩
theorem inO_map {α : Type} [DecidableEq α] {f : α → D} (hf : ∀ a b, f a = f b → a = b) (ok : ∀ a, okE 8 (f a) = true) (n : Bool) (x : α) (xs : List α) : inO n (f x) (.lst (xs.map f)) = some (.bl (n ^^ decide (x ∈ xs))) := by
  refine inO_iff n (ok x) (fun z hz => ?_) ?_
  · obtain ⟨y, _, rfl⟩ := List.mem_map.mp hz; exact ok y
  · rw [decide_eq_true_eq, List.mem_map]
    exact ⟨fun h => ⟨x, h, rfl⟩, fun ⟨y, h, e⟩ => by rw [← hf _ _ e]; exact h⟩
theorem int_inj : ∀ a b : Int, D.int a = D.int b → a = b := fun a b h => D.int.inj h
@[simp] theorem eqO_non_int (n : Bool) (i : Int) : eqO n .non (.int i) = some (.bl n) := by
  rw [eqO_iff n (b := false) rfl (okE_int _ _) (by simp), Bool.xor_false]
@[simp] theorem eqO_int_non (n : Bool) (i : Int) : eqO n (.int i) .non = some (.bl n) := by
  rw [eqO_iff n (b := false) (okE_int _ _) rfl (by simp), Bool.xor_false]
@[simp] theorem eqO_non_non (n : Bool) : eqO n .non .non = some (.bl (!n)) := eqO_non n
@[simp] theorem eqO_non_tup (n : Bool) {ds : List D} (h : okE DEP (.tup ds) = true) : eqO n .non (.tup ds) = some (.bl n) := by
  rw [eqO_iff n (b := false) rfl h (by simp), Bool.xor_false]
@[simp] theorem eqO_tup_non (n : Bool) {ds : List D} (h : okE DEP (.tup ds) = true) : eqO n (.tup ds) .non = some (.bl n) := by
  rw [eqO_iff n (b := false) h rfl (by simp), Bool.xor_false]
/-! least and greatest -/
theorem minD_spec {xs : List Int} (h : xs ≠ []) : ∃ m, minD [.lst (xs.map .int)] = some (.int m) ∧ m ∈ xs ∧ ∀ y ∈ xs, m ≤ y := by
  match xs, h with
  | n :: ns, _ =>
    obtain ⟨h1, h2, h3⟩ := leastI_spec ns n
    refine ⟨_, minD_eq n ns, h1, fun y hy => ?_⟩
    rcases List.mem_cons.mp hy with rfl | hy
    · exact h2
    · exact h3 y hy
theorem maxD_spec {xs : List Int} (h : xs ≠ []) : ∃ m, maxD [.lst (xs.map .int)] = some (.int m) ∧ m ∈ xs ∧ ∀ y ∈ xs, y ≤ m := by
  match xs, h with
  | n :: ns, _ =>
    obtain ⟨h1, h2, h3⟩ := mostI_spec ns n
    refine ⟨_, maxD_eq n ns, h1, fun y hy => ?_⟩
    rcases List.mem_cons.mp hy with rfl | hy
    · exact h2
    · exact h3 y hy
theorem minG_spec {xs : List Int} (h : xs ≠ []) : ∃ m, minG [.lst (xs.map .int)] = some (.int m) ∧ m ∈ xs ∧ ∀ y ∈ xs, m ≤ y := by
  obtain ⟨m, e, r⟩ := minD_spec h
  exact ⟨m, minG_of e, r⟩
theorem maxG_spec {xs : List Int} (h : xs ≠ []) : ∃ m, maxG [.lst (xs.map .int)] = some (.int m) ∧ m ∈ xs ∧ ∀ y ∈ xs, y ≤ m := by
  obtain ⟨m, e, r⟩ := maxD_spec h
  exact ⟨m, maxG_of e, r⟩
/-! the best of data by an order of one's own -/
theorem fold_map {α : Type} {f : α → D} {lt : α → α → Bool} (h : ∀ a b, ltG (f a) (f b) = lt a b) : ∀ (xs : List α) (x : α), maxE (f x) (xs.map f) = f (xs.foldl (fun a y => if lt a y = true then y else a) x)
  | [], x => rfl
  | y :: xs, x => by
    show maxE (if ltG (f x) (f y) = true then f y else f x) (xs.map f) = _
    rw [h, List.foldl_cons]
    split
    · exact fold_map h xs y
    · exact fold_map h xs x
theorem foldMin_map {α : Type} {f : α → D} {lt : α → α → Bool} (h : ∀ a b, ltG (f a) (f b) = lt a b) : ∀ (xs : List α) (x : α), minE (f x) (xs.map f) = f (xs.foldl (fun a y => if lt y a = true then y else a) x)
  | [], x => rfl
  | y :: xs, x => by
    show minE (if ltG (f y) (f x) = true then f y else f x) (xs.map f) = _
    rw [h, List.foldl_cons]
    split
    · exact foldMin_map h xs y
    · exact foldMin_map h xs x
/-- pairs of ints -/
def ltPr (p q : Int × Int) : Bool := decide (p.1 < q.1) || (decide (p.1 = q.1) && decide (p.2 < q.2))
theorem ltPr_iff {p q : Int × Int} : ltPr p q = true ↔ p.1 < q.1 ∨ (p.1 = q.1 ∧ p.2 < q.2) := by
  unfold ltPr
  simp only [Bool.or_eq_true, Bool.and_eq_true, decide_eq_true_eq]
theorem ltG_pair (p q : Int × Int) : ltG (pairD p) (pairD q) = ltPr p q := by
  show PySem.W.dataLt (.tuple [.int p.1, .int p.2]) (.tuple [.int q.1, .int q.2]) = _
  rw [PySem.W.dataLt_ii, Bool.eq_iff_iff, ltPr_iff, decide_eq_true_eq]
theorem alike_pairs (ps : List (Int × Int)) : alikeB (ps.map pairD) = true := by
  unfold alikeB
  rw [List.all_map]
  refine List.all_eq_true.mpr fun p _ => ?_
  show (((ps.map pairD).all fun y => PySem.W.alike (dat 8 (pairD p)) (dat 8 y)) && true) = true
  rw [List.all_map, List.all_eq_true.mpr fun q _ => ?_]
  · rfl
  · show PySem.W.alike (.tuple [.int p.1, .int p.2]) (.tuple [.int q.1, .int q.2]) = true
    simp [PySem.W.alike, PySem.W.alikeAll]
theorem fit_pairs (ps : List (Int × Int)) : (ps.map pairD).all (fitD 8) = true := by
  rw [List.all_map]
  exact List.all_eq_true.mpr fun p _ => by simp [pairD, Function.comp]
def maxPr (p : Int × Int) (ps : List (Int × Int)) : Int × Int := ps.foldl (fun a y => if ltPr a y = true then y else a) p
def minPr (p : Int × Int) (ps : List (Int × Int)) : Int × Int := ps.foldl (fun a y => if ltPr y a = true then y else a) p
theorem maxG_pairs (p : Int × Int) (ps : List (Int × Int)) : maxG [.lst ((p :: ps).map pairD)] = some (pairD (maxPr p ps)) := by
  unfold maxG
  have e : maxD [.lst ((p :: ps).map pairD)] = none := rfl
  rw [e]
  show (if ((p :: ps).map pairD).all (fitD 8) = true ∧ alikeB ((p :: ps).map pairD) = true then some (maxE (pairD p) (ps.map pairD)) else none) = _
  rw [if_pos ⟨fit_pairs _, alike_pairs _⟩, fold_map ltG_pair]; rfl
theorem minG_pairs (p : Int × Int) (ps : List (Int × Int)) : minG [.lst ((p :: ps).map pairD)] = some (pairD (minPr p ps)) := by
  unfold minG
  have e : minD [.lst ((p :: ps).map pairD)] = none := rfl
  rw [e]
  show (if ((p :: ps).map pairD).all (fitD 8) = true ∧ alikeB ((p :: ps).map pairD) = true then some (minE (pairD p) (ps.map pairD)) else none) = _
  rw [if_pos ⟨fit_pairs _, alike_pairs _⟩, foldMin_map ltG_pair]; rfl
theorem maxPr_spec : ∀ (ps : List (Int × Int)) (p : Int × Int), maxPr p ps ∈ p :: ps ∧ ∀ q ∈ p :: ps, ltPr (maxPr p ps) q = false
  | [], p => ⟨by simp [maxPr], fun q hq => by
      rw [List.mem_singleton] at hq; subst hq
      show ltPr q q = false
      cases h : ltPr q q
      · rfl
      · have := ltPr_iff.mp h; omega⟩
  | r :: ps, p => by
    have e : maxPr p (r :: ps) = maxPr (if ltPr p r = true then r else p) ps := rfl
    rw [e]
    obtain ⟨h1, h2⟩ := maxPr_spec ps (if ltPr p r = true then r else p)
    have tr : ∀ a b c, ltPr a b = false → ltPr b c = false → ltPr a c = false := fun a b c x y => by
      cases h : ltPr a c
      · rfl
      · have h := ltPr_iff.mp h
        have x := mt ltPr_iff.mpr (by rw [x]; decide)
        have y := mt ltPr_iff.mpr (by rw [y]; decide)
        omega
    have hd := h2 _ List.mem_cons_self
    by_cases c : ltPr p r = true
    · rw [if_pos c] at h1 h2 hd ⊢
      refine ⟨List.mem_cons_of_mem _ h1, fun q hq => ?_⟩
      rcases List.mem_cons.mp hq with rfl | hq
      · refine tr _ r _ hd ?_
        cases h : ltPr r q
        · rfl
        · have h := ltPr_iff.mp h; have c := ltPr_iff.mp c; omega
      · exact h2 q hq
    · rw [if_neg c] at h1 h2 hd ⊢
      rw [Bool.not_eq_true] at c
      refine ⟨?_, fun q hq => ?_⟩
      · rcases List.mem_cons.mp h1 with h | h
        · rw [h]; exact List.mem_cons_self
        · exact List.mem_cons_of_mem _ (List.mem_cons_of_mem _ h)
      · rcases List.mem_cons.mp hq with rfl | hq
        · exact hd
        · rcases List.mem_cons.mp hq with rfl | hq
          · exact tr _ p _ hd c
          · exact h2 q (List.mem_cons_of_mem _ hq)
/-! repr: what is needed of it -/
/-- scalars that are short -/
def okR0 : D → Bool
  | .int i => decide (i.natAbs < 18446744073709551616)
  | .bl _ => true
  | .non => true
  | .str x => PyData.strOk x && decide ((reprText x).length ≤ 68)
  | _ => false
def okR : Nat → D → Bool
  | 0, d => okR0 d
  | n + 1, .lst ds => ds.all (okR n)
  | n + 1, .tup ds => ds.all (okR n)
  | _ + 1, d => okR0 d
def szR : Nat → D → Nat
  | 0, _ => 70
  | n + 1, .lst ds => 4 + (ds.map fun d => szR n d + 2).sum
  | n + 1, .tup ds => 4 + (ds.map fun d => szR n d + 2).sum
  | _ + 1, _ => 70
theorem int_len {i : Int} (h : i.natAbs < 18446744073709551616) : (Str.ofString (toString i)).length ≤ 70 ∧ i.natAbs.log2 < 1920 := by
  have hl : i.natAbs.log2 < 64 := by
    by_cases c : i.natAbs = 0
    · rw [c]; decide
    · exact (Nat.log2_lt c).mpr h
  refine ⟨?_, by omega⟩
  rw [ofString_length]
  exact Nat.le_trans (int_text_length_le (k := 64) (by decide) hl) (by decide)
theorem okR0_shown {n : Nat} {d : D} (h : okR0 d = true) : (dat n d).shown.length ≤ 70 ∧ (dat n d).showable = true ∧ fitD n d = true := by
  cases d with
  | int i =>
    obtain ⟨h1, h2⟩ := int_len (of_decide_eq_true h)
    have e : dat n (.int i) = .int i := by cases n <;> rfl
    rw [e]
    exact ⟨by simp only [PyData.shown]; exact h1, by simp only [PyData.showable]; exact decide_eq_true h2, fit_int n i⟩
  | bl b =>
    have e : dat n (.bl b) = .bool b := by cases n <;> rfl
    rw [e]
    exact ⟨by simp only [PyData.shown]; cases b <;> decide, by simp only [PyData.showable], fit_bl n b⟩
  | non =>
    have e : dat n .non = .none := by cases n <;> rfl
    rw [e]
    exact ⟨by simp only [PyData.shown]; decide, by simp only [PyData.showable], fit_non n⟩
  | str x =>
    have e : dat n (.str x) = .str x := by cases n <;> rfl
    rw [e]
    unfold okR0 at h
    rw [Bool.and_eq_true] at h
    exact ⟨by simp only [PyData.shown]; exact Nat.le_trans (of_decide_eq_true h.2) (by decide), by simp only [PyData.showable], by cases n <;> exact h.1⟩
  | _ => cases h
theorem listText_len (ts : List Str) : (listText ts).length ≤ 4 + piled ts := by
  unfold listText
  rw [strLen_append]
  have e1 : (("]" : String) : Str).length = 1 := rfl
  have e2 : (("[" : String) : Str).length = 1 := rfl
  rw [e1]
  cases ts with
  | nil => show (("[" : String) : Str).length + 1 ≤ _; rw [e2]; omega
  | cons t ts =>
    show (textFrom 1 _ ts).length + 1 ≤ _
    rw [textFrom_length_pos ts 1 _ (by decide), strLen_append, strLen_append, e2, piled_cons]
    have e3 : (((if (0 : Nat) > 0 then ", " else "" : String)) : Str).length = 0 := rfl
    rw [e3]; omega
theorem tupleText_len (ts : List Str) : (tupleText ts).length ≤ 4 + piled ts := by
  unfold tupleText
  rw [strLen_append, strLen_append]
  have e1 : ((("(" : String) : Str)).length = 1 := rfl
  have e3 : (((if ts.length == 1 then ",)" else ")" : String) : Str)).length ≤ 2 := by split <;> decide
  rw [e1]
  cases ts with
  | nil => 
    have e4 : (Str.join ", " []).length = 0 := rfl
    rw [e4]; omega
  | cons t ts =>
    have := join_length_add (t :: ts) (by simp)
    omega
theorem okR_shown : ∀ {n : Nat} {d : D}, okR n d = true → (dat n d).shown.length ≤ szR n d ∧ (dat n d).showable = true ∧ fitD n d = true
  | 0, d, h => okR0_shown h
  | n + 1, d, h => by
    have all : ∀ ds : List D, ds.all (okR n) = true → piled (PyData.shownAll (ds.map (dat n))) ≤ (ds.map fun d => szR n d + 2).sum ∧ PyData.showableAll (ds.map (dat n)) = true ∧ ds.all (fitD n) = true := by
      intro ds
      induction ds with
      | nil => intro _; simp [PyData.shownAll, PyData.showableAll, piled_nil]
      | cons d ds ih =>
        intro h
        rw [List.all_cons, Bool.and_eq_true] at h
        obtain ⟨i1, i2, i3⟩ := ih h.2
        obtain ⟨j1, j2, j3⟩ := okR_shown h.1
        refine ⟨?_, ?_, by rw [List.all_cons, j3, i3]; rfl⟩
        · simp only [List.map_cons, PyData.shownAll, piled_cons, List.sum_cons]; omega
        · simp only [List.map_cons, PyData.showableAll, j2, i2, Bool.and_self]
    cases d with
    | lst ds =>
      obtain ⟨i1, i2, i3⟩ := all ds h
      exact ⟨by simp only [dat, PyData.shown]; exact Nat.le_trans (listText_len _) (by show _ ≤ 4 + _; omega), by simp only [dat, PyData.showable]; exact i2, i3⟩
    | tup ds =>
      obtain ⟨i1, i2, i3⟩ := all ds h
      exact ⟨by simp only [dat, PyData.shown]; exact Nat.le_trans (tupleText_len _) (by show _ ≤ 4 + _; omega), by simp only [dat, PyData.showable]; exact i2, i3⟩
    | non => exact okR0_shown (n := n + 1) h
    | bl b => exact okR0_shown (n := n + 1) h
    | int i => exact okR0_shown (n := n + 1) h
    | str x => exact okR0_shown (n := n + 1) h
    | hd _ => cases h
    | brw _ _ => cases h
    | dct _ _ => cases h
theorem reprB_of {d : D} (hs : isSeq d = true) (h : okR 9 d = true) (hz : szR 9 d ≤ 16000000) : reprB d = true := by
  obtain ⟨h1, h2, h3⟩ := okR_shown h
  unfold reprB
  rw [hs, h2, h3, decide_eq_true (Nat.le_trans h1 hz)]; rfl
theorem sum_le_mul {α : Type} (f : α → Nat) (c : Nat) : ∀ xs : List α, (∀ x ∈ xs, f x ≤ c) → (xs.map f).sum ≤ xs.length * c
  | [], _ => by simp
  | x :: xs, h => by
    have h1 := h x List.mem_cons_self
    have h2 := sum_le_mul f c xs fun y hy => h y (List.mem_cons_of_mem _ hy)
    rw [List.map_cons, List.sum_cons, List.length_cons, Nat.succ_mul]; omega
theorem szR_list {α : Type} {n : Nat} {f : α → D} {c : Nat} (xs : List α) (h : ∀ x ∈ xs, szR n (f x) + 2 ≤ c) : szR (n + 1) (.lst (xs.map f)) ≤ 4 + xs.length * c := by
  show 4 + ((xs.map f).map fun d => szR n d + 2).sum ≤ _
  rw [List.map_map]
  have := sum_le_mul (fun x => szR n (f x) + 2) c xs h
  exact Nat.add_le_add_left this 4
theorem okR_list {α : Type} {n : Nat} {f : α → D} (xs : List α) (h : ∀ x ∈ xs, okR n (f x) = true) : okR (n + 1) (.lst (xs.map f)) = true := by
  show (xs.map f).all (okR n) = true
  rw [List.all_map]
  exact List.all_eq_true.mpr h
end QL
end
section
set_option Elab.async false
set_option linter.all false
set_option maxRecDepth 100000
set_option maxHeartbeats 4000000
/-! QL: small things that many laws want. -/
namespace QL
open PySem L2
theorem lcl_gen {S α β : Type} {ρ : Ev} {g : D → Ev → Option Ev} {t : Ev → M S Bool} {f : Ev → M S D} {V : S → Prop} (enc : α → D) (h : β → D) (p : β → Prop) : ∀ (xs : List α) (s : S), V s → (∀ x ∈ xs, ∀ s, V s → Wp (lc1 g t f ρ (enc x) s) fun o s1 => (∃ y, o = some (h y) ∧ p y) ∧ V s1) →
    Wp (lcl g t f ρ (xs.map enc) s) fun ys s1 => (∃ zs : List β, ys = zs.map h ∧ zs.length = xs.length ∧ ∀ z ∈ zs, p z) ∧ V s1
  | [], s, v, _ => wp_some.mpr ⟨⟨[], rfl, rfl, fun z h => by cases h⟩, v⟩
  | x :: xs, s, v, hx => by
    refine lcl_cons ((hx x List.mem_cons_self s v).imp fun o s1 ⟨⟨y, e, py⟩, v1⟩ => ?_)
    refine (lcl_gen enc h p xs s1 v1 fun y hy => hx y (List.mem_cons_of_mem _ hy)).imp fun ys s2 ⟨⟨zs, ez, lz, mz⟩, v2⟩ => ?_
    subst ez
    subst e
    exact ⟨⟨y :: zs, rfl, by rw [List.length_cons, List.length_cons, lz], fun z h => by
        rcases List.mem_cons.mp h with rfl | h
        · exact py
        · exact mz z h⟩, v2⟩
theorem lcl_sub {S α : Type} {ρ : Ev} {g : D → Ev → Option Ev} {t : Ev → M S Bool} {f : Ev → M S D} {V : S → Prop} (enc : α → D) : ∀ (xs : List α) (s : S), V s → (∀ x ∈ xs, ∀ s, V s → Wp (lc1 g t f ρ (enc x) s) fun o s1 => (o = none ∨ o = some (enc x)) ∧ V s1) →
    Wp (lcl g t f ρ (xs.map enc) s) fun ys s1 => (∃ zs : List α, ys = zs.map enc ∧ zs.Sublist xs) ∧ V s1
  | [], s, v, _ => wp_some.mpr ⟨⟨[], rfl, .slnil⟩, v⟩
  | x :: xs, s, v, hx => by
    refine lcl_cons ((hx x List.mem_cons_self s v).imp fun o s1 ⟨e, v1⟩ => ?_)
    refine (lcl_sub enc xs s1 v1 fun y hy => hx y (List.mem_cons_of_mem _ hy)).imp fun ys s2 ⟨⟨zs, ez, lz⟩, v2⟩ => ?_
    subst ez
    rcases e with rfl | rfl
    · exact ⟨⟨zs, rfl, lz.cons x⟩, v2⟩
    · exact ⟨⟨x :: zs, rfl, lz.cons₂ x⟩, v2⟩
/-- a loop that goes on or returns -/
def FF {J S : Type} (mk : J → Ev) (c : Prop) (r : D) (s : S) (o : Out) (s1 : S) : Prop := s1 = s ∧ (c → o = .rt r) ∧ (¬ c → ∃ j', o = .nx (mk j') ∨ o = .ct (mk j'))
theorem ff_rt {J S : Type} {mk : J → Ev} {c : Prop} {r d : D} {s : S} (h : c) (e : d = r) : FF mk c r s (.rt d) s := ⟨rfl, fun _ => by rw [e], fun z => absurd h z⟩
theorem ff_nx {J S : Type} {mk : J → Ev} {c : Prop} {r : D} {s : S} {ρ : Ev} (j : J) (h : ¬ c) (e : ρ = mk j) : FF mk c r s (.nx ρ) s := ⟨rfl, fun z => absurd z h, fun _ => ⟨j, .inl (by rw [e])⟩⟩
theorem ff_ct {J S : Type} {mk : J → Ev} {c : Prop} {r : D} {s : S} {ρ : Ev} (j : J) (h : ¬ c) (e : ρ = mk j) : FF mk c r s (.ct ρ) s := ⟨rfl, fun z => absurd z h, fun _ => ⟨j, .inr (by rw [e])⟩⟩
theorem forl_find {β J S : Type} {g : D → Ev → Option Ev} {b : Ev → M S Out} {Q : Out → S → Prop} (enc : β → D) (mk : J → Ev) (p : β → Bool) (r : β → D) : ∀ (xs : List β) (j : J) (s : S),
    (∀ x ∈ xs, ∀ j, OptP (g (enc x) (mk j)) fun ρ1 => Wp (b ρ1 s) fun o s1 => FF mk (p x = true) (r x) s o s1) →
    (∀ x, xs.find? p = some x → Q (.rt (r x)) s) → (xs.find? p = none → ∀ j, Q (.nx (mk j)) s) → Wp (forl g b (xs.map enc) (mk j) s) Q
  | [], j, s, _, _, he => forl_nil.mpr (he rfl j)
  | x :: xs, j, s, hs, hr, he => by
    obtain ⟨ρ1, e, h⟩ := hs x List.mem_cons_self j
    refine forl_cons.mpr ⟨ρ1, e, h.imp fun o s1 ⟨es, h1, h2⟩ => ?_⟩
    subst es
    by_cases c : p x = true
    · rw [h1 c]
      exact hr x (by rw [List.find?_cons, c])
    · obtain ⟨j', ho⟩ := h2 c
      have c' : p x = false := by simpa using c
      have nx : Wp (forl g b (xs.map enc) (mk j') s1) Q := forl_find enc mk p r xs j' s1 (fun y hy => hs y (List.mem_cons_of_mem _ hy)) (fun y hy => hr y (by rw [List.find?_cons, c']; exact hy)) (fun z => he (by rw [List.find?_cons, c']; exact z))
      rcases ho with rfl | rfl <;> exact nx
/-- the place of what is there -/
theorem idxO_mem {d : D} {es : List D} (hd : okE 8 d = true) (he : ∀ z ∈ es, okE 8 z = true) (h : d ∈ es) : ∃ j : Nat, idxO (.lst es) d = some (.int (j : Int)) ∧ es[j]? = some d ∧ ∀ i, i < j → es[i]? ≠ some d := by
  have sd : strip d = d := by cases d <;> first | rfl | cases hd
  have fe : fitD DEP (.lst es) = true := List.all_eq_true.mpr fun z hz => okE_fit (he z hz)
  have ed : dat DEP d = dat 8 d := dat_fit (okE_fit hd)
  have hq : ∀ i (hi : i < es.length), PySem.PyData.eqv ((es.map (dat 8))[i]'(by rw [List.length_map]; exact hi)) (dat DEP d) = true ↔ es[i] = d := fun i hi => by
    rw [List.getElem_map, ed]
    exact okE_eq (he _ (List.getElem_mem hi)) hd
  have e : idxO (.lst es) d = ((es.map (dat 8)).findIdx? fun z => PySem.PyData.eqv z (dat DEP d)).map fun (j : Nat) => D.int (j : Int) := by
    unfold idxO
    show (if fitD DEP (.lst es) = true ∧ fitD DEP (strip d) = true then _ else none) = _
    rw [sd, if_pos ⟨fe, fit_mono (okE_fit hd) (by decide)⟩]
    rfl
  rw [e]
  cases hf : (es.map (dat 8)).findIdx? fun z => PySem.PyData.eqv z (dat DEP d) with
  | none =>
    exfalso
    have := List.findIdx?_eq_none_iff.mp hf (dat 8 d) (List.mem_map.mpr ⟨d, h, rfl⟩)
    rw [ed, (okE_eq hd hd).mpr rfl] at this
    cases this
  | some j =>
    obtain ⟨h1, h2, h3⟩ := List.findIdx?_eq_some_iff_getElem.mp hf
    rw [List.length_map] at h1
    refine ⟨j, rfl, ?_, fun i hi z => ?_⟩
    · rw [List.getElem?_eq_getElem h1, (hq j h1).mp h2]
    · obtain ⟨h4, h5⟩ := List.getElem?_eq_some_iff.mp z
      exact h3 i hi ((hq i h4).mpr h5)
theorem up_eqI : ∀ {a b : List Int}, a.Pairwise (· < ·) → b.Pairwise (· < ·) → (∀ x, x ∈ a ↔ x ∈ b) → a = b
  | [], [], _, _, _ => rfl
  | [], y :: b, _, _, h => by have := (h y).mpr List.mem_cons_self; cases this
  | x :: a, [], _, _, h => by have := (h x).mp List.mem_cons_self; cases this
  | x :: a, y :: b, ha, hb, h => by
    obtain ⟨a1, a2⟩ := List.pairwise_cons.mp ha
    obtain ⟨b1, b2⟩ := List.pairwise_cons.mp hb
    have e : x = y := by
      rcases List.mem_cons.mp ((h x).mp List.mem_cons_self) with z | z
      · exact z
      · rcases List.mem_cons.mp ((h y).mpr List.mem_cons_self) with w | w
        · exact w.symm
        · have := b1 x z; have := a1 y w; omega
    subst e
    congr 1
    refine up_eqI a2 b2 fun z => ⟨fun hz => ?_, fun hz => ?_⟩
    · rcases List.mem_cons.mp ((h z).mp (List.mem_cons_of_mem _ hz)) with w | w
      · have := a1 z hz; omega
      · exact w
    · rcases List.mem_cons.mp ((h z).mpr (List.mem_cons_of_mem _ hz)) with w | w
      · have := b1 z hz; omega
      · exact w
theorem insU_len (n : Int) : ∀ ns : List Int, (insU n ns).length ≤ ns.length + 1
  | [] => Nat.le_refl _
  | m :: ns => by
    have := insU_len n ns
    unfold insU
    split
    · simp
    · split <;> simp <;> omega
theorem uniqI_len : ∀ ns : List Int, (uniqI ns).length ≤ ns.length
  | [] => Nat.le_refl _
  | n :: ns => by
    show (insU n (uniqI ns)).length ≤ _
    have := insU_len n (uniqI ns)
    have := uniqI_len ns
    rw [List.length_cons]; omega
theorem enu_map {α : Type} (f : α → D) (d : α) (xs : List α) : (xs.map f).zipIdx.map (fun p : D × Nat => D.tup [.int (p.2 : Nat), p.1]) = (List.range xs.length).map fun (i : Nat) => D.tup [.int (i : Nat), f (xs.getD i d)] := by
  apply List.ext_getElem?
  intro i
  rw [List.getElem?_map, List.getElem?_zipIdx, List.getElem?_map, List.getElem?_map]
  by_cases h : i < xs.length
  · rw [List.getElem?_eq_getElem h, List.getElem?_range h]
    simp [List.getD_eq_getElem?_getD, List.getElem?_eq_getElem h]
  · rw [List.getElem?_eq_none (by omega), List.getElem?_eq_none (by rw [List.length_range]; omega)]; rfl
/-- appending what passes -/
theorem fold_app {α β : Type} (p : α → Bool) (g : α → β) : ∀ (xs : List α) (acc : List β), xs.foldl (fun a i => if p i = true then a ++ [g i] else a) acc = acc ++ (xs.filter p).map g
  | [], acc => by simp
  | x :: xs, acc => by
    rw [List.foldl_cons, fold_app p g xs, List.filter_cons]
    by_cases c : p x = true
    · rw [if_pos c, if_pos c, List.map_cons, List.append_assoc]; rfl
    · rw [if_neg c, if_neg c]
theorem find_at {α : Type} {p : α → Bool} : ∀ {xs : List α} {j : Nat} {x : α}, xs[j]? = some x → p x = true → (∀ i, i < j → ∀ y, xs[i]? = some y → p y = false) → xs.find? p = some x
  | [], j, x, h, _, _ => by simp at h
  | a :: xs, 0, x, h, hp, _ => by
    rw [List.getElem?_cons_zero] at h
    cases h
    rw [List.find?_cons, hp]
  | a :: xs, j + 1, x, h, hp, hn => by
    rw [List.find?_cons, hn 0 (by omega) a rfl]
    rw [List.getElem?_cons_succ] at h
    exact find_at h hp fun i hi y hy => hn (i + 1) (by omega) y (by rw [List.getElem?_cons_succ]; exact hy)
theorem rngL_nat (n : Nat) : rngL 0 ((n : Int)).toNat = (List.range n).map fun (k : Nat) => D.int (k : Int) := by
  rw [rngL_eq, Int.toNat_natCast]
  refine List.map_congr_left fun i _ => ?_
  show D.int (0 + (i : Int)) = D.int i
  rw [Int.zero_add]
end QL
end
section
set_option Elab.async false
set_option linter.all false
set_option maxRecDepth 100000
set_option maxHeartbeats 4000000
/-! QL: comprehensions with two clauses. -/
namespace QL
open PySem PySem.Spec L2
section
variable {R : RK} {hs : Hs} {Z : Addr → Prop} {H0 F0 : Hp} {ρ ρ' : Ev} {st st' : R.S} {σ σ' : L2.St} {F H F' H' : Hp}
theorem wipeE_sub {vs1 vs : List Nat} (h : ∀ i ∈ vs1, i ∈ vs) : wipeE (wipeE ρ vs1) vs = wipeE ρ vs := by
  refine List.ext_getElem? fun j => ?_
  rw [wipeE_get, wipeE_length, wipeE_get, wipeE_get]
  by_cases hm : j ∈ vs ∧ j < ρ.length
  · rw [if_pos hm, if_pos hm]
  · rw [if_neg hm, if_neg hm, if_neg fun z => hm ⟨h _ z.1, z.2⟩]
theorem wipe_sub {vs1 vs : List Nat} (h : ∀ i ∈ vs1, i ∈ vs) : wipe (wipe σ vs1) vs = wipe σ vs := by
  refine List.ext_getElem? fun j => ?_
  rw [wipe_get, wipe_length, wipe_get, wipe_get]
  by_cases hm : j ∈ vs ∧ j < σ.length
  · rw [if_pos hm, if_pos hm]
  · rw [if_neg hm, if_neg hm, if_neg fun z => hm ⟨h _ z.1, z.2⟩]
/-- a list in the making is laid aside again -/
theorem w_aside {Hm : Hp} {D : Addr} {acc : List V} {sz : R.S} {F2 F8 H8 : Hp} {ρ2 : Ev} {σ2 : L2.St} (w2 : W R hs Z H0 F0 ρ st σ F2 Hm) (nD : Hm D = none) (w8 : W R hs (ZO R hs ρ σ (upd Hm D (.lst acc))) (upd Hm D (.lst acc)) F2 ρ2 sz σ2 F8 H8) : W R hs Z H0 F0 ρ2 sz σ2 F8 (del H8 D) ∧ H8 D = some (.lst acc) := by
  have w3 := w2.lay nD (.lst acc)
  have nF2 : F2 D = none := w2.FH.free nD
  have nZO : ¬ ZO R hs ρ σ (upd Hm D (.lst acc)) D := fun z => by
    rcases z with z | ⟨j, d, z1, z2⟩ | z
    · exact R.live _ _ _ _ _ w2.rep z nD
    · obtain ⟨a, g1, _, _, _, g5⟩ := w2.own j d z1
      rw [z2] at g1; cases g1
      exact g5.there nD
    · exact w2.noDp nD _ z
  have h8 : H8 D = some (.lst acc) := w8.sH D _ upd_same nZO
  have f8 : F8 D = none := by
    cases q8 : F8 D with
    | none => rfl
    | some o =>
      rcases w8.Fn D o q8 with z | z | z
      · rw [nF2] at z; cases z
      · rw [upd_same] at z; cases z
      · exact absurd z nZO
  refine ⟨(w3.unroot w8).del f8 (fun z => ?_) (fun z => ?_) (w2.old nD), h8⟩
  · rcases w8.noZ (z.elim .inl fun z => .inr (.inl z)) with q | q
    · rw [upd_same] at q; cases q
    · exact nZO q
  · rcases w8.noZ (.inr (.inr z)) with q | q
    · rw [upd_same] at q; cases q
    · exact nZO q
theorem upd_back {H8 : Hp} {D : Addr} {o : HO} (h : H8 D = some o) : H8 = upd (del H8 D) D o := by
  funext b
  by_cases hb : b = D
  · subst hb; rw [upd_same]; exact h
  · rw [upd_ne hb, del_ne hb]
end
section
variable {X : Cx} {R : RK} {S : Type}
/-- one clause's loop behind a list in the making -/
theorem lc_turns {hs : Hs} {Z : Addr → Prop} {H0 F0 : Hp} {g : D → Ev → Option Ev} {t : Ev → M R.S Bool} {f : Ev → M R.S D} {vs : List Nat} (go : GOk vs g) {ρ : Ev} {σ : L2.St} {st st' : R.S} {F1 Hm : Hp} {D : Addr} {acc0 : List V} {ys0 zs0 es : List QL.D} {J : It} {Nx : Hp → Prop}
    (w0 : W R hs Z H0 F0 (wipeE ρ vs) st (wipe σ vs) F1 Hm) (nD : Hm D = none) (ra0 : RpL hs F1 acc0 ys0) (e0 : lcl g t f (wipeE ρ vs) es st = some (zs0, st')) (hlim : (ys0 ++ zs0).length ≤ LIM)
    (ok : ∀ Z' H0' F0', ItOk R hs Z' H0' F0' F1 es J)
    (K : ∀ acc F2 H2, W R hs Z H0 F0 (wipeE ρ vs) st' (wipe σ vs) F2 H2 → Same F1 F2 → H2 D = none → RpL hs F2 acc (ys0 ++ zs0) → Nx (upd H2 D (.lst acc))) :
    ∃ W1 : Nat → Nat → Hp → Prop, (∃ k, W1 0 k (upd Hm D (.lst acc0))) ∧ ∀ j k H, W1 j k H →
      (J.stop j H ∧ Nx H) ∨ (J.go j H ∧ ∃ Nx1 : Hp → Prop, (∀ H', Nx1 H' → ∃ k', k' < k ∧ W1 (j + 1) k' H') ∧ ∀ x H', J.yld j H x H' → tqg R vs g x (wipe σ vs) H' fun σ3 H5 => wipe σ3 vs = wipe σ vs ∧ tqT R t σ3 H5 fun b H6 =>
        if b = true then tq R f σ3 H6 fun y H7 => ∃ acc, H7 D = some (.lst acc) ∧ acc.length < sizeLine ∧ Nx1 (upd H7 D (.lst (acc ++ [y]))) else Nx1 H6) := by
  refine ⟨fun i m H2 => m = es.length - i ∧ i ≤ es.length ∧ ∃ s2 F2 Hm acc ys zs, W R hs Z H0 F0 (wipeE ρ vs) s2 (wipe σ vs) F2 Hm ∧ Same F1 F2 ∧ Hm D = none ∧ H2 = upd Hm D (.lst acc) ∧ RpL hs F2 acc ys ∧ lcl g t f (wipeE ρ vs) (es.drop i) s2 = some (zs, st') ∧ ys ++ zs = ys0 ++ zs0,
    ⟨es.length, rfl, Nat.zero_le _, st, F1, Hm, acc0, ys0, zs0, w0, Same.refl _, nD, rfl, ra0, e0, rfl⟩, ?_⟩
  rintro i m H2 ⟨rfl, hi, s2, F2, Hm, acc, ys, zs, w2, m2, nDm, rfl, ra, e3, eo⟩
  have w3 := w2.lay nDm (.lst acc)
  have wr := w3.root
  have wr' : W R hs (ZO R hs (wipeE ρ vs) (wipe σ vs) (upd Hm D (.lst acc))) (upd Hm D (.lst acc)) F2 (wipeE ρ vs) s2 (wipe σ vs) F2 (upd Hm D (.lst acc)) := wr
  obtain ⟨stop, goI⟩ := ok _ _ _ i _ _ _ _ _ wr m2
  by_cases hlt : i < es.length
  · have hd : es[i]? = some es[i] := List.getElem?_eq_getElem hlt
    obtain ⟨g1, yl⟩ := goI _ hd
    rw [List.drop_eq_getElem_cons hlt] at e3
    obtain ⟨ρ3, s3, e4, e5⟩ := mb_some e3
    obtain ⟨e6, rfl⟩ := ml_some e4
    obtain ⟨b, s4, e7, e8⟩ := mb_some e5
    refine .inr ⟨g1, fun H4 => es.length - (i + 1) < es.length - i ∧ i + 1 ≤ es.length ∧ ∃ s2 F2 Hm acc ys zs, W R hs Z H0 F0 (wipeE ρ vs) s2 (wipe σ vs) F2 Hm ∧ Same F1 F2 ∧ Hm D = none ∧ H4 = upd Hm D (.lst acc) ∧ RpL hs F2 acc ys ∧ lcl g t f (wipeE ρ vs) (es.drop (i + 1)) s2 = some (zs, st') ∧ ys ++ zs = ys0 ++ zs0,
      fun H4 ⟨h1, h2, h3⟩ => ⟨_, h1, rfl, h2, h3⟩, fun x H3 hy => ?_⟩
    obtain ⟨F3, wy, m3, rx, _⟩ := yl x H3 hy
    refine ⟨hs, _, _, _, wipeE ρ vs, _, F3, es[i], ρ3, wy, rx, e6, fun σ5 F5 H5 w5 m5 z5 => ?_⟩
    rw [wipe_idem] at z5
    refine ⟨z5, ?_⟩
    refine ⟨hs, _, _, _, ρ3, _, F5, b, s4, w5, e7, fun F6 H6 w6 m6 => ?_⟩
    have mm := (m3.trans m5).trans m6
    have fin : ∀ {sz F8 H8}, W R hs (ZO R hs (wipeE ρ vs) (wipe σ vs) (upd Hm D (.lst acc))) (upd Hm D (.lst acc)) F2 ρ3 sz σ5 F8 H8 → W R hs Z H0 F0 (wipeE ρ vs) sz (wipe σ vs) F8 (del H8 D) ∧ H8 D = some (.lst acc) := fun {sz F8 H8} w8 => by
      obtain ⟨w9, h8⟩ := w_aside w2 nDm w8
      have w9 := w9.wipe vs
      rw [go _ _ _ e6, wipeE_idem, z5] at w9
      exact ⟨w9, h8⟩
    cases b with
    | false =>
      obtain ⟨wf, h8⟩ := fin w6
      exact iteF ⟨by omega, hlt, s4, F6, del H6 D, acc, ys, zs, wf, m2.trans mm, del_same, upd_back h8, ra.mono mm, e8, eo⟩
    | true =>
      obtain ⟨y, s7, e9, e10⟩ := mb_some e8
      obtain ⟨y', s8, e11, e12⟩ := mb_some e10
      obtain ⟨e13, rfl⟩ := ml_some e11
      obtain ⟨py, rfl⟩ := plO_some e13
      obtain ⟨zs', s9, e14, e15⟩ := mb_some e12
      obtain ⟨rfl, rfl⟩ := mr_some e15
      refine iteT ⟨hs, _, _, _, ρ3, s4, F6, y, _, w6, e9, fun v F8 H8 w8 m8 r8 => ?_⟩
      obtain ⟨wf, h8⟩ := fin w8
      have m9 := mm.trans m8
      have hl : acc.length < LIM := by
        have h1 := congrArg List.length eo
        rw [List.length_append, List.length_cons] at h1
        have := ra.length
        omega
      refine ⟨acc, h8, lim_lt (Nat.le_of_lt hl), by omega, hlt, _, F8, del H8 D, acc ++ [v], ys ++ [y], zs', wf, m2.trans m9, del_same, upd_del.symm, (ra.mono m9).append (.cons (r8.pl py) .nil), e14, ?_⟩
      rw [List.append_assoc]; exact eo
  · have ei : i = es.length := by omega
    subst ei
    rw [List.drop_length] at e3
    obtain ⟨rfl, rfl⟩ := mr_some e3
    rw [List.append_nil] at eo
    subst eo
    exact .inl ⟨stop (Nat.le_refl _), K acc F2 Hm w2 m2 nDm ra⟩
def lcl2 (g : D → Ev → Option Ev) (t : Ev → M S Bool) (fi1 : Ev → M S (List D)) (g1 : D → Ev → Option Ev) (t1 : Ev → M S Bool) (f : Ev → M S D) (vs1 : List Nat) (ρ : Ev) : List D → M S (List D)
  | [] => mr []
  | d :: ds => mb (ml (g d ρ)) fun ρ1 => mb (t ρ1) fun b => match b with
    | false => lcl2 g t fi1 g1 t1 f vs1 ρ ds
    | true => mb (fi1 ρ1) fun es => mb (lcl g1 t1 f (wipeE ρ1 vs1) es) fun ys => mb (lcl2 g t fi1 g1 t1 f vs1 ρ ds) fun zs => mr (ys ++ zs)
def limO (ds : List D) : Option (List D) := if ds.length ≤ LIM then some ds else none
def dLc2 (it : Ev → M S (List D)) (g : D → Ev → Option Ev) (t : Ev → M S Bool) (fi1 : Ev → M S (List D)) (g1 : D → Ev → Option Ev) (t1 : Ev → M S Bool) (f : Ev → M S D) (vs vs1 : List Nat) : Ev → M S (List D) := fun ρ => mb (it ρ) fun ds => if noOwn vs ρ = true then mb (lcl2 g t fi1 g1 t1 f vs1 (wipeE ρ vs) ds) fun out => ml (limO out) else fun _ => none
theorem tq_lc2 {fi : Ev → M R.S (List D)} {g : D → Ev → Option Ev} {t : Ev → M R.S Bool} {fi1 : Ev → M R.S (List D)} {g1 : D → Ev → Option Ev} {t1 : Ev → M R.S Bool} {f : Ev → M R.S D} {vs vs1 : List Nat} (go : GOk vs g) (go1 : GOk vs1 g1) (sub : ∀ i ∈ vs1, i ∈ vs) : ∀ σ H Q, tqN R (dLc2 fi g t fi1 g1 t1 f vs vs1) σ H Q → L2.tLc2 (tqi R fi) (tqg R vs g) (tqT R t) (tqi R fi1) (tqg R vs1 g1) (tqT R t1) (tq R f) vs vs1 σ H Q :=
  fun σ H Q ⟨hs, Z, H0, F0, ρ, st, F, out, st', w, e, q⟩ => by
    obtain ⟨ds, s1, e1, e2⟩ := mb_some e
    have e2 : (if noOwn vs ρ = true then mb (lcl2 g t fi1 g1 t1 f vs1 (wipeE ρ vs) ds) fun out => ml (limO out) else fun _ => none) s1 = some (out, st') := e2
    by_cases no : noOwn vs ρ = true
    · rw [if_pos no] at e2
      obtain ⟨out', s1', e2, e2'⟩ := mb_some e2
      obtain ⟨e2', rfl⟩ := ml_some e2'
      unfold limO at e2'
      by_cases hlim : out'.length ≤ LIM
      · rw [if_pos hlim] at e2'
        cases e2'
        refine ⟨hs, Z, H0, F0, ρ, st, F, ds, s1, w, e1, fun J F1 H1 w1 m1 ok D nD => ?_⟩
        refine ⟨fun i m H2 => m = ds.length - i ∧ i ≤ ds.length ∧ ∃ s2 F2 Hm acc ys zs, W R hs Z H0 F0 (wipeE ρ vs) s2 (wipe σ vs) F2 Hm ∧ Same F1 F2 ∧ Hm D = none ∧ H2 = upd Hm D (.lst acc) ∧ RpL hs F2 acc ys ∧ lcl2 g t fi1 g1 t1 f vs1 (wipeE ρ vs) (ds.drop i) s2 = some (zs, st') ∧ ys ++ zs = out,
          ⟨ds.length, rfl, Nat.zero_le _, s1, F1, H1, [], [], out, w1.wipe vs, Same.refl _, nD, rfl, .nil, e2, rfl⟩, ?_⟩
        rintro i m H2 ⟨rfl, hi, s2, F2, Hm, acc, ys, zs, w2, m2, nDm, rfl, ra, e3, eo⟩
        have w3 := w2.lay nDm (.lst acc)
        have wr := w3.root
        obtain ⟨stop, goI⟩ := ok _ _ _ i _ _ _ _ _ wr m2
        by_cases hlt : i < ds.length
        · have hd : ds[i]? = some ds[i] := List.getElem?_eq_getElem hlt
          obtain ⟨g1', yl⟩ := goI _ hd
          rw [List.drop_eq_getElem_cons hlt] at e3
          obtain ⟨ρ3, s3, e4, e5⟩ := mb_some e3
          obtain ⟨e6, rfl⟩ := ml_some e4
          obtain ⟨b, s4, e7, e8⟩ := mb_some e5
          refine .inr ⟨g1', fun H4 => ds.length - (i + 1) < ds.length - i ∧ i + 1 ≤ ds.length ∧ ∃ s2 F2 Hm acc ys zs, W R hs Z H0 F0 (wipeE ρ vs) s2 (wipe σ vs) F2 Hm ∧ Same F1 F2 ∧ Hm D = none ∧ H4 = upd Hm D (.lst acc) ∧ RpL hs F2 acc ys ∧ lcl2 g t fi1 g1 t1 f vs1 (wipeE ρ vs) (ds.drop (i + 1)) s2 = some (zs, st') ∧ ys ++ zs = out,
            fun H4 ⟨h1, h2, h3⟩ => ⟨_, h1, rfl, h2, h3⟩, fun x H3 hy => ?_⟩
          obtain ⟨F3, wy, m3, rx, _⟩ := yl x H3 hy
          refine ⟨hs, _, _, _, wipeE ρ vs, _, F3, ds[i], ρ3, wy, rx, e6, fun σ5 F5 H5 w5 m5 z5 => ?_⟩
          rw [wipe_idem] at z5
          refine ⟨z5, ?_⟩
          refine ⟨hs, _, _, _, ρ3, _, F5, b, s4, w5, e7, fun F6 H6 w6 m6 => ?_⟩
          have mm := (m3.trans m5).trans m6
          cases b with
          | false =>
            obtain ⟨w9, h8⟩ := w_aside w2 nDm w6
            have w9 := w9.wipe vs
            rw [go _ _ _ e6, wipeE_idem, z5] at w9
            exact iteF ⟨by omega, hlt, s4, F6, del H6 D, acc, ys, zs, w9, m2.trans mm, del_same, upd_back h8, ra.mono mm, e8, eo⟩
          | true =>
            obtain ⟨es, s7, e9, e10⟩ := mb_some e8
            obtain ⟨yi, s8, e11, e12⟩ := mb_some e10
            obtain ⟨zr, s9, e13, e14⟩ := mb_some e12
            obtain ⟨rfl, rfl⟩ := mr_some e14
            refine iteT ⟨hs, _, _, _, ρ3, s4, F6, es, s7, w6, e9, fun J1 F7 H7 w7 m7 ok7 => ?_⟩
            obtain ⟨w9, h8⟩ := w_aside w2 nDm w7
            have mm7 := mm.trans m7
            rw [upd_back h8]
            refine lc_turns go1 (w9.wipe vs1) del_same (ra.mono mm7) e11 ?_ ok7 fun acc' F8 H8 w8 m8 n8 r8 => ?_
            · rw [← eo, ← List.append_assoc, List.length_append] at hlim; omega
            · have w10 := w8.wipe vs
              rw [wipeE_sub sub, wipe_sub sub, go _ _ _ e6, wipeE_idem, z5] at w10
              exact ⟨by omega, hlt, s8, F8, H8, acc', ys ++ yi, zr, w10, m2.trans (mm7.trans m8), n8, rfl, r8, e13, by rw [List.append_assoc]; exact eo⟩
        · have ei : i = ds.length := by omega
          subst ei
          rw [List.drop_length] at e3
          obtain ⟨rfl, rfl⟩ := mr_some e3
          rw [List.append_nil] at eo
          subst eo
          exact .inl ⟨stop (Nat.le_refl _), q D acc F2 Hm (w1.unwipe no w2 m2) (m1.trans m2) nDm ra⟩
      · rw [if_neg hlim] at e2'; cases e2'
    · rw [if_neg no] at e2; cases e2
theorem qn_lc2 {elt tg iter tg1 iter1 : Expr} {ifs ifs1 : List Expr} {scope : Scope} {own : List (Str × Nat)} {vs1 : List Nat} {pos : Pos} {fi fi1 : Ev → M R.S (List D)} {g g1 : D → Ev → Option Ev} {t t1 : Ev → M R.S Bool} {f : Ev → M R.S D} (hc : X.calm = true) (hN : X.N.Nodup) (hi : QI X R tg iter fi) (ok : BlkOk X.N X.env.scope scope own) (hv : ∀ i ∈ vs1, i ∈ own.map (·.2))
    (hg : ∀ (s : Shared) (H : Hp) (C : Addr) (cl : List (Str × Addr)) (fp : List Addr), QG (X.blk s H scope (compEnvC scope cl C X.env) fp) R (own.map (·.2)) tg g) (go : GOk (own.map (·.2)) g) (ht : ∀ (s : Shared) (H : Hp) (C : Addr) (cl : List (Str × Addr)) (fp : List Addr), QTs (X.blk s H scope (compEnvC scope cl C X.env) fp) R ifs t)
    (hi1 : ∀ (s : Shared) (H : Hp) (C : Addr) (cl : List (Str × Addr)) (fp : List Addr), QI (X.blk s H scope (compEnvC scope cl C X.env) fp) R tg1 iter1 fi1) (hg1 : ∀ (s : Shared) (H : Hp) (C : Addr) (cl : List (Str × Addr)) (fp : List Addr), QG (X.blk s H scope (compEnvC scope cl C X.env) fp) R vs1 tg1 g1) (go1 : GOk vs1 g1) (ht1 : ∀ (s : Shared) (H : Hp) (C : Addr) (cl : List (Str × Addr)) (fp : List Addr), QTs (X.blk s H scope (compEnvC scope cl C X.env) fp) R ifs1 t1)
    (he : ∀ (s : Shared) (H : Hp) (C : Addr) (cl : List (Str × Addr)) (fp : List Addr), QE (X.blk s H scope (compEnvC scope cl C X.env) fp) R elt f) (hs : ∀ x, foldedSetIterable iter X.env x = pure x := by intro _; rfl) (hs1 : ∀ env x, foldedSetIterable iter1 env x = pure x := by intro _ _; rfl) :
    QN X R (.ListComp elt [⟨tg, iter, ifs, 0⟩, ⟨tg1, iter1, ifs1, 0⟩] scope pos) (dLc2 fi g t fi1 g1 t1 f (own.map (·.2)) vs1) := imp_e (pe_lc2 hc hN hi ok hv hg ht hi1 hg1 ht1 he hs hs1) (tq_lc2 go go1 hv)
theorem qs_lcO2 {i : Nat} {y : Str} {py : Pos} {elt tg iter tg1 iter1 : Expr} {ifs ifs1 : List Expr} {scope : Scope} {own : List (Str × Nat)} {vs1 : List Nat} {pos spos : Pos} {fi fi1 : Ev → M R.S (List D)} {g g1 : D → Ev → Option Ev} {t t1 : Ev → M R.S Bool} {f : Ev → M R.S D} (hc : X.calm = true) (hN : X.N.Nodup) (hy : X.N[i]? = some y) (hyl : X.env.scope.names.lookup y = some .local)
    (hsw : swapsWith (.ListComp elt [⟨tg, iter, ifs, 0⟩, ⟨tg1, iter1, ifs1, 0⟩] scope pos) (some (.Name y py)) spos.line X.env = pure true) (hi : QI X R tg iter fi) (ok : BlkOk X.N X.env.scope scope own) (hv : ∀ i ∈ vs1, i ∈ own.map (·.2))
    (hg : ∀ (s : Shared) (H : Hp) (C : Addr) (cl : List (Str × Addr)) (fp : List Addr), QG (X.blk s H scope (compEnvC scope cl C X.env) fp) R (own.map (·.2)) tg g) (go : GOk (own.map (·.2)) g) (ht : ∀ (s : Shared) (H : Hp) (C : Addr) (cl : List (Str × Addr)) (fp : List Addr), QTs (X.blk s H scope (compEnvC scope cl C X.env) fp) R ifs t)
    (hi1 : ∀ (s : Shared) (H : Hp) (C : Addr) (cl : List (Str × Addr)) (fp : List Addr), QI (X.blk s H scope (compEnvC scope cl C X.env) fp) R tg1 iter1 fi1) (hg1 : ∀ (s : Shared) (H : Hp) (C : Addr) (cl : List (Str × Addr)) (fp : List Addr), QG (X.blk s H scope (compEnvC scope cl C X.env) fp) R vs1 tg1 g1) (go1 : GOk vs1 g1) (ht1 : ∀ (s : Shared) (H : Hp) (C : Addr) (cl : List (Str × Addr)) (fp : List Addr), QTs (X.blk s H scope (compEnvC scope cl C X.env) fp) R ifs1 t1)
    (he : ∀ (s : Shared) (H : Hp) (C : Addr) (cl : List (Str × Addr)) (fp : List Addr), QE (X.blk s H scope (compEnvC scope cl C X.env) fp) R elt f) (hs : ∀ x, foldedSetIterable iter X.env x = pure x := by intro _; rfl) (hs1 : ∀ env x, foldedSetIterable iter1 env x = pure x := by intro _ _; rfl) :
    QS X R (.Assign [.Name y py] (.ListComp elt [⟨tg, iter, ifs, 0⟩, ⟨tg1, iter1, ifs1, 0⟩] scope pos) spos) (dSetO i (dLc2 fi g t fi1 g1 t1 f (own.map (·.2)) vs1)) :=
  imp_s (ps_setLc2 hc hN hy hyl hsw hi ok hv hg ht hi1 hg1 ht1 he hs hs1) fun D σ H h => by
    obtain ⟨hs, Z, H0, F0, ρ, st, F, d, st', w, e, q⟩ := tqs_setO D σ H h
    exact tq_lc2 go go1 hv σ H _ ⟨hs, Z, H0, F0, ρ, st, F, d, st', w, e, q⟩
theorem qs_lcF2 {i : Nat} {y : Str} {py : Pos} {elt tg iter tg1 iter1 : Expr} {ifs ifs1 : List Expr} {scope : Scope} {own : List (Str × Nat)} {vs1 : List Nat} {pos spos : Pos} {fi fi1 : Ev → M R.S (List D)} {g g1 : D → Ev → Option Ev} {t t1 : Ev → M R.S Bool} {f : Ev → M R.S D} (hc : X.calm = true) (hN : X.N.Nodup) (hy : X.N[i]? = some y) (hyl : X.env.scope.names.lookup y = some .local)
    (hsw : swapsWith (.ListComp elt [⟨tg, iter, ifs, 0⟩, ⟨tg1, iter1, ifs1, 0⟩] scope pos) (some (.Name y py)) spos.line X.env = pure true) (hi : QI X R tg iter fi) (ok : BlkOk X.N X.env.scope scope own) (hv : ∀ i ∈ vs1, i ∈ own.map (·.2))
    (hg : ∀ (s : Shared) (H : Hp) (C : Addr) (cl : List (Str × Addr)) (fp : List Addr), QG (X.blk s H scope (compEnvC scope cl C X.env) fp) R (own.map (·.2)) tg g) (go : GOk (own.map (·.2)) g) (ht : ∀ (s : Shared) (H : Hp) (C : Addr) (cl : List (Str × Addr)) (fp : List Addr), QTs (X.blk s H scope (compEnvC scope cl C X.env) fp) R ifs t)
    (hi1 : ∀ (s : Shared) (H : Hp) (C : Addr) (cl : List (Str × Addr)) (fp : List Addr), QI (X.blk s H scope (compEnvC scope cl C X.env) fp) R tg1 iter1 fi1) (hg1 : ∀ (s : Shared) (H : Hp) (C : Addr) (cl : List (Str × Addr)) (fp : List Addr), QG (X.blk s H scope (compEnvC scope cl C X.env) fp) R vs1 tg1 g1) (go1 : GOk vs1 g1) (ht1 : ∀ (s : Shared) (H : Hp) (C : Addr) (cl : List (Str × Addr)) (fp : List Addr), QTs (X.blk s H scope (compEnvC scope cl C X.env) fp) R ifs1 t1)
    (he : ∀ (s : Shared) (H : Hp) (C : Addr) (cl : List (Str × Addr)) (fp : List Addr), QE (X.blk s H scope (compEnvC scope cl C X.env) fp) R elt f) (hs : ∀ x, foldedSetIterable iter X.env x = pure x := by intro _; rfl) (hs1 : ∀ env x, foldedSetIterable iter1 env x = pure x := by intro _ _; rfl) :
    QS X R (.Assign [.Name y py] (.ListComp elt [⟨tg, iter, ifs, 0⟩, ⟨tg1, iter1, ifs1, 0⟩] scope pos) spos) (dSetF i (dLc2 fi g t fi1 g1 t1 f (own.map (·.2)) vs1)) :=
  imp_s (ps_setLc2 hc hN hy hyl hsw hi ok hv hg ht hi1 hg1 ht1 he hs hs1) fun D σ H h => by
    obtain ⟨hs, Z, H0, F0, ρ, st, F, d, st', w, e, q⟩ := tqs_setF D σ H h
    exact tq_lc2 go go1 hv σ H _ ⟨hs, Z, H0, F0, ρ, st, F, d, st', w, e, q⟩
end
/-! evaluation -/
open PySem L2
section
variable {S : Type} {ρ : Ev} {s : S}
theorem mb_eq {α β : Type} {m : M S α} {k : α → M S β} {s s1 : S} {a : α} {r : Option (β × S)} (h : m s = some (a, s1)) (h2 : k a s1 = r) : mb m k s = r := by
  unfold mb; rw [h]; exact h2
/-- one item of the first clause -/
def lc21 (g : D → Ev → Option Ev) (t : Ev → M S Bool) (fi1 : Ev → M S (List D)) (g1 : D → Ev → Option Ev) (t1 : Ev → M S Bool) (f : Ev → M S D) (vs1 : List Nat) (ρ : Ev) (d : D) : M S (List D) := mb (ml (g d ρ)) fun ρ1 => mb (t ρ1) fun b => match b with
  | false => mr []
  | true => mb (fi1 ρ1) fun es => lcl g1 t1 f (wipeE ρ1 vs1) es
theorem lcl2_step {g : D → Ev → Option Ev} {t : Ev → M S Bool} {fi1 : Ev → M S (List D)} {g1 : D → Ev → Option Ev} {t1 : Ev → M S Bool} {f : Ev → M S D} {vs1 : List Nat} {d : D} {ds ys zs : List D} {s1 s2 : S} (h : lc21 g t fi1 g1 t1 f vs1 ρ d s = some (ys, s1)) (h2 : lcl2 g t fi1 g1 t1 f vs1 ρ ds s1 = some (zs, s2)) : lcl2 g t fi1 g1 t1 f vs1 ρ (d :: ds) s = some (ys ++ zs, s2) := by
  unfold lc21 at h
  unfold lcl2
  obtain ⟨ρ1, s3, e1, e2⟩ := mb_some h
  obtain ⟨b, s4, e3, e4⟩ := mb_some e2
  refine mb_eq e1 (mb_eq e3 ?_)
  cases b with
  | false =>
    obtain ⟨rfl, rfl⟩ := mr_some e4
    exact h2
  | true =>
    obtain ⟨es, s5, e5, e6⟩ := mb_some e4
    exact mb_eq e5 (mb_eq e6 (mb_eq h2 rfl))
theorem lcl2_map {α : Type} {g : D → Ev → Option Ev} {t : Ev → M S Bool} {fi1 : Ev → M S (List D)} {g1 : D → Ev → Option Ev} {t1 : Ev → M S Bool} {f : Ev → M S D} {vs1 : List Nat} {Q : List D → S → Prop} (enc : α → D) (h : α → List D) (xs : List α) (hx : ∀ x ∈ xs, ∀ s, Wp (lc21 g t fi1 g1 t1 f vs1 ρ (enc x) s) fun o s1 => o = h x ∧ s1 = s) (q : Q (xs.flatMap h) s) : Wp (lcl2 g t fi1 g1 t1 f vs1 ρ (xs.map enc) s) Q := by
  refine ⟨_, _, ?_, q⟩
  clear q
  induction xs with
  | nil => rfl
  | cons x xs ih =>
    obtain ⟨o, s1, e, rfl, rfl⟩ := hx x List.mem_cons_self s
    exact lcl2_step e (ih fun y hy => hx y (List.mem_cons_of_mem _ hy))
@[simp] theorem wp_dLc2 {it : Ev → M S (List D)} {g : D → Ev → Option Ev} {t : Ev → M S Bool} {fi1 : Ev → M S (List D)} {g1 : D → Ev → Option Ev} {t1 : Ev → M S Bool} {f : Ev → M S D} {vs vs1 : List Nat} {Q : List D → S → Prop} : Wp (dLc2 it g t fi1 g1 t1 f vs vs1 ρ s) Q ↔ Wp (it ρ s) fun ds s1 => noOwn vs ρ = true ∧ Wp (lcl2 g t fi1 g1 t1 f vs1 (wipeE ρ vs) ds s1) fun out s2 => out.length ≤ LIM ∧ Q out s2 := by
  unfold dLc2
  simp only [wp_mb]
  refine ⟨fun h => h.imp fun ds s1 q => ?_, fun h => h.imp fun ds s1 q => ?_⟩
  · by_cases c : noOwn vs ρ = true
    · rw [if_pos c] at q
      refine ⟨c, (wp_mb.mp q).imp fun out s2 q => ?_⟩
      by_cases l : out.length ≤ LIM
      · unfold limO at q; rw [if_pos l] at q
        obtain ⟨o, s3, e, q⟩ := q
        cases e
        exact ⟨l, q⟩
      · unfold limO at q; rw [if_neg l] at q
        obtain ⟨o, s3, e, q⟩ := q
        cases e
    · rw [if_neg c] at q
      obtain ⟨o, s3, e, q⟩ := q
      cases e
  · rw [if_pos q.1]
    refine wp_mb.mpr (q.2.imp fun out s2 q => ?_)
    unfold limO; rw [if_pos q.1]
    exact ⟨_, _, rfl, q.2⟩
end
end QL
end
section
/-! QL: a list times a whole number. -/
set_option Elab.async false
set_option linter.all false
set_option maxRecDepth 100000
set_option maxHeartbeats 4000000
namespace QL
open PySem PySem.Spec L2 PyProof.Rows
section
variable {X : Cx} {R : RK}
def repO (d e : D) : Option (List D) := match strip d, e with
  | .lst a, .int k => if (-1000 ≤ k ∧ k ≤ 1000) ∧ a.length * k.toNat ≤ LIM then some (List.replicate k.toNat a).flatten else none
  | _, _ => none
def dRep {S : Type} (f g : Ev → M S D) : Ev → M S (List D) := fun ρ => mb (f ρ) fun d => mb (g ρ) fun e => ml (repO d e)
theorem RpL.rep {hs : Hs} {F : Hp} {vs : List V} {ds : List D} (r : RpL hs F vs ds) : ∀ k : Nat, RpL hs F (List.replicate k vs).flatten (List.replicate k ds).flatten
  | 0 => by
    rw [List.replicate_zero, List.replicate_zero]
    exact r.take 0
  | k + 1 => by
    rw [List.replicate_succ, List.replicate_succ, List.flatten_cons, List.flatten_cons]
    exact r.append (RpL.rep r k)
theorem qn_rep {a b : Expr} {pos : Pos} {f1 f2 : Ev → M R.S D} (ha : QE X R a f1) (hb : QE X R b f2) : QN X R (.BinOp a .Mult b pos) (dRep f1 f2) := imp_e (pe_op op_rep ha hb) fun σ H Q ⟨hs, Z, H0, F0, ρ, st, F, out, st', w, e, q⟩ => by
  obtain ⟨d, s1, e1, e⟩ := mb_some e
  obtain ⟨d2, s2, e2, e⟩ := mb_some e
  obtain ⟨e3, rfl⟩ := ml_some e
  refine ⟨hs, Z, H0, F0, ρ, st, F, d, s1, w, e1, fun v F1 H1 w1 m1 r1 => ?_⟩
  refine ⟨hs, Z, H0, F0, ρ, s1, F1, d2, _, w1, e2, fun u F2 H2 w2 m2 r2 => ?_⟩
  unfold repO at e3
  cases q1 : strip d with
  | lst x =>
    rw [q1] at e3
    cases d2 with
    | int k =>
      obtain ⟨c, rfl⟩ := ite_some e3
      obtain ⟨p1, xs, rfl, g1, rl1⟩ := (r1.mono m2).lst w2 q1
      have hu := r2.int
      subst hu
      exact ⟨p1, k, xs, rfl, rfl, g1, by omega, by omega, by rw [rl1.length]; exact lim_line c.2, fun p np => q p _ F2 H2 w2 (m1.trans m2) np (rl1.rep k.toNat)⟩
    | _ => cases e3
  | _ => rw [q1] at e3; cases e3
/-- one of two new lists -/
def dIfN {S : Type} (c : Ev → M S Bool) (f g : Ev → M S (List D)) : Ev → M S (List D) := fun ρ => mb (c ρ) fun b => match b with
  | true => f ρ
  | false => g ρ
theorem qn_if {c a b : Expr} {pos : Pos} {t : Ev → M R.S Bool} {f g : Ev → M R.S (List D)} (hc : QT X R c t) (ha : QN X R a f) (hb : QN X R b g) : QN X R (.IfExp c a b pos) (dIfN t f g) :=
  imp_e (pe_ifExp hc ha hb) fun σ H Q ⟨hs, Z, H0, F0, ρ, st, F, d, st', w, e, q⟩ => by
    obtain ⟨c, s1, e1, e⟩ := mb_some e
    refine ⟨hs, Z, H0, F0, ρ, st, F, c, s1, w, e1, fun F1 H1 w1 m1 => ?_⟩
    cases c with
    | true => exact iteT ⟨hs, Z, H0, F0, ρ, s1, F1, d, st', w1, e, fun p vs F2 H2 w2 m2 np r2 => q p vs F2 H2 w2 (m1.trans m2) np r2⟩
    | false => exact iteF ⟨hs, Z, H0, F0, ρ, s1, F1, d, st', w1, e, fun p vs F2 H2 w2 m2 np r2 => q p vs F2 H2 w2 (m1.trans m2) np r2⟩
/-- x[k] as one of the targets of an assignment -/
def gSt (i j : Nat) : D → Ev → Option Ev := fun d ρ => match ρ[j]? with
  | some (.val k) => upO i (setAt k d) ρ
  | _ => none
theorem qg_sub {i j : Nat} {x k : Expr} {p : Pos} {vs : List Nat} (hx : PE X x (tVar i)) (hk : QE X R k (dVar j))
    (ha : ∀ v, assign (.Subscript x k p) X.env v = (do
      let ov ← holding [v] (eval x X.env)
      let iv ← holding [v, ov] (eval k X.env)
      standAt p
      holding [v, ov, iv] (setItem ov iv v)
      release [v, ov, iv] []) := by intro _; rfl) : QG X R vs (.Subscript x k p) (gSt i j) :=
  imp_g (pg_sub hx hk set_list ha) fun v σ H Q ⟨hs, Z, H0, F0, ρ, st, F, d, ρ', w, r, e, q⟩ => by
    unfold gSt at e
    split at e
    · rename_i kd ek
      obtain ⟨ds, es, e5, e6, rfl⟩ := upO_some e
      obtain ⟨a, h1, h2, h3, h4, xs, h5, h6⟩ := w.own i _ e5
      have ev : dVar j ρ st = some (kd, st) := by unfold dVar; rw [ek]; rfl
      refine ⟨_, h1, hs, Z, H0, F0, ρ, st, F, kd, _, w, ev, fun u F2 H2 w2 m2 r2 => ?_⟩
      obtain ⟨a', g1, g2, g3, g4, ys, g5, g6⟩ := w2.own i _ e5
      rw [h1] at g1; cases g1
      unfold setAt at e6
      cases kd with
      | int n =>
        have e6 : (match ixN ds.length n with
          | some j => some (ds.set j d)
          | none => none) = some es := e6
        cases c : ixN ds.length n with
        | none => rw [c] at e6; cases e6
        | some jj =>
          rw [c] at e6
          cases e6
          refine ⟨a, ys, n, jj, rfl, r2.int, g5, by rw [g6.length]; exact c, ?_⟩
          exact q σ F2 _ (w2.mut e5 h1 (g6.set (r.mono m2) jj)) m2 rfl
      | _ => cases e6
    · cases e
end
section
variable {S : Type} {ρ : Ev} {s : S}
@[simp] theorem repO_lst (ds : List D) (k : Int) : repO (.lst ds) (.int k) = if (-1000 ≤ k ∧ k ≤ 1000) ∧ ds.length * k.toNat ≤ LIM then some (List.replicate k.toNat ds).flatten else none := rfl
@[simp] theorem repO_brw (n : Nat) (ds : List D) (k : Int) : repO (.brw n (.lst ds)) (.int k) = if (-1000 ≤ k ∧ k ≤ 1000) ∧ ds.length * k.toNat ≤ LIM then some (List.replicate k.toNat ds).flatten else none := rfl
@[simp] theorem wp_dIfN {c : Ev → M S Bool} {f g : Ev → M S (List D)} {Q : List D → S → Prop} : Wp (dIfN c f g ρ s) Q ↔ Wp (c ρ s) fun k s1 => if k = true then Wp (f ρ s1) Q else Wp (g ρ s1) Q := by
  unfold dIfN
  simp only [wp_mb]
  refine ⟨fun h => h.imp fun k s1 q => ?_, fun h => h.imp fun k s1 q => ?_⟩
  · cases k
    · rw [if_neg (by decide)]; exact q
    · rw [if_pos rfl]; exact q
  · cases k
    · rw [if_neg (by decide)] at q; exact q
    · rw [if_pos rfl] at q; exact q
@[simp] theorem wp_dRep {f g : Ev → M S D} {Q : List D → S → Prop} : Wp (dRep f g ρ s) Q ↔ Wp (f ρ s) fun d s1 => Wp (g ρ s1) fun e s2 => OptP (repO d e) fun z => Q z s2 := by
  unfold dRep
  simp only [wp_mb, wp_ml]
end
end QL
end
section
set_option Elab.async false
set_option linter.all false
set_option maxRecDepth 100000
set_option maxHeartbeats 4000000
/-! QL: draws by _law_draw(state, script, size): a state of two numbers, and the script itself. -/
namespace QL
open PySem PySem.Spec L2
/-- place, what is left of a cell, the script -/
abbrev S3 : Type := Int × Int × List Int
def DR (K : PySem.W.Frag) : RK where
  S := S3
  fp := fun hs b => hs 0 = some b ∨ hs 2 = some b
  rep := fun hs st _ H => ∃ p a, hs 0 = some p ∧ hs 1 = some a ∧ H p = some (.lst [.int st.1, .int st.2.1]) ∧
    ((hs 2 = none ∧ ∀ H', SqL K H' a (st.2.2.map V.int)) ∨ (hs 2 = some a ∧ p ≠ a ∧ Rd H a (.lst (st.2.2.map V.int))))
  live := by
    rintro hs st F H b ⟨p, a, h1, h2, h3, h4⟩ (h | h)
    · rw [h1] at h; cases h; rw [h3]; simp
    · rcases h4 with ⟨z, _⟩ | ⟨z, _, r⟩
      · rw [z] at h; cases h
      · rw [z] at h; cases h
        rcases r with r | ⟨o, r⟩ <;> rw [r] <;> simp
  keep := by
    rintro hs st F F' H H' ⟨p, a, h1, h2, h3, h4⟩ _ k
    refine ⟨p, a, h1, h2, (k p (.inl h1)).trans h3, ?_⟩
    rcases h4 with h | ⟨z, ne, r⟩
    · exact .inl h
    · refine .inr ⟨z, ne, ?_⟩
      have := k a (.inr z)
      rcases r with r | ⟨o, r⟩
      · exact .inl (this.trans r)
      · exact .inr ⟨o, this.trans r⟩
def drawCell (st : S3) : Int :=
  let c := if 0 < (st.2.2.length : Int) then st.2.2.getD (st.1 % (st.2.2.length : Int)).toNat 0 else 0
  if c < 0 then 1 - 2 * c else c
def drawNew (st : S3) : Int :=
  if 1000000000000000000 ≤ drawCell st ∧ st.1 < (st.2.2.length : Int) then drawCell st
  else ((drawCell st + st.1 * 7919 + 1) * 48271 % 2147483647 * 69621 + st.1 * 104729) % 4294967291
/-- what a draw below m takes, and what is left -/
def drawI (m : Int) (st : S3) : Option (Int × S3) :=
  if 0 < m ∧ m < 1073741824 then
    if st.2.1 = 0 then some (drawNew st % m, (st.1 + 1, drawNew st / m, st.2.2))
    else some (st.2.1 % m, (st.1, st.2.1 / m, st.2.2))
  else none
def drawM : List D → M S3 D
  | [.hd 0, .hd 1, .int m] => fun st => match drawI m st with
    | some (r, st') => some (.int r, st')
    | none => none
  | _ => fun _ => none
theorem drawI_ok {m : Int} {st : S3} (h1 : 0 < m) (h2 : m < 1073741824) : ∃ r st', drawI m st = some (r, st') ∧ 0 ≤ r ∧ r < m := by
  unfold drawI
  rw [if_pos ⟨h1, h2⟩]
  split
  · exact ⟨_, _, rfl, Int.emod_nonneg _ (by omega), Int.emod_lt_of_pos _ h1⟩
  · exact ⟨_, _, rfl, Int.emod_nonneg _ (by omega), Int.emod_lt_of_pos _ h1⟩
theorem wp_draw {m : Int} {st : S3} {Q : D → S3 → Prop} (h1 : 0 < m) (h2 : m < 1073741824) (h : ∀ r st', 0 ≤ r → r < m → Q (.int r) st') : Wp (drawM [.hd 0, .hd 1, .int m] st) Q := by
  obtain ⟨r, st', e, r0, r1⟩ := drawI_ok (st := st) h1 h2
  refine ⟨.int r, st', ?_, h r st' r0 r1⟩
  show (match drawI m st with
    | some (r, st') => some (D.int r, st')
    | none => none) = _
  rw [e]
/-- the slots behind the law's first row: the script, and the state of the draws -/
def lawS (n : Nat) : Ev := .val (.hd 1) :: .val (.hd 0) :: List.replicate (n - 2) .non
section
variable {P : Program} {w : World} {K : PySem.W.Frag} {mg : Str → Option Value} {base : Heap}
theorem law_WS {N : List Str} (hN : 2 ≤ N.length) {p a : Addr} {ns : List Int} {H H' : Hp} (sH : Same H H') (np : H p = none) (hp : H' p = some (.lst [.int 0, .int 0])) (hS : SqL K H a (ns.map V.int)) :
    ∃ hs : Hs, W (DR K) hs ((DR K).fp hs) H' (fun _ => none) (lawS N.length) ((0, 0, ns) : S3) ((L2.start N [.ref a]).set 1 (some (.ref p))) (fun _ => none) H' := by
  obtain ⟨n, hn⟩ : ∃ n, N.length = n + 2 := ⟨N.length - 2, by omega⟩
  have eσ : (L2.start N [.ref a]).set 1 (some (.ref p)) = some (.ref a) :: some (.ref p) :: List.replicate n none := by
    unfold L2.start
    rw [hn]
    show (some (V.ref a) :: List.replicate (n + 1) none).set 1 (some (.ref p)) = _
    rfl
  have eρ : lawS N.length = .val (.hd 1) :: .val (.hd 0) :: List.replicate n .non := by
    unfold lawS
    rw [hn]
    rfl
  obtain ⟨hs, e0, e1, rep⟩ : ∃ hs : Hs, hs 0 = some p ∧ hs 1 = some a ∧ (DR K).rep hs ((0, 0, ns) : S3) (fun _ => none) H' := by
    rcases hS with h | h
    · have ne : p ≠ a := fun z => by
        subst z
        rcases h with h | ⟨o, h⟩ <;> rw [np] at h <;> cases h
      refine ⟨fun n => if n = 0 then some p else if n = 1 then some a else if n = 2 then some a else none, rfl, rfl, p, a, rfl, rfl, hp, .inr ⟨rfl, ne, ?_⟩⟩
      rcases h with h | ⟨o, h⟩
      · exact .inl (sH _ _ h)
      · exact .inr ⟨o, sH _ _ h⟩
    · exact ⟨fun n => if n = 0 then some p else if n = 1 then some a else none, rfl, rfl, p, a, rfl, rfl, hp, .inl ⟨rfl, fun _ => .inr h⟩⟩
  refine ⟨hs, ?_⟩
  rw [eσ, eρ]
  have get : ∀ (i : Nat) s, (Slot.val (D.hd 1) :: Slot.val (D.hd 0) :: List.replicate n Slot.non)[i]? = some s → (i = 0 ∧ s = .val (.hd 1)) ∨ (i = 1 ∧ s = .val (.hd 0)) ∨ s = .non := fun i s e => by
    match i, e with
    | 0, e => cases e; exact .inl ⟨rfl, rfl⟩
    | 1, e => cases e; exact .inr (.inl ⟨rfl, rfl⟩)
    | i + 2, e =>
      have e : (List.replicate n Slot.non)[i]? = some s := e
      rw [List.getElem?_replicate] at e
      split at e
      · cases e; exact .inr (.inr rfl)
      · cases e
  refine ⟨Same.refl _, fun _ _ e _ => e, fun _ e => e, (fun _ _ e => by cases e), (fun _ _ e => by cases e), fun _ _ => rfl, rep, by simp, fun i d e => ?_, fun i d e => ?_, fun i j d e q1 q2 ne a b h1 h2 => ?_, .of_no fun i d e => by rcases get i _ e with ⟨rfl, z⟩ | ⟨rfl, z⟩ | z <;> cases z⟩
  · rcases get i _ e with ⟨rfl, z⟩ | ⟨rfl, z⟩ | z
    · cases z; exact ⟨.ref a, rfl, .hd e1⟩
    · cases z; exact ⟨.ref p, rfl, .hd e0⟩
    · cases z
  · rcases get i _ e with ⟨rfl, z⟩ | ⟨rfl, z⟩ | z <;> cases z
  · rcases get i _ q1 with ⟨rfl, z⟩ | ⟨rfl, z⟩ | z <;> cases z
theorem law_atS {x qual : Str} {st : Stmt} {f : Addr} {fd : FuncData} {N : List Str} {k : Nat} {s0 : Stmt} {rest : List Stmt} {den : Ev → M S3 Out} {A : Around} (F : Fun K x qual st f fd) (S : FnScope N ["script"] (defScope st)) (room : Room (k + 1) A) (hN : 2 ≤ N.length) (hb : defBody st = s0 :: rest)
    (h0 : ∀ (cdv : Value) (outer : List Env) (s : Shared) (H : Hp) (E : XK), Room k (A.deeper (PyProof.Rows.envOfC qual (defScope st) s.heap.objs.size f cdv)) →
      PS (cxOf CX0 P w K mg base N qual (defScope st) f cdv A outer s H E).nox s0 (tAsg (tLst (tCons (tC (.int 0)) (tCons (tC (.int 0)) tNil))) (gName 1)))
    (hrest : ∀ (cdv : Value) (outer : List Env) (s : Shared) (H : Hp) (E : XK), Room k (A.deeper (PyProof.Rows.envOfC qual (defScope st) s.heap.objs.size f cdv)) →
      QSs (cxOf CX0 P w K mg base N qual (defScope st) f cdv A outer s H E).nox (DR K) rest den)
    (ok : ∀ ns : List Int, ∃ st', den (lawS N.length) (0, 0, ns) = some (.rt (.bl true), st')) : RunAt P w K mg base A f fd ["script"] (spLaw K) := by
  refine run_at F S room (fun vs H Q E h => ?_) (fun cdv outer s H vs Q E hr h => ⟨_, by rw [hb]; exact pss_cons (h0 cdv outer s H E hr) (hrest cdv outer s H E hr), ?_⟩)
  · obtain ⟨a, ns, rfl, _⟩ := h
    rfl
  · obtain ⟨a, ns, rfl, hS, hl, q⟩ := h
    refine ⟨(by show (2 : Nat) ≤ sizeLine; decide), fun p np => ?_⟩
    obtain ⟨st', e⟩ := ok ns
    have sH : Same H (upd H p (.lst [.int 0, .int 0])) := fun x o e => by rw [upd_ne (ne_of_none e np)]; exact e
    obtain ⟨hs, W0⟩ := law_WS (K := K) hN sH np upd_same hS
    exact ⟨_, _, _, _, _, _, _, _, st', W0, e, fun v ρ σ' F' H'' w' m r => by cases r; exact q H''⟩
end
/-! repr of a number, a bool, None or a list or tuple -/
def rRepr2 (K : PySem.W.Frag) : List V → Hp → VK → Prop := fun xs H Q => (xs = [.non] ∧ Q (.str "None") H) ∨ (∃ b : Bool, xs = [.bl b] ∧ Q (.str (if b then "True" else "False")) H) ∨
  (∃ i : Int, xs = [.int i] ∧ i.natAbs.log2 < 1920 ∧ Q (.str (toString i)) H) ∨ rRepr K xs H Q
def reprA1 (d : D) : D → Option D
  | .non => some (.str "None")
  | .bl b => some (.str (if b then "True" else "False"))
  | .int i => if i.natAbs.log2 < 1920 then some (.str (toString i)) else none
  | _ => reprD [d]
def reprA : List D → Option D
  | [d] => reprA1 d (strip d)
  | _ => none
section
variable {X : Cx} {R : RK}
theorem c_repr2 (hg : X.A.guards = some []) (hu : X.A.units + 70 < cLine) : CallR X (.builtin "repr") (rRepr2 X.K) := by
  intro pins s σ H xs us Q I r h
  rcases h with ⟨rfl, q⟩ | ⟨b, rfl, q⟩ | ⟨i, rfl, hz, q⟩ | h
  · obtain ⟨u, rfl, e⟩ := vals1 r
    cases e
    exact PySem.P.repr_of_none ⟨.str _, H, I.tok _, ⟨_, rfl⟩, q⟩
  · obtain ⟨u, rfl, e⟩ := vals1 r
    cases e
    refine PySem.P.repr_of_bool ⟨.str _, H, I.tok _, ⟨s.toks, ?_⟩, q⟩
    cases b <;> rfl
  · obtain ⟨u, rfl, t, rfl⟩ := vals1 r
    exact PySem.P.repr_of_int hz ⟨.str _, H, I.tok _, ⟨_, rfl⟩, q⟩
  · exact c_repr hg hu pins s σ H xs us Q I r h
theorem q_repr2 : CQ R (rRepr2 X.K) reprA := by
  rintro vs H Q ⟨hs, Z, H0, F0, ρ, st, σ, F, ds, z, w, r, e, q⟩
  match ds, e with
  | [d], e =>
    obtain ⟨v, rfl, rv⟩ := r.one
    have vw := rv.vw w
    have e : reprA1 d (strip d) = some z := e
    have big : reprD [d] = some z → rRepr2 X.K [v] H Q := fun e => .inr (.inr (.inr (q_repr _ _ _ ⟨hs, Z, H0, F0, ρ, st, σ, F, [d], z, w, r, e, q⟩)))
    generalize strip d = d' at vw e
    cases d' with
    | non =>
      cases vw
      cases e
      exact .inl ⟨rfl, q _ F H w (Same.refl _) (.str _)⟩
    | bl b =>
      cases vw
      cases e
      exact .inr (.inl ⟨b, rfl, q _ F H w (Same.refl _) (.str _)⟩)
    | int i =>
      cases vw
      have e : (if i.natAbs.log2 < 1920 then some (D.str (toString i)) else none) = some z := e
      obtain ⟨c, rfl⟩ := ite_some e
      exact .inr (.inr (.inl ⟨i, rfl, c, q _ F H w (Same.refl _) (.str _)⟩))
    | str x => exact big e
    | lst x => exact big e
    | tup x => exact big e
    | dct t x => exact big e
    | hd x => exact big e
    | brw n x => exact big e
end
@[simp] theorem reprA_non : reprA [.non] = some (.str "None") := rfl
@[simp] theorem reprA_bl (b : Bool) : reprA [.bl b] = some (.str (if b then "True" else "False")) := rfl
theorem reprA_int {i : Int} (h : i.natAbs.log2 < 1920) : reprA [.int i] = some (.str (toString i)) := if_pos h
theorem reprA_seq {d : D} (h : isSeq (strip d) = true) : reprA [d] = reprD [d] := by
  show reprA1 d (strip d) = _
  cases hd : strip d <;> rw [hd] at h <;> first | rfl | cases h
theorem reprA_of {d : D} (h : reprB d = true) (hs : strip d = d) : reprA [d] = some (.str (reprS d)) := by
  have : isSeq d = true := by unfold reprB at h; simp only [Bool.and_eq_true] at h; exact h.1.1.1
  rw [reprA_seq (by rw [hs]; exact this), reprD_of h hs]
/-! comparing what lies deep (up to 64) -/
def eqW (neg : Bool) : D → D → Option D := fun d e => if fitD 64 (strip d) = true ∧ fitD 64 (strip e) = true then some (.bl (neg ^^ PyData.eqv (dat 64 (strip d)) (dat 64 (strip e)))) else none
theorem shaped_W {d : D} (f : fitD 64 d = true) : SeqAt.shaped (dat 64 d) = true := by
  unfold SeqAt.shaped
  rw [lay_of _ _ f, Bool.true_and]
  exact decide_eq_true (dep_of 64 d)
section
variable {R : RK}
theorem q_eqW {K : PySem.W.Frag} : OpQ R (fun x y H Q => rEq x y H Q ∨ rEqD K x y H Q) (eqW false) := by
  rintro x y H Q ⟨hs, Z, H0, F0, ρ, st, σ, F, d, e, z, w, r1, r2, h3, q⟩
  unfold eqW at h3
  obtain ⟨⟨c1, c2⟩, rfl⟩ := ite_some h3
  refine .inr ⟨_, _, dp_of _ _ _ (r1.vw w) c1, dp_of _ _ _ (r2.vw w) c2, shaped_W c1, shaped_W c2, ?_⟩
  exact q _ F H w (Same.refl _) (by rw [Bool.false_xor]; exact .bl _)
theorem q_neW {K : PySem.W.Frag} : OpQ R (fun x y H Q => rNe x y H Q ∨ rNeD K x y H Q) (eqW true) := by
  rintro x y H Q ⟨hs, Z, H0, F0, ρ, st, σ, F, d, e, z, w, r1, r2, h3, q⟩
  unfold eqW at h3
  obtain ⟨⟨c1, c2⟩, rfl⟩ := ite_some h3
  refine .inr ⟨_, _, dp_of _ _ _ (r1.vw w) c1, dp_of _ _ _ (r2.vw w) c2, shaped_W c1, shaped_W c2, ?_⟩
  exact q _ F H w (Same.refl _) (by rw [Bool.true_xor]; exact .bl _)
end
theorem eqW_nil (n : Bool) (xs : List D) (h : fitD 64 (.lst xs) = true) : eqW n (.lst xs) (.lst []) = some (.bl (n ^^ xs.isEmpty)) := by
  unfold eqW
  rw [if_pos ⟨by rw [show strip (.lst xs) = .lst xs from rfl]; exact h, rfl⟩, show strip (.lst xs) = .lst xs from rfl, show strip (.lst []) = .lst [] from rfl]
  have e : PyData.eqv (dat 64 (.lst xs)) (dat 64 (.lst [])) = xs.isEmpty := by
    show PyData.eqv (.list (xs.map (dat 63))) (.list []) = _
    cases xs <;> simp [PyData.eqv, PyData.eqvAll]
  rw [e]
/-! a, b, c = e1, e2, e3, all plain -/
def dPar3 {S : Type} (i j l : Nat) (f : Ev → M S (List D)) : Ev → M S Out := fun ρ => mb (f ρ) fun ds => ml (match ds with
  | [d, e, g] => if plain d = true ∧ plain e = true ∧ plain g = true then some (.nx (((ρ.set i (.val d)).set j (.val e)).set l (.val g))) else none
  | _ => none)
section
variable {X : Cx} {R : RK}
theorem qs_parV {i j l : Nat} {x y z : Str} {a b c : Expr} {pos px py pz pt : Pos} {kt k2 pt2} {f : Ev → M R.S (List D)} (hc : X.calm = true) (hN : X.N.Nodup) (hi : X.N[i]? = some x) (hj : X.N[j]? = some y) (hl : X.N[l]? = some z) (hij : i ≠ j) (hil : i ≠ l) (hjl : j ≠ l)
    (hx : X.env.scope.names.lookup x = some .local) (hy : X.env.scope.names.lookup y = some .local) (hz : X.env.scope.names.lookup z = some .local) (ha : QA X R [a, b, c] f)
    (hw : swappedStores [.Tuple [.Name x px, .Name y py, .Name z pz] kt pt] (.Tuple [a, b, c] k2 pt2) X.env = pure (some [x, y, z]))
    (hs : swapsWithSole [.Tuple [.Name x px, .Name y py, .Name z pz] kt pt] (.Tuple [a, b, c] k2 pt2) pos.line X.env = pure false := by rfl) :
    QS X R (.Assign [.Tuple [.Name x px, .Name y py, .Name z pz] kt pt] (.Tuple [a, b, c] k2 pt2) pos) (dPar3 i j l f) :=
  imp_s (ps_par3 hc hN hi hj hl hij hil hjl hx hy hz ha hw hs) fun D σ H ⟨hs, Z, H0, F0, ρ, st, F, o, st', w, e, q⟩ => by
    obtain ⟨ds, s1, e1, e⟩ := mb_some e
    obtain ⟨e2, rfl⟩ := ml_some e
    refine ⟨hs, Z, H0, F0, ρ, st, F, ds, _, w, e1, fun vs F1 H1 w1 m1 r1 => ?_⟩
    match ds, e2 with
    | [d1, d2, d3], e2 =>
      obtain ⟨⟨p1, p2, p3⟩, rfl⟩ := ite_some e2
      have rl := r1.pl (by simp [p1, p2, p3])
      cases rl with | cons q1 rl =>
      obtain ⟨v2, v3, rfl, q2, q3⟩ := rl.two
      exact ⟨_, v2, v3, rfl, q _ F1 H1 (((w1.setV q1 i).setV q2 j).setV q3 l) m1⟩
    | [], e2 => cases e2
    | [_], e2 => cases e2
    | [_, _], e2 => cases e2
    | _ :: _ :: _ :: _ :: _, e2 => cases e2
end
section
variable {S : Type} {ρ : Ev} {s : S}
theorem wp_dPar3 {i j l : Nat} {f : Ev → M S (List D)} {Q : Out → S → Prop} : Wp (dPar3 i j l f ρ s) Q ↔ Wp (f ρ s) fun ds s1 => ∃ d e g, ds = [d, e, g] ∧ (plain d = true ∧ plain e = true ∧ plain g = true) ∧ Q (.nx (((ρ.set i (.val d)).set j (.val e)).set l (.val g))) s1 := by
  unfold dPar3
  simp only [wp_mb, wp_ml]
  refine ⟨fun h => h.imp fun ds s1 q => ?_, fun h => h.imp fun ds s1 q => ?_⟩
  · match ds, q with
    | [d, e, g], q =>
      obtain ⟨o, e1, q⟩ := q
      obtain ⟨c, rfl⟩ := ite_some e1
      exact ⟨d, e, g, rfl, c, q⟩
    | [], ⟨_, e1, _⟩ => cases e1
    | [_], ⟨_, e1, _⟩ => cases e1
    | [_, _], ⟨_, e1, _⟩ => cases e1
    | _ :: _ :: _ :: _ :: _, ⟨_, e1, _⟩ => cases e1
  · obtain ⟨d, e, g, rfl, c, q⟩ := q
    exact ⟨_, if_pos c, q⟩
end
/-! min, max of two things of one shape -/
section
variable {prog : Program} {w : World} {A : Around} {E : Value → Shared → Prop} {s : Shared}
open PySem.W PyProof.Rows in
theorem call_min_twoH {a b : Value} {Q : Value → Shared → Prop}
    (h : wpAny (model prog w) A.in1 (pyIter (.ref s.heap.objs.size)) (fun it s₂ => ∃ I fp wr G n P St H bt, it = .ref I ∧ WalksS prog w A.in1 I fp wr G n P St ∧ St 0 s₂ ∧ (∀ b ∈ fp, b < s₂.heap.objs.size) ∧ 0 < n ∧
      (∀ b o, H.get? b = some o → b ∉ wr) ∧ (∀ b o, H.get? b = some o → s₂.heap.get? b = some o) ∧ CmpIn prog w A.in1 .Lt H P bt ∧ ∀ v s', P (argBest bt (n - 1)) v → Moved wr G s₂ s' → Q v s') E
      { s with heap := s.heap.push { cls := .type "tuple", data := .seq #[a, b] } }) :
    wpAny (model prog w) A (call (.builtin "min") [a, b]) Q E s := by
  have hname : (toString "min" ++ toString ".loop" : String) = "min.loop" := by decide
  refine call_function_tree F.kind_min F.plain_min F.entry_min (F.args_min2 _ _) ?_
  show wpAny _ A.in1 (Builtin.Builtins.bindParams "min" ["key", "default"] 0 ⟨[], []⟩ >>= _) _ _ s
  refine wpAny_bind (wpAny_of_eq (show Builtin.Builtins.bindParams "min" ["key", "default"] 0 ⟨[], []⟩ = pure [none, none] from rfl) ?_)
  show wpAny _ A.in1 (newTuple [a, b] >>= _) _ _ s
  refine wpAny_bind (wpAny_newObj_type ?_)
  refine wpAny_bind (wpAny_mono h (fun it s₂ h₂ => ?_) fun _ _ e => e)
  obtain ⟨I, fp, wr, G, n, P, St, H, bt, rfl, W, hst, hfp, hn, hw, hkeep, hcmp, hQ⟩ := h₂
  refine wpAny_bind (wpAny_newObj_type ?_)
  have hSf : s₂.heap.objs.size ∉ fp := fun hm => Nat.lt_irrefl _ (hfp _ hm)
  rw [hname]
  refine wpAny_pure ⟨plainId_quiet F.plain_min_loop _, codeAny_min_loop_firstH W H hw bt hcmp s₂.heap.objs.size hSf (fresh_in hkeep) _ hn (fun b o e => Heap.get?_push_of_some _ (hkeep b o e)) (W.frame 0 s₂ _ s₂.toks hst (Nat.le_refl _) fun b _ o e => Heap.get?_push_of_some _ e) (Heap.get?_push_size _ rfl) fun v s' hP hm => ?_⟩
  exact hQ v s' hP (Moved.drop_new (tk := s₂.toks) hm (Nat.le_refl _))
open PySem.W PyProof.Rows in
theorem call_max_twoH {a b : Value} {Q : Value → Shared → Prop}
    (h : wpAny (model prog w) A.in1 (pyIter (.ref s.heap.objs.size)) (fun it s₂ => ∃ I fp wr G n P St H bt, it = .ref I ∧ WalksS prog w A.in1 I fp wr G n P St ∧ St 0 s₂ ∧ (∀ b ∈ fp, b < s₂.heap.objs.size) ∧ 0 < n ∧
      (∀ b o, H.get? b = some o → b ∉ wr) ∧ (∀ b o, H.get? b = some o → s₂.heap.get? b = some o) ∧ CmpIn prog w A.in1 .Gt H P bt ∧ ∀ v s', P (argBest bt (n - 1)) v → Moved wr G s₂ s' → Q v s') E
      { s with heap := s.heap.push { cls := .type "tuple", data := .seq #[a, b] } }) :
    wpAny (model prog w) A (call (.builtin "max") [a, b]) Q E s := by
  have hname : (toString "max" ++ toString ".loop" : String) = "max.loop" := by decide
  refine call_function_tree F.kind_max F.plain_max F.entry_max (F.args_max2 _ _) ?_
  show wpAny _ A.in1 (Builtin.Builtins.bindParams "max" ["key", "default"] 0 ⟨[], []⟩ >>= _) _ _ s
  refine wpAny_bind (wpAny_of_eq (show Builtin.Builtins.bindParams "max" ["key", "default"] 0 ⟨[], []⟩ = pure [none, none] from rfl) ?_)
  show wpAny _ A.in1 (newTuple [a, b] >>= _) _ _ s
  refine wpAny_bind (wpAny_newObj_type ?_)
  refine wpAny_bind (wpAny_mono h (fun it s₂ h₂ => ?_) fun _ _ e => e)
  obtain ⟨I, fp, wr, G, n, P, St, H, bt, rfl, W, hst, hfp, hn, hw, hkeep, hcmp, hQ⟩ := h₂
  refine wpAny_bind (wpAny_newObj_type ?_)
  have hSf : s₂.heap.objs.size ∉ fp := fun hm => Nat.lt_irrefl _ (hfp _ hm)
  rw [hname]
  refine wpAny_pure ⟨plainId_quiet F.plain_max_loop _, codeAny_max_loop_firstH W H hw bt hcmp s₂.heap.objs.size hSf (fresh_in hkeep) _ hn (fun b o e => Heap.get?_push_of_some _ (hkeep b o e)) (W.frame 0 s₂ _ s₂.toks hst (Nat.le_refl _) fun b _ o e => Heap.get?_push_of_some _ e) (Heap.get?_push_size _ rfl) fun v s' hP hm => ?_⟩
  exact hQ v s' hP (Moved.drop_new (tk := s₂.toks) hm (Nat.le_refl _))
open PySem.W PyProof.Rows in
theorem min_two_data {a b : Value} {x y : PyData} {as bs : List Addr} {Q : Value → Shared → Prop} (hh : A.handled = none) (ra : Reads s.heap a x as) (rb : Reads s.heap b y bs) (ha : AlikeAll [x, y]) (hu : A.units + 1 + PyData.depthAll [x, y] < cLine)
    (h : ∀ h' tk, (∀ b o, s.heap.get? b = some o → h'.get? b = some o) → Q (if dataLt y x = true then b else a) { s with heap := h', toks := tk }) :
    wpAny (model prog w) A (call (.builtin "min") [a, b]) Q E s := by
  have hT : (s.heap.push { cls := .type "tuple", data := .seq #[a, b] }).IsTuple s.heap.objs.size #[a, b] := ⟨_, Heap.get?_push_size _ rfl, rfl, 0, rfl⟩
  have up : ∀ c o, s.heap.get? c = some o → (s.heap.push { cls := .type "tuple", data := .seq #[a, b] }).get? c = some o := fun c o e => Heap.get?_push_of_some _ e
  have hr : ReadsAll (s.heap.push { cls := .type "tuple", data := .seq #[a, b] }) (#[a, b] : Array Value).toList [x, y] _ := ReadsAll.cons (reads_keeps up ra) (ReadsAll.cons (reads_keeps up rb) ReadsAll.nil)
  refine call_min_twoH (iter_tupleW (A := A.in1) (s := { s with heap := s.heap.push { cls := .type "tuple", data := .seq #[a, b] } }) hh hT fun s₂ e W st hfp hw hk => ?_)
  refine ⟨_, _, _, _, _, _, _, s.heap.push { cls := .type "tuple", data := .seq #[a, b] }, _, rfl, W, st, hfp, by simp, hw, hk, cmpIn_lt (A := A.in1) (s := { s with heap := s.heap.push { cls := .type "tuple", data := .seq #[a, b] } }) hr ha (by show A.units + 1 + _ < _; exact hu), fun v s' hP m => ?_⟩
  obtain ⟨h', tk, rfl, hk'⟩ := moved_old (s := { s with heap := s.heap.push { cls := .type "tuple", data := .seq #[a, b] } }) e rfl m
  have hv : v = if dataLt y x = true then b else a := by
    cases hc : dataLt y x <;> simp [argBest, hc] at hP <;> simp [hP]
  rw [hv]
  exact h h' tk fun c o e => hk' c o (up c o e)
open PySem.W PyProof.Rows in
theorem max_two_data {a b : Value} {x y : PyData} {as bs : List Addr} {Q : Value → Shared → Prop} (hh : A.handled = none) (ra : Reads s.heap a x as) (rb : Reads s.heap b y bs) (ha : AlikeAll [x, y]) (hu : A.units + 1 + PyData.depthAll [x, y] < cLine)
    (h : ∀ h' tk, (∀ b o, s.heap.get? b = some o → h'.get? b = some o) → Q (if dataLt x y = true then b else a) { s with heap := h', toks := tk }) :
    wpAny (model prog w) A (call (.builtin "max") [a, b]) Q E s := by
  have hT : (s.heap.push { cls := .type "tuple", data := .seq #[a, b] }).IsTuple s.heap.objs.size #[a, b] := ⟨_, Heap.get?_push_size _ rfl, rfl, 0, rfl⟩
  have up : ∀ c o, s.heap.get? c = some o → (s.heap.push { cls := .type "tuple", data := .seq #[a, b] }).get? c = some o := fun c o e => Heap.get?_push_of_some _ e
  have hr : ReadsAll (s.heap.push { cls := .type "tuple", data := .seq #[a, b] }) (#[a, b] : Array Value).toList [x, y] _ := ReadsAll.cons (reads_keeps up ra) (ReadsAll.cons (reads_keeps up rb) ReadsAll.nil)
  refine call_max_twoH (iter_tupleW (A := A.in1) (s := { s with heap := s.heap.push { cls := .type "tuple", data := .seq #[a, b] } }) hh hT fun s₂ e W st hfp hw hk => ?_)
  refine ⟨_, _, _, _, _, _, _, s.heap.push { cls := .type "tuple", data := .seq #[a, b] }, _, rfl, W, st, hfp, by simp, hw, hk, cmpIn_gt (A := A.in1) (s := { s with heap := s.heap.push { cls := .type "tuple", data := .seq #[a, b] } }) hr ha (by show A.units + 1 + _ < _; exact hu), fun v s' hP m => ?_⟩
  obtain ⟨h', tk, rfl, hk'⟩ := moved_old (s := { s with heap := s.heap.push { cls := .type "tuple", data := .seq #[a, b] } }) e rfl m
  have hv : v = if dataLt x y = true then b else a := by
    cases hc : dataLt x y <;> simp [argBest, hc] at hP <;> simp [hP]
  rw [hv]
  exact h h' tk fun c o e => hk' c o (up c o e)
end
section
variable {X : Cx} {R : RK} {S : Type}
def rMinP (K : PySem.W.Frag) : List V → Hp → VK → Prop := fun vs H Q => ∃ (v1 v2 : V) (x y : PyData), vs = [v1, v2] ∧ Dp K H v1 x ∧ Dp K H v2 y ∧ PySem.W.AlikeAll [x, y] ∧ PyData.depthAll [x, y] ≤ 60 ∧ Q (if PySem.W.dataLt y x = true then v2 else v1) H
def rMaxP (K : PySem.W.Frag) : List V → Hp → VK → Prop := fun vs H Q => ∃ (v1 v2 : V) (x y : PyData), vs = [v1, v2] ∧ Dp K H v1 x ∧ Dp K H v2 y ∧ PySem.W.AlikeAll [x, y] ∧ PyData.depthAll [x, y] ≤ 60 ∧ Q (if PySem.W.dataLt x y = true then v2 else v1) H
theorem c_minP (hc : X.calm = true) (hu : X.A.units + 70 < cLine) : CallR X (.builtin "min") (rMinP X.K) := by
  intro pins s σ H vs us Q I r h
  obtain ⟨v1, v2, x, y, rfl, d1, d2, ha, hdep, q⟩ := h
  obtain ⟨u1, u2, rfl, r1, r2⟩ := vals2 r
  obtain ⟨as, q1⟩ := Dp.reads I x v1 u1 d1 r1
  obtain ⟨bs, q2⟩ := Dp.reads I y v2 u2 d2 r2
  refine min_two_data (I.ok.hd hc) q1 q2 ha (by omega) fun h' tk hk => ⟨_, H, I.kept (t' := tk) hk, ?_, q⟩
  by_cases c : PySem.W.dataLt y x = true
  · rw [if_pos c, if_pos c]; exact r2
  · rw [if_neg c, if_neg c]; exact r1
theorem c_maxP (hc : X.calm = true) (hu : X.A.units + 70 < cLine) : CallR X (.builtin "max") (rMaxP X.K) := by
  intro pins s σ H vs us Q I r h
  obtain ⟨v1, v2, x, y, rfl, d1, d2, ha, hdep, q⟩ := h
  obtain ⟨u1, u2, rfl, r1, r2⟩ := vals2 r
  obtain ⟨as, q1⟩ := Dp.reads I x v1 u1 d1 r1
  obtain ⟨bs, q2⟩ := Dp.reads I y v2 u2 d2 r2
  refine max_two_data (I.ok.hd hc) q1 q2 ha (by omega) fun h' tk hk => ⟨_, H, I.kept (t' := tk) hk, ?_, q⟩
  by_cases c : PySem.W.dataLt x y = true
  · rw [if_pos c, if_pos c]; exact r2
  · rw [if_neg c, if_neg c]; exact r1
def minP2 : List D → Option D
  | [d, e] => if plain d = true ∧ plain e = true ∧ [d, e].all (fitD 8) = true ∧ alikeB [d, e] = true then some (minE d [e]) else none
  | _ => none
def maxP2 : List D → Option D
  | [d, e] => if plain d = true ∧ plain e = true ∧ [d, e].all (fitD 8) = true ∧ alikeB [d, e] = true then some (maxE d [e]) else none
  | _ => none
theorem q_minP : CQ R (rMinP X.K) minP2 := by
  rintro vs H Q ⟨hs, Z, H0, F0, ρ, st, σ, F, ds, z, w, r, e, q⟩
  match ds, e with
  | [d, g], e =>
    have e : (if plain d = true ∧ plain g = true ∧ [d, g].all (fitD 8) = true ∧ alikeB [d, g] = true then some (minE d [g]) else none) = some z := e
    obtain ⟨⟨p1, p2, fa, al⟩, rfl⟩ := ite_some e
    have rl := r.pl (by simp [p1, p2])
    obtain ⟨v1, v2, rfl, r1, r2⟩ := rl.two
    have da := dpAll_of 8 (K := X.K) (rl.mono w.FH) fa
    have al2 := alikeB_all al
    cases da with | cons d1 da =>
    cases da with | cons d2 da =>
    refine ⟨v1, v2, dat 8 d, dat 8 g, rfl, d1, d2, al2, Nat.le_trans (depAll_of 8 [d, g]) (by decide), q _ F H w (Same.refl _) ?_⟩
    show Rp hs F (if PySem.W.dataLt (dat 8 g) (dat 8 d) = true then v2 else v1) (if PySem.W.dataLt (dat 8 g) (dat 8 d) = true then g else d)
    by_cases c : PySem.W.dataLt (dat 8 g) (dat 8 d) = true
    · rw [if_pos c, if_pos c]; exact r2
    · rw [if_neg c, if_neg c]; exact r1
  | [], e => cases e
  | [_], e => cases e
  | _ :: _ :: _ :: _, e => cases e
theorem q_maxP : CQ R (rMaxP X.K) maxP2 := by
  rintro vs H Q ⟨hs, Z, H0, F0, ρ, st, σ, F, ds, z, w, r, e, q⟩
  match ds, e with
  | [d, g], e =>
    have e : (if plain d = true ∧ plain g = true ∧ [d, g].all (fitD 8) = true ∧ alikeB [d, g] = true then some (maxE d [g]) else none) = some z := e
    obtain ⟨⟨p1, p2, fa, al⟩, rfl⟩ := ite_some e
    have rl := r.pl (by simp [p1, p2])
    obtain ⟨v1, v2, rfl, r1, r2⟩ := rl.two
    have da := dpAll_of 8 (K := X.K) (rl.mono w.FH) fa
    have al2 := alikeB_all al
    cases da with | cons d1 da =>
    cases da with | cons d2 da =>
    refine ⟨v1, v2, dat 8 d, dat 8 g, rfl, d1, d2, al2, Nat.le_trans (depAll_of 8 [d, g]) (by decide), q _ F H w (Same.refl _) ?_⟩
    show Rp hs F (if PySem.W.dataLt (dat 8 d) (dat 8 g) = true then v2 else v1) (if PySem.W.dataLt (dat 8 d) (dat 8 g) = true then g else d)
    by_cases c : PySem.W.dataLt (dat 8 d) (dat 8 g) = true
    · rw [if_pos c, if_pos c]; exact r2
    · rw [if_neg c, if_neg c]; exact r1
  | [], e => cases e
  | [_], e => cases e
  | _ :: _ :: _ :: _, e => cases e
end
end QL
end
section
set_option Elab.async false
set_option linter.all false
set_option maxRecDepth 100000
set_option maxHeartbeats 4000000
/-! QL: loops over enumerate(zip(a, b)). -/
namespace QL
open PySem PySem.Spec L2 PyProof.Rows PySem.Builtin
/-- the zip object, whatever it knows of the pair it gave last -/
def ZipM (h : Heap) (z TI TO : Addr) : Prop := IsZip h z TI TO .none ∨ ∃ (T : Addr) (f : Bool), IsZipHeld h z TI TO T f
theorem ZipM.obj {h : Heap} {z TI TO : Addr} (m : ZipM h z TI TO) : ∃ vs : Array Value, h.get? z = some { cls := .type "zip", dict := none, data := .fields vs, slots := #[] } := by
  rcases m with m | ⟨T, f, m⟩ <;> exact ⟨_, m⟩
theorem ZipM.to {h h' : Heap} {z TI TO : Addr} (m : ZipM h z TI TO) (k : ∀ o, h.get? z = some o → h'.get? z = some o) : ZipM h' z TI TO := by
  rcases m with m | ⟨T, f, m⟩
  · exact .inl (k _ m)
  · exact .inr ⟨T, f, k _ m⟩
section
variable {prog : Program} {w : World} {A : Around} {E : Value → Shared → Prop} {s : Shared}
theorem not_alive {a : Addr} {Q : Option Obj → Shared → Prop} (hd : s.heap.get? a = none) (h : Q none s) : wpAny (model prog w) A (loadIfAlive a) Q E s := by
  have h' : Q (s.heap.get? a) s := by rw [hd]; exact h
  exact fun _ _ _ => h'
theorem free_dead {z TI TO T : Addr} {f : Bool} {Q : Bool → Shared → Prop} (hz : IsZipHeld s.heap z TI TO T f) (hd : s.heap.get? T = none) (h : Q true s) : wpAny (model prog w) A (Builtin.SmallTypes.ownedTupleIsFree (.ref z)) Q E s := by
  unfold Builtin.SmallTypes.ownedTupleIsFree
  refine wpAny_bind (wpAny_field hz rfl (x := rawInt T) rfl ?_)
  show wpAny _ _ (loadIfAlive ((T : Int).toNat) >>= _) _ _ _
  rw [Int.toNat_natCast]
  refine wpAny_bind (not_alive hd ?_)
  simp only [Option.isNone_none, if_true]
  exact wpAny_pure h
theorem free_none {z TI TO : Addr} {Q : Bool → Shared → Prop} (hz : IsZip s.heap z TI TO .none) (h : Q true s) : wpAny (model prog w) A (Builtin.SmallTypes.ownedTupleIsFree (.ref z)) Q E s := by
  unfold Builtin.SmallTypes.ownedTupleIsFree
  exact wpAny_bind (wpAny_field hz rfl (x := .none) rfl (wpAny_pure h))
abbrev ZipO (h : Heap) (z TI TO : Addr) (f0 f1 : Value) : Prop := h.get? z = some { cls := .type "zip", dict := none, data := .fields #[f0, f1, .bool false, .ref TI, .ref TO], slots := #[] }
/-- next of a zip that may give its own pair again -/
theorem zip_free {z TI TO i1 i2 l1 l2 : Addr} {k1 k2 : Nat} {xs ys : Array Value} {x y a b f0 : Value} {f1 : Bool} {Q : Value → Shared → Prop} (D : ZipApart z TI TO i1 i2 l1 l2)
    (hz : ZipO s.heap z TI TO f0 (.bool f1)) (free : ∀ {Q : Bool → Shared → Prop}, Q true s → wpAny (model prog w) A (Builtin.SmallTypes.ownedTupleIsFree (.ref z)) Q E s) (hTI : IsPair s.heap TI (.ref i1) (.ref i2)) (hTO : IsPair s.heap TO a b)
    (h1 : s.heap.IsListIter i1 l1 k1) (h2 : s.heap.IsListIter i2 l2 k2) (hl1 : s.heap.IsList l1 xs) (hl2 : s.heap.IsList l2 ys) (hx : xs[k1]? = some x) (hy : ys[k2]? = some y)
    (hQ : ∀ h', ZipM h' z TI TO → IsPair h' TO x y → h'.IsListIter i1 l1 (k1 + 1) → h'.IsListIter i2 l2 (k2 + 1) → IsPair h' s.heap.objs.size x y → h'.objs.size = s.heap.objs.size + 1 →
      (∀ c o, c ≠ z → c ≠ TO → c ≠ i1 → c ≠ i2 → s.heap.get? c = some o → h'.get? c = some o) → Q (.ref s.heap.objs.size) { s with heap := h' }) :
    wpAny (model prog w) A (Builtin.«zip.__next__» ⟨[.ref z], []⟩) (fun fin s' => ∃ v, fin = .done (.ret v) ∧ Q v s') E s := by
  show wpAny _ _ (field (.ref z) 2 >>= _) _ _ _
  refine wpAny_bind (wpAny_field hz rfl (x := .bool false) rfl ?_)
  show wpAny _ _ (field (.ref z) 3 >>= _) _ _ _
  refine wpAny_bind (wpAny_field hz rfl (x := .ref TI) rfl ?_)
  refine wpAny_bind (wpAny_seqItems hTI rfl ?_)
  show wpAny _ _ (Builtin.SmallTypes.ownedTupleIsFree (.ref z) >>= _) _ _ _
  refine wpAny_bind (free ?_)
  simp only [if_true]
  refine wpAny_bind (wpAny_rule ?_)
  refine wpAny_bind (wpAny_field hz rfl (x := .ref TO) rfl ?_)
  refine wpAny_bind (wpAny_setField_rec hz (by simp) fun h₁ hz₁ hs₁ => ?_)
  replace hz₁ : ZipO h₁ z TI TO .ellipsis (.bool f1) := hz₁
  refine wpAny_bind ?_
  simp only [List.zipIdx_cons, List.zipIdx_nil, List.forIn_cons, List.forIn_nil]
  refine wpAny_bind (wpAny_bind (wpAny_onRaise ?_))
  show wpAny _ _ (Builtin.SmallTypes.nextOf (.ref i1) >>= _) _ _ _
  refine wpAny_bind (wpAny_nextOf_list_item (h1.extBut hs₁.extBut D.i1z) (hl1.extBut hs₁.extBut D.l1z) hx fun h₂ h1₂ hs₂ => wpAny_pure ?_)
  have hTO₂ : IsPair h₂ TO a b := hs₂.extBut _ _ D.TOi1 (hs₁.extBut _ _ D.TOz hTO)
  refine wpAny_bind (wpAny_seqItems hTO₂ rfl ?_)
  refine wpAny_bind (wpAny_updateSeq_pair hTO₂ fun h₃ hTO₃ hs₃ => ?_)
  replace hTO₃ : IsPair h₃ TO x b := hTO₃
  refine wpAny_bind (wpAny_letGo (wpAny_pure ?_))
  refine wpAny_bind (wpAny_bind (wpAny_onRaise ?_))
  show wpAny _ _ (Builtin.SmallTypes.nextOf (.ref i2) >>= _) _ _ _
  refine wpAny_bind (wpAny_nextOf_list_item (((h2.extBut hs₁.extBut D.i2z).extBut hs₂.extBut D.i12.symm).extBut hs₃.extBut D.TOi2.symm)
    (((hl2.extBut hs₁.extBut D.l2z).extBut hs₂.extBut D.l2i1).extBut hs₃.extBut D.l2TO) hy fun h₄ h2₄ hs₄ => wpAny_pure ?_)
  have hTO₄ : IsPair h₄ TO x b := hs₄.extBut _ _ D.TOi2 hTO₃
  refine wpAny_bind (wpAny_seqItems hTO₄ rfl ?_)
  refine wpAny_bind (wpAny_updateSeq_pair hTO₄ fun h₅ hTO₅ hs₅ => ?_)
  replace hTO₅ : IsPair h₅ TO x y := hTO₅
  refine wpAny_bind (wpAny_letGo (wpAny_pure (wpAny_pure ?_)))
  refine wpAny_bind (wpAny_seqItems hTO₅ rfl ?_)
  refine wpAny_bind (wpAny_newTuple ?_)
  have hsz : h₅.objs.size = s.heap.objs.size := by rw [hs₅.1, hs₄.1, hs₃.1, hs₂.1, hs₁.1]
  have hz₅ : ZipO h₅ z TI TO .ellipsis (.bool f1) := hs₅.extBut _ _ D.TOz.symm (hs₄.extBut _ _ D.i2z.symm (hs₃.extBut _ _ D.TOz.symm (hs₂.extBut _ _ D.i1z.symm hz₁)))
  have hk₅ : ∀ c o, c ≠ z → c ≠ TO → c ≠ i1 → c ≠ i2 → s.heap.get? c = some o → h₅.get? c = some o := fun c o c1 c2 c3 c4 e =>
    hs₅.extBut _ _ c2 (hs₄.extBut _ _ c4 (hs₃.extBut _ _ c2 (hs₂.extBut _ _ c3 (hs₁.extBut _ _ c1 e))))
  have h1₅ : h₅.IsListIter i1 l1 (k1 + 1) := ((h1₂.extBut hs₃.extBut D.TOi1.symm).extBut hs₄.extBut D.i12).extBut hs₅.extBut D.TOi1.symm
  have h2₅ : h₅.IsListIter i2 l2 (k2 + 1) := h2₄.extBut hs₅.extBut D.TOi2.symm
  have hzlt : z < h₅.objs.size := Heap.lt_size hz₅
  show wpAny _ _ (Builtin.SmallTypes.ownedTupleHandOut (.ref z) (.ref h₅.objs.size) >>= _) _ _ _
  refine wpAny_bind ?_
  unfold Builtin.SmallTypes.ownedTupleHandOut
  have hz₆ : ZipO (h₅.push { cls := .type "tuple", data := .seq #[x, y] }) z TI TO .ellipsis (.bool f1) := Heap.get?_push_of_some _ hz₅
  refine wpAny_bind (wpAny_setField_rec hz₆ (by simp) fun h₇ hz₇ hs₇ => ?_)
  replace hz₇ : ZipO h₇ z TI TO (rawInt h₅.objs.size) (.bool f1) := hz₇
  refine wpAny_setField_rec hz₇ (by simp) fun h₈ hz₈ hs₈ => ?_
  replace hz₈ : ZipO h₈ z TI TO (rawInt h₅.objs.size) (.bool false) := hz₈
  have up : ∀ c o, c ≠ z → h₅.get? c = some o → h₈.get? c = some o := fun c o c1 e => hs₈.extBut _ _ c1 (hs₇.extBut _ _ c1 (Heap.get?_push_of_some _ e))
  have hT₈ : IsPair h₈ h₅.objs.size x y := hs₈.extBut _ _ (Nat.ne_of_gt hzlt) (hs₇.extBut _ _ (Nat.ne_of_gt hzlt) (Heap.get?_push_size _ rfl))
  have hz8 : h₈.objs.size = h₅.objs.size + 1 := by rw [hs₈.1, hs₇.1, Heap.size_push]
  rw [hsz] at hz₈ hT₈ hz8
  refine wpAny_pure ⟨_, rfl, ?_⟩
  show Q (.ref h₅.objs.size) _
  rw [hsz]
  exact hQ h₈ (.inr ⟨s.heap.objs.size, false, hz₈⟩) (up _ _ D.TOz hTO₅) (h1₅.at fun o e => up _ o D.i1z e) (h2₅.at fun o e => up _ o D.i2z e) hT₈ hz8 fun c o c1 c2 c3 c4 e => up c o c1 (hk₅ c o c1 c2 c3 c4 e)
theorem zipM_next {z TI TO i1 i2 l1 l2 : Addr} {k1 k2 : Nat} {xs ys : Array Value} {x y : Value} {Q : Value → Shared → Prop} (D : ZipApart z TI TO i1 i2 l1 l2)
    (hz : ZipM s.heap z TI TO) (hTI : IsPair s.heap TI (.ref i1) (.ref i2)) (hTO : ∃ a b, IsPair s.heap TO a b)
    (h1 : s.heap.IsListIter i1 l1 k1) (h2 : s.heap.IsListIter i2 l2 k2) (hl1 : s.heap.IsList l1 xs) (hl2 : s.heap.IsList l2 ys) (hx : xs[k1]? = some x) (hy : ys[k2]? = some y)
    (hQ : ∀ h', ZipM h' z TI TO → (∃ a b, IsPair h' TO a b) → h'.IsListIter i1 l1 (k1 + 1) → h'.IsListIter i2 l2 (k2 + 1) → IsPair h' s.heap.objs.size x y → h'.objs.size = s.heap.objs.size + 1 →
      (∀ c o, c ≠ z → c ≠ TO → c ≠ i1 → c ≠ i2 → s.heap.get? c = some o → h'.get? c = some o) → Q (.ref s.heap.objs.size) { s with heap := h' }) :
    wpAny (model prog w) A (Builtin.«zip.__next__» ⟨[.ref z], []⟩) (fun fin s' => ∃ v, fin = .done (.ret v) ∧ Q v s') E s := by
  obtain ⟨a, b, hTO⟩ := hTO
  rcases hz with hz | ⟨T, f, hz⟩
  · exact zip_free D hz (fun h => free_none hz h) hTI hTO h1 h2 hl1 hl2 hx hy fun h' m p => hQ h' m ⟨_, _, p⟩
  · cases hT : s.heap.get? T with
    | none => exact zip_free D hz (fun h => free_dead hz hT h) hTI hTO h1 h2 hl1 hl2 hx hy fun h' m p => hQ h' m ⟨_, _, p⟩
    | some oT => exact zip_next_item_held D hz hT hTI h1 h2 hl1 hl2 hx hy fun h' m g1 g2 g3 g4 g5 => hQ h' (.inr ⟨T, true, m⟩) ⟨a, b, g5 _ _ D.TOz D.TOi1 D.TOi2 hTO⟩ g1 g2 g3 g4 fun c o c1 _ c3 c4 e => g5 c o c1 c3 c4 e
theorem zip_free_end {z TI TO i1 i2 l1 l2 : Addr} {k1 k2 : Nat} {xs ys : Array Value} {a b f0 : Value} {f1 : Bool} {Q : Fin → Shared → Prop} (hh : A.handled = none) (D : ZipApart z TI TO i1 i2 l1 l2)
    (hz : ZipO s.heap z TI TO f0 (.bool f1)) (free : ∀ {Q : Bool → Shared → Prop}, Q true s → wpAny (model prog w) A (Builtin.SmallTypes.ownedTupleIsFree (.ref z)) Q E s) (hTI : IsPair s.heap TI (.ref i1) (.ref i2)) (hTO : IsPair s.heap TO a b)
    (h1 : s.heap.IsListIter i1 l1 k1) (h2 : s.heap.IsListIter i2 l2 k2) (hl1 : s.heap.IsList l1 xs) (hl2 : s.heap.IsList l2 ys) (hend : xs[k1]? = none ∨ ys[k2]? = none)
    (hE : ∀ h' e, (∀ c o, c ≠ z → c ≠ TO → c ≠ i1 → c ≠ i2 → s.heap.get? c = some o → h'.get? c = some o) → (∃ o, h'.get? e = some o ∧ o.cls = .type "StopIteration") → E (.ref e) { s with heap := h' }) :
    wpAny (model prog w) A (Builtin.«zip.__next__» ⟨[.ref z], []⟩) Q E s := by
  show wpAny _ _ (field (.ref z) 2 >>= _) _ _ _
  refine wpAny_bind (wpAny_field hz rfl (x := .bool false) rfl ?_)
  show wpAny _ _ (field (.ref z) 3 >>= _) _ _ _
  refine wpAny_bind (wpAny_field hz rfl (x := .ref TI) rfl ?_)
  refine wpAny_bind (wpAny_seqItems hTI rfl ?_)
  show wpAny _ _ (Builtin.SmallTypes.ownedTupleIsFree (.ref z) >>= _) _ _ _
  refine wpAny_bind (free ?_)
  simp only [if_true]
  refine wpAny_bind (wpAny_rule ?_)
  refine wpAny_bind (wpAny_field hz rfl (x := .ref TO) rfl ?_)
  refine wpAny_bind (wpAny_setField_rec hz (by simp) fun h₁ hz₁ hs₁ => ?_)
  replace hz₁ : ZipO h₁ z TI TO .ellipsis (.bool f1) := hz₁
  refine wpAny_bind ?_
  simp only [List.zipIdx_cons, List.zipIdx_nil, List.forIn_cons, List.forIn_nil]
  refine wpAny_bind (wpAny_bind (wpAny_onRaise ?_))
  show wpAny _ _ (Builtin.SmallTypes.nextOf (.ref i1) >>= _) _ _ _
  cases hx : xs[k1]? with
  | none =>
    refine wpAny_bind (wpAny_nextOf_list_end hh (h1.extBut hs₁.extBut D.i1z) (hl1.extBut hs₁.extBut D.l1z) hx fun h₂ e hs₂ he => ?_)
    obtain ⟨oe, hoe, hce⟩ := he
    have hz₂ : ZipO h₂ z TI TO .ellipsis (.bool f1) := hs₂ _ _ D.i1z.symm hz₁
    have hez : e ≠ z := fun x => by subst x; rw [hz₂] at hoe; cases hoe; simp at hce
    refine wpAny_setField_rec hz₂ (by simp) fun h₃ _ hs₃ => hE h₃ e (fun c o c1 _ c3 _ x => hs₃.extBut _ _ c1 (hs₂ _ _ c3 (hs₁.extBut _ _ c1 x))) ⟨oe, hs₃.extBut _ _ hez hoe, hce⟩
  | some x =>
    have hy : ys[k2]? = none := by rcases hend with h | h; rw [hx] at h; cases h; exact h
    refine wpAny_bind (wpAny_nextOf_list_item (h1.extBut hs₁.extBut D.i1z) (hl1.extBut hs₁.extBut D.l1z) hx fun h₂ h1₂ hs₂ => wpAny_pure ?_)
    have hTO₂ : IsPair h₂ TO a b := hs₂.extBut _ _ D.TOi1 (hs₁.extBut _ _ D.TOz hTO)
    refine wpAny_bind (wpAny_seqItems hTO₂ rfl ?_)
    refine wpAny_bind (wpAny_updateSeq_pair hTO₂ fun h₃ hTO₃ hs₃ => ?_)
    refine wpAny_bind (wpAny_letGo (wpAny_pure ?_))
    refine wpAny_bind (wpAny_bind (wpAny_onRaise ?_))
    show wpAny _ _ (Builtin.SmallTypes.nextOf (.ref i2) >>= _) _ _ _
    refine wpAny_bind (wpAny_nextOf_list_end hh (((h2.extBut hs₁.extBut D.i2z).extBut hs₂.extBut D.i12.symm).extBut hs₃.extBut D.TOi2.symm)
      (((hl2.extBut hs₁.extBut D.l2z).extBut hs₂.extBut D.l2i1).extBut hs₃.extBut D.l2TO) hy fun h₄ e hs₄ he => ?_)
    obtain ⟨oe, hoe, hce⟩ := he
    have hz₄ : ZipO h₄ z TI TO .ellipsis (.bool f1) := hs₄ _ _ D.i2z.symm (hs₃.extBut _ _ D.TOz.symm (hs₂.extBut _ _ D.i1z.symm hz₁))
    have hez : e ≠ z := fun x => by subst x; rw [hz₄] at hoe; cases hoe; simp at hce
    refine wpAny_setField_rec hz₄ (by simp) fun h₅ _ hs₅ => hE h₅ e (fun c o c1 c2 c3 c4 x => hs₅.extBut _ _ c1 (hs₄ _ _ c4 (hs₃.extBut _ _ c2 (hs₂.extBut _ _ c3 (hs₁.extBut _ _ c1 x))))) ⟨oe, hs₅.extBut _ _ hez hoe, hce⟩
theorem zipM_end {z TI TO i1 i2 l1 l2 : Addr} {k1 k2 : Nat} {xs ys : Array Value} {Q : Fin → Shared → Prop} (hh : A.handled = none) (D : ZipApart z TI TO i1 i2 l1 l2)
    (hz : ZipM s.heap z TI TO) (hTI : IsPair s.heap TI (.ref i1) (.ref i2)) (hTO : ∃ a b, IsPair s.heap TO a b)
    (h1 : s.heap.IsListIter i1 l1 k1) (h2 : s.heap.IsListIter i2 l2 k2) (hl1 : s.heap.IsList l1 xs) (hl2 : s.heap.IsList l2 ys) (hend : xs[k1]? = none ∨ ys[k2]? = none)
    (hE : ∀ h' e, (∀ c o, c ≠ z → c ≠ TO → c ≠ i1 → c ≠ i2 → s.heap.get? c = some o → h'.get? c = some o) → (∃ o, h'.get? e = some o ∧ o.cls = .type "StopIteration") → E (.ref e) { s with heap := h' }) :
    wpAny (model prog w) A (Builtin.«zip.__next__» ⟨[.ref z], []⟩) Q E s := by
  obtain ⟨a, b, hTO⟩ := hTO
  rcases hz with hz | ⟨T, f, hz⟩
  · exact zip_free_end hh D hz (fun h => free_none hz h) hTI hTO h1 h2 hl1 hl2 hend hE
  · cases hT : s.heap.get? T with
    | none => exact zip_free_end hh D hz (fun h => free_dead hz hT h) hTI hTO h1 h2 hl1 hl2 hend hE
    | some oT => exact zip_next_end_held hh D hz hT hTI h1 h2 hl1 hl2 hend fun h' e k => hE h' e fun c o c1 _ c3 c4 x => k c o c1 c3 c4 x
/-! enumerate over it -/
theorem nextOf_zip {z TI TO i1 i2 l1 l2 : Addr} {k1 k2 : Nat} {xs ys : Array Value} {x y : Value} {Q : Value → Shared → Prop} (D : ZipApart z TI TO i1 i2 l1 l2)
    (hz : ZipM s.heap z TI TO) (hTI : IsPair s.heap TI (.ref i1) (.ref i2)) (hTO : ∃ a b, IsPair s.heap TO a b)
    (h1 : s.heap.IsListIter i1 l1 k1) (h2 : s.heap.IsListIter i2 l2 k2) (hl1 : s.heap.IsList l1 xs) (hl2 : s.heap.IsList l2 ys) (hx : xs[k1]? = some x) (hy : ys[k2]? = some y)
    (hQ : ∀ h', ZipM h' z TI TO → (∃ a b, IsPair h' TO a b) → h'.IsListIter i1 l1 (k1 + 1) → h'.IsListIter i2 l2 (k2 + 1) → IsPair h' s.heap.objs.size x y → h'.objs.size = s.heap.objs.size + 1 →
      (∀ c o, c ≠ z → c ≠ TO → c ≠ i1 → c ≠ i2 → s.heap.get? c = some o → h'.get? c = some o) → Q (.ref s.heap.objs.size) { s with heap := h' }) :
    wpAny (model prog w) A (Builtin.SmallTypes.nextOf (.ref z)) Q E s := by
  obtain ⟨vs, hv⟩ := hz.obj
  have hT : s.TypeIs (.ref z) "zip" := ⟨_, hv, rfl⟩
  unfold Builtin.SmallTypes.nextOf
  exact wpAny_bind (wpAny_callSpecial?_slot (name := Str.ofString "__next__") hT F.slot_zip_next
    (wpAny_call_entry F.slot_zip_next hT F.entry_zip_next
      (zipM_next D hz hTI hTO h1 h2 hl1 hl2 hx hy fun h' a1 a2 a3 a4 a5 a6 a7 => wpAny_pure (hQ h' a1 a2 a3 a4 a5 a6 a7)) (F.args_zip_next_1 _)))
theorem nextOf_zip_end {z TI TO i1 i2 l1 l2 : Addr} {k1 k2 : Nat} {xs ys : Array Value} {Q : Value → Shared → Prop} (hh : A.handled = none) (D : ZipApart z TI TO i1 i2 l1 l2)
    (hz : ZipM s.heap z TI TO) (hTI : IsPair s.heap TI (.ref i1) (.ref i2)) (hTO : ∃ a b, IsPair s.heap TO a b)
    (h1 : s.heap.IsListIter i1 l1 k1) (h2 : s.heap.IsListIter i2 l2 k2) (hl1 : s.heap.IsList l1 xs) (hl2 : s.heap.IsList l2 ys) (hend : xs[k1]? = none ∨ ys[k2]? = none)
    (hE : ∀ h' e, (∀ c o, c ≠ z → c ≠ TO → c ≠ i1 → c ≠ i2 → s.heap.get? c = some o → h'.get? c = some o) → (∃ o, h'.get? e = some o ∧ o.cls = .type "StopIteration") → E (.ref e) { s with heap := h' }) :
    wpAny (model prog w) A (Builtin.SmallTypes.nextOf (.ref z)) Q E s := by
  obtain ⟨vs, hv⟩ := hz.obj
  have hT : s.TypeIs (.ref z) "zip" := ⟨_, hv, rfl⟩
  unfold Builtin.SmallTypes.nextOf
  exact wpAny_bind (wpAny_callSpecial?_slot (name := Str.ofString "__next__") hT F.slot_zip_next
    (wpAny_call_entry F.slot_zip_next hT F.entry_zip_next (zipM_end hh D hz hTI hTO h1 h2 hl1 hl2 hend hE) (F.args_zip_next_1 _)))
structure EApart (e z TI TO i1 i2 : Addr) : Prop where
  z : e ≠ z
  TI : e ≠ TI
  TO : e ≠ TO
  i1 : e ≠ i1
  i2 : e ≠ i2
theorem enumZ_next {e z TI TO i1 i2 l1 l2 : Addr} {i : Nat} {xs ys : Array Value} {x y old : Value} {Q : Value → Shared → Prop} (D : ZipApart z TI TO i1 i2 l1 l2) (De : EApart e z TI TO i1 i2) (he : IsEnum s.heap e z i old)
    (hz : ZipM s.heap z TI TO) (hTI : IsPair s.heap TI (.ref i1) (.ref i2)) (hTO : ∃ a b, IsPair s.heap TO a b)
    (h1 : s.heap.IsListIter i1 l1 i) (h2 : s.heap.IsListIter i2 l2 i) (hl1 : s.heap.IsList l1 xs) (hl2 : s.heap.IsList l2 ys) (hx : xs[i]? = some x) (hy : ys[i]? = some y)
    (hQ : ∀ h', IsEnumOut h' e z ((i : Int) + 1) (.ref s.heap.objs.size) (s.heap.objs.size + 1) → ZipM h' z TI TO → IsPair h' TI (.ref i1) (.ref i2) → (∃ a b, IsPair h' TO a b) → h'.IsListIter i1 l1 (i + 1) → h'.IsListIter i2 l2 (i + 1) → IsPair h' s.heap.objs.size x y →
      h'.get? (s.heap.objs.size + 1) = some { cls := .type "tuple", data := .seq #[.int i s.toks, .ref s.heap.objs.size] } → h'.objs.size = s.heap.objs.size + 2 →
      (∀ c o, c ≠ e → c ≠ z → c ≠ TO → c ≠ i1 → c ≠ i2 → s.heap.get? c = some o → h'.get? c = some o) → Q (.ref (s.heap.objs.size + 1)) { s with heap := h', toks := s.toks + 1 }) :
    wpAny (model prog w) A (Builtin.«enumerate.__next__» ⟨[.ref e], []⟩) (fun fin s' => ∃ v, fin = .done (.ret v) ∧ Q v s') E s := by
  obtain ⟨hp, g, d, tk, os⟩ := s
  show wpAny _ _ (field (.ref e) 2 >>= _) _ _ _
  refine wpAny_bind (wpAny_field he rfl (x := .ref z) rfl ?_)
  refine wpAny_bind (nextOf_zip D hz hTI hTO h1 h2 hl1 hl2 hx hy fun h₁ m₁ p₁ a₁ b₁ t₁ z₁ k₁ => ?_)
  have he₁ : IsEnum h₁ e z i old := k₁ _ _ De.z De.TO De.i1 De.i2 he
  have ti₁ : IsPair h₁ TI (.ref i1) (.ref i2) := k₁ _ _ D.TIz D.TITO D.TIi1 D.TIi2 hTI
  show wpAny _ _ (field (.ref e) 3 >>= _) _ _ ⟨h₁, g, d, tk, os⟩
  refine wpAny_bind (wpAny_field he₁ rfl (x := rawInt i) rfl ?_)
  show wpAny _ _ (field (.ref e) 4 >>= _) _ _ ⟨h₁, g, d, tk, os⟩
  refine wpAny_bind (wpAny_field he₁ rfl (x := .none) rfl ?_)
  show wpAny _ _ (mkInt i >>= _) _ _ ⟨h₁, g, d, tk, os⟩
  refine wpAny_bind (wpAny_mkInt ?_)
  show wpAny _ _ (setField (.ref e) 3 (rawInt ((i : Int) + 1)) >>= _) _ _ ⟨h₁, g, d, tk + 1, os⟩
  refine wpAny_bind (wpAny_setField_rec he₁ (by simp) fun h₂ he₂ hs₂ => ?_)
  replace hs₂ : Heap.SameBut e h₁ h₂ := hs₂
  replace he₂ : IsEnum h₂ e z ((i : Int) + 1) old := he₂
  show wpAny _ _ (setField (.ref e) 4 .none >>= _) _ _ ⟨h₂, g, d, tk + 1, os⟩
  refine wpAny_bind (wpAny_setField_rec he₂ (by simp) fun h₃ he₃ hs₃ => ?_)
  replace hs₃ : Heap.SameBut e h₂ h₃ := hs₃
  replace he₃ : IsEnum h₃ e z ((i : Int) + 1) old := he₃
  show wpAny _ _ (newTuple [.int i tk, .ref hp.objs.size] >>= _) _ _ ⟨h₃, g, d, tk + 1, os⟩
  refine wpAny_bind (wpAny_newTuple ?_)
  have he₄ : IsEnum (h₃.push { cls := .type "tuple", data := .seq #[.int i tk, .ref hp.objs.size] }) e z ((i : Int) + 1) old := Heap.get?_push_of_some _ he₃
  have hsz : h₃.objs.size = hp.objs.size + 1 := by rw [hs₃.1, hs₂.1]; exact z₁
  have hel : e < hp.objs.size := Heap.lt_size he
  have ht₄ : (h₃.push { cls := .type "tuple", data := .seq #[.int i tk, .ref hp.objs.size] }).get? (hp.objs.size + 1) = some { cls := .type "tuple", data := .seq #[.int i tk, .ref hp.objs.size] } := by rw [← hsz]; exact Heap.get?_push_size _ rfl
  have hz₄ : (h₃.push { cls := .type "tuple", data := .seq #[.int i tk, .ref hp.objs.size] }).objs.size = hp.objs.size + 2 := by rw [Heap.size_push, hsz]
  have up₄ : ∀ c o, c ≠ e → h₁.get? c = some o → (h₃.push { cls := .type "tuple", data := .seq #[.int i tk, .ref hp.objs.size] }).get? c = some o := fun c o c1 q => Heap.get?_push_of_some _ (hs₃.extBut c o c1 (hs₂.extBut c o c1 q))
  generalize h₃.push { cls := .type "tuple", data := .seq #[.int i tk, .ref hp.objs.size] } = h₄ at he₄ ht₄ hz₄ up₄
  show wpAny _ _ (Builtin.SmallTypes.ownedTupleIsFree (.ref e) >>= _) _ _ ⟨h₄, g, d, tk + 1, os⟩
  rw [hsz]
  refine wpAny_bind ?_
  · unfold Builtin.SmallTypes.ownedTupleIsFree
    refine wpAny_bind (wpAny_field he₄ rfl (x := .none) rfl (wpAny_pure ?_))
    simp only [if_true]
    refine wpAny_bind (wpAny_rule ?_)
    refine wpAny_bind (wpAny_field he₄ rfl (x := old) rfl ?_)
    refine wpAny_bind (wpAny_setField_rec he₄ (by simp) fun h₅ he₅ hs₅ => ?_)
    replace hs₅ : Heap.SameBut e h₄ h₅ := hs₅
    replace he₅ : IsEnum h₅ e z ((i : Int) + 1) (.ref hp.objs.size) := he₅
    show wpAny _ _ (Builtin.SmallTypes.ownedTupleHandOut (.ref e) (.ref (hp.objs.size + 1)) >>= _) _ _ ⟨h₅, g, d, tk + 1, os⟩
    refine wpAny_bind ?_
    · unfold Builtin.SmallTypes.ownedTupleHandOut
      refine wpAny_bind (wpAny_setField_rec he₅ (by simp) fun h₆ he₆ hs₆ => ?_)
      replace hs₆ : Heap.SameBut e h₅ h₆ := hs₆
      replace he₆ : IsEnumOut h₆ e z ((i : Int) + 1) (.ref hp.objs.size) (hp.objs.size + 1) := he₆
      refine wpAny_setField_rec he₆ (by simp) fun h₇ he₇ hs₇ => ?_
      replace hs₇ : Heap.SameBut e h₆ h₇ := hs₇
      replace he₇ : IsEnumOut h₇ e z ((i : Int) + 1) (.ref hp.objs.size) (hp.objs.size + 1) := he₇
      have up : ∀ c o, c ≠ e → h₄.get? c = some o → h₇.get? c = some o := fun c o c1 q => hs₇.extBut c o c1 (hs₆.extBut c o c1 (hs₅.extBut c o c1 q))
      have up1 : ∀ c o, c ≠ e → h₁.get? c = some o → h₇.get? c = some o := fun c o c1 q => up c o c1 (up₄ c o c1 q)
      obtain ⟨pa, pb, p₁⟩ := p₁
      refine wpAny_bind (wpAny_letGo (wpAny_pure ⟨_, rfl, hQ h₇ he₇ (m₁.to fun o q => up1 _ o De.z.symm q) (up1 _ _ De.TI.symm ti₁) ⟨pa, pb, up1 _ _ De.TO.symm p₁⟩ (a₁.at fun o q => up1 _ o De.i1.symm q) (b₁.at fun o q => up1 _ o De.i2.symm q) (up1 _ _ (Nat.ne_of_gt hel) t₁) (up _ _ (Nat.ne_of_gt (Nat.lt_succ_of_lt hel)) ht₄) ?_ fun c o c1 c2 c3 c4 c5 q => up1 c o c1 (k₁ c o c2 c3 c4 c5 q)⟩))
      rw [hs₇.1, hs₆.1, hs₅.1, hz₄]
theorem next_enumZ {e z TI TO i1 i2 l1 l2 : Addr} {i : Nat} {xs ys : Array Value} {x y old : Value} {Q : Option Value → Shared → Prop} (D : ZipApart z TI TO i1 i2 l1 l2) (De : EApart e z TI TO i1 i2) (he : IsEnum s.heap e z i old)
    (hz : ZipM s.heap z TI TO) (hTI : IsPair s.heap TI (.ref i1) (.ref i2)) (hTO : ∃ a b, IsPair s.heap TO a b)
    (h1 : s.heap.IsListIter i1 l1 i) (h2 : s.heap.IsListIter i2 l2 i) (hl1 : s.heap.IsList l1 xs) (hl2 : s.heap.IsList l2 ys) (hx : xs[i]? = some x) (hy : ys[i]? = some y)
    (hQ : ∀ h', IsEnumOut h' e z ((i : Int) + 1) (.ref s.heap.objs.size) (s.heap.objs.size + 1) → ZipM h' z TI TO → IsPair h' TI (.ref i1) (.ref i2) → (∃ a b, IsPair h' TO a b) → h'.IsListIter i1 l1 (i + 1) → h'.IsListIter i2 l2 (i + 1) → IsPair h' s.heap.objs.size x y →
      h'.get? (s.heap.objs.size + 1) = some { cls := .type "tuple", data := .seq #[.int i s.toks, .ref s.heap.objs.size] } → h'.objs.size = s.heap.objs.size + 2 →
      (∀ c o, c ≠ e → c ≠ z → c ≠ TO → c ≠ i1 → c ≠ i2 → s.heap.get? c = some o → h'.get? c = some o) → Q (some (.ref (s.heap.objs.size + 1))) { s with heap := h', toks := s.toks + 1 }) :
    wpAny (model prog w) A (pyNext (.ref e)) Q E s := by
  have hT : s.TypeIs (.ref e) "enumerate" := ⟨_, he, rfl⟩
  unfold pyNext
  exact wpAny_bind (wpAny_attempt (wpAny_callSpecial?_slot (name := Str.ofString "__next__") hT F.slot_enumerate_next
    (wpAny_call_entry F.slot_enumerate_next hT F.entry_enumerate_next
      (enumZ_next D De he hz hTI hTO h1 h2 hl1 hl2 hx hy fun h' a b c d f g k l m n => wpAny_pure (hQ h' a b c d f g k l m n)) (F.args_enumerate_next_1 _))))
theorem next_enumZ_end {e z TI TO i1 i2 l1 l2 : Addr} {i : Nat} {xs ys : Array Value} {old : Value} {Q : Option Value → Shared → Prop} (hh : A.handled = none) (D : ZipApart z TI TO i1 i2 l1 l2) (he : IsEnum s.heap e z i old)
    (hz : ZipM s.heap z TI TO) (hTI : IsPair s.heap TI (.ref i1) (.ref i2)) (hTO : ∃ a b, IsPair s.heap TO a b)
    (h1 : s.heap.IsListIter i1 l1 i) (h2 : s.heap.IsListIter i2 l2 i) (hl1 : s.heap.IsList l1 xs) (hl2 : s.heap.IsList l2 ys) (hend : xs[i]? = none ∨ ys[i]? = none)
    (hQ : ∀ h', (∀ c o, c ≠ z → c ≠ TO → c ≠ i1 → c ≠ i2 → s.heap.get? c = some o → h'.get? c = some o) → Q none { s with heap := h' }) : wpAny (model prog w) A (pyNext (.ref e)) Q E s := by
  have hT : s.TypeIs (.ref e) "enumerate" := ⟨_, he, rfl⟩
  unfold pyNext
  refine wpAny_bind (wpAny_attempt (wpAny_callSpecial?_slot (name := Str.ofString "__next__") hT F.slot_enumerate_next
    (wpAny_call_entry F.slot_enumerate_next hT F.entry_enumerate_next ?_ (F.args_enumerate_next_1 _))))
  show wpAny _ _ (field (.ref e) 2 >>= _) _ _ _
  refine wpAny_bind (wpAny_field he rfl (x := .ref z) rfl ?_)
  refine wpAny_bind (nextOf_zip_end hh D hz hTI hTO h1 h2 hl1 hl2 hend fun h' x he' hx' => ?_)
  obtain ⟨o, ho, hc⟩ := hx'
  refine wpAny_bind (wpAny_isInstance (T := "StopIteration") (b := true) ⟨o, ho, hc⟩ isSubtype_stop ?_)
  exact wpAny_pure (hQ _ he')
end
set_option maxHeartbeats 1000000 in
theorem meets_enum_zip (z TI TO : Addr) :
    Meets (Builtin.«enumerate.__new__» ⟨[.type "enumerate", .ref z], []⟩) (fun _ R s => IsZip s.heap z TI TO .none ∧
      R (.ok (.ret (.ref s.heap.objs.size))) { s with heap := s.heap.push { cls := .type "enumerate", data := .fields #[.none, .bool false, .ref z, rawInt 0, .none, .none] } }) :=
  .of_wp fun prog w A R s h => by
    obtain ⟨hp, g, d, tk, os⟩ := s
    obtain ⟨h1, h⟩ := h
    have hsub := sub_enumerate
    have h1 : IsZip hp z TI TO .none := h1
    wp_walk using wpAny_loadPart' h1, wpAny_pyIter_zip h1
    refine wpAny_stack_any fun st => wpAny_pure ?_
    split
    · rename_i c _ _ _ _ _
      cases (c == Value.type "enumerate")
      · wp_walk using wpAny_loadPart' h1, wpAny_pyIter_zip h1
        exact ⟨_, rfl, h⟩
      · wp_walk using wpAny_loadPart' h1, wpAny_pyIter_zip h1
        exact ⟨_, rfl, h⟩
    · wp_walk using wpAny_loadPart' h1, wpAny_pyIter_zip h1
      exact ⟨_, rfl, h⟩
theorem call_enum_zip {prog : Program} {w : World} {A : Around} {E : Value → Shared → Prop} {s : Shared} {z TI TO : Addr} {Q : Value → Shared → Prop} (hz : IsZip s.heap z TI TO .none)
    (h : ∀ h', IsEnum h' s.heap.objs.size z 0 .none → h'.objs.size = s.heap.objs.size + 1 → (∀ b o, s.heap.get? b = some o → h'.get? b = some o) → Q (.ref s.heap.objs.size) { s with heap := h' }) :
    wpAny (model prog w) A (call (.type "enumerate") [.ref z]) Q E s := by
  refine callType_new F.called_enumerate (by decide) (F.typeCall_enumerate_1 _) (F.newCall_enumerate_1 _) (fun obj => F.args_object_init_2 obj _) F.entry_enumerate_new (meets_enum_zip z TI TO) ⟨hz, ?_⟩
  have he : IsEnum (s.heap.push { cls := .type "enumerate", data := .fields #[.none, .bool false, .ref z, rawInt 0, .none, .none] }) s.heap.objs.size z 0 .none := Heap.get?_push_size _ rfl
  exact ⟨⟨_, he, rfl⟩, h _ he (Heap.size_push ..) fun b o x => Heap.get?_push_of_some _ x⟩
/-- the lists at a and b as they stand at each turn, the number and the pair of items in new tuples -/
def ItEZ (K : PySem.W.Frag) (a b : Addr) : It :=
  ⟨fun i H => ∃ (xs ys : List V) (x y : V), SqL K H a xs ∧ SqL K H b ys ∧ xs[i]? = some x ∧ ys[i]? = some y,
    fun i H v H' => ∃ U T x y, v = .ref T ∧ H U = none ∧ H T = none ∧ U ≠ T ∧ H' = upd (upd H U (.tup [x, y])) T (.tup [.int (i : Nat), .ref U]) ∧ (∀ xs, SqL K H a xs → xs[i]? = some x) ∧ ∀ ys, SqL K H b ys → ys[i]? = some y,
    fun i H => ∃ xs ys : List V, SqL K H a xs ∧ SqL K H b ys ∧ (xs.length ≤ i ∨ ys.length ≤ i)⟩
theorem turn_enumZ {P : Program} {w : World} {K : PySem.W.Frag} {elts : List Expr} {kk : Nat} {tpos : Pos} {a b e z TI TO i1 i2 : Addr} (D : ZipApart z TI TO i1 i2 a b) (De : EApart e z TI TO i1 i2) :
    Turn P w K (.Tuple elts kk tpos) (ItEZ K a b) [e, z, TI, TO, i1, i2] e (fun i h => (∃ old, IsEnum h e z (i : Int) old) ∧ ZipM h z TI TO ∧ IsPair h TI (.ref i1) (.ref i2) ∧ (∃ x y, IsPair h TO x y) ∧ h.IsListIter i1 a i ∧ h.IsListIter i2 b i) where
  mem := by simp
  obj := fun i h st c hc => by
    obtain ⟨⟨old, he⟩, hz, hTI, ⟨x, y, hTO⟩, ⟨o1, e1, _, d1⟩, ⟨o2, e2, _, d2⟩⟩ := st
    have e' : c = e ∨ c = z ∨ c = TI ∨ c = TO ∨ c = i1 ∨ c = i2 := by simpa using hc
    rcases e' with q | q | q | q | q | q
    · rw [q]; exact ⟨_, he, fun v q => nomatch q⟩
    · obtain ⟨vs, hv⟩ := hz.obj
      rw [q]; exact ⟨_, hv, fun v q => nomatch q⟩
    · rw [q]; exact ⟨_, hTI, fun v q => nomatch q⟩
    · rw [q]; exact ⟨_, hTO, fun v q => nomatch q⟩
    · rw [q]; exact ⟨o1, e1, fun v q => by rw [d1] at q; cases q⟩
    · rw [q]; exact ⟨o2, e2, fun v q => by rw [d2] at q; cases q⟩
  keep := fun i h h' st k => by
    obtain ⟨⟨old, he⟩, hz, hTI, ⟨x, y, hTO⟩, h1, h2⟩ := st
    exact ⟨⟨old, k e (by simp) _ he⟩, hz.to fun o q => k z (by simp) o q, k TI (by simp) _ hTI, ⟨x, y, k TO (by simp) _ hTO⟩, h1.at fun o q => k i1 (by simp) o q, h2.at fun o q => k i2 (by simp) o q⟩
  item := by
    intro X hP hw hK hc i pins s σ H E I hf st hg
    subst hP hw hK
    obtain ⟨⟨old, he⟩, hz, hTI, hTO, h1, h2⟩ := st
    obtain ⟨xs, ys, x, y, hqx, hqy, hx, hy⟩ := hg
    obtain ⟨its, rv, p, _⟩ := I.list hqx
    obtain ⟨its2, rv2, p2, _⟩ := I.list hqy
    obtain ⟨u, hu, ru⟩ := rv.get hx
    obtain ⟨u2, hu2, ru2⟩ := rv2.get hy
    have hel : e < s.heap.objs.size := Heap.lt_size he
    refine next_enumZ D De he hz hTI hTO h1 h2 p.isList p2.isList (x := u) (y := u2) (by simpa using hu) (by simpa using hu2) fun h' ho mz ti to' a1 a2 tU tT hsz hk => ?_
    refine ⟨_, rfl, wpAny_letOwnedTupleGo_enum (s := { s with heap := h', toks := s.toks + 1 }) ho fun h'' he'' sb => ?_⟩
    have up : ∀ c o, c ≠ e → h'.get? c = some o → h''.get? c = some o := fun c o c1 q => (sb.2 c c1).trans q
    have nU : s.heap.objs.size ≠ e := Nat.ne_of_gt hel
    have nT : s.heap.objs.size + 1 ≠ e := Nat.ne_of_gt (Nat.lt_succ_of_lt hel)
    have tU2 := up _ _ nU tU
    have tT2 := up _ _ nT tT
    -- the pair first, then all else
    have newU : ObjOk X.prog X.w (upd H s.heap.objs.size (.tup [x, y])) (s.heap.push { cls := .type "tuple", data := .seq #[u, u2] }) s.heap.objs.size (.tup [x, y]) :=
      ⟨by show 2 ≤ sizeLine; decide, [u, u2], .cons ru (.cons ru2 .nil), ⟨_, Heap.get?_push_size _ rfl, rfl, _, rfl⟩⟩
    have I0 : Inv X pins σ (upd H s.heap.objs.size (.tup [x, y])) { s with heap := s.heap.push { cls := .type "tuple", data := .seq #[u, u2] } } := I.laid (t' := s.toks) (fun b o q => Heap.get?_push_of_some _ q) (Nat.le_refl _) newU
    have lt : ∀ c ∈ [e, z, TI, TO, i1, i2], c < s.heap.objs.size := fun c hcm => by
      have e' : c = e ∨ c = z ∨ c = TI ∨ c = TO ∨ c = i1 ∨ c = i2 := by simpa using hcm
      obtain ⟨a', b', hTO⟩ := hTO
      rcases e' with q | q | q | q | q | q
      · rw [q]; exact hel
      · obtain ⟨vs, hv⟩ := hz.obj
        rw [q]; exact Heap.lt_size hv
      · rw [q]; exact Heap.lt_size hTI
      · rw [q]; exact Heap.lt_size hTO
      · rw [q]; obtain ⟨_, e1, _⟩ := h1; exact Heap.lt_size e1
      · rw [q]; obtain ⟨_, e1, _⟩ := h2; exact Heap.lt_size e1
    have hf2 : ∀ c ∈ [e, z, TI, TO, i1, i2], FpOk X pins (upd H s.heap.objs.size (.tup [x, y])) c := fun c hcm => by
      obtain ⟨f1, f2⟩ := hf c hcm
      exact ⟨by rw [upd_ne (Nat.ne_of_lt (lt c hcm))]; exact f1, f2⟩
    have keep2 : ∀ c o, c ∉ [e, z, TI, TO, i1, i2] → (s.heap.push { cls := .type "tuple", data := .seq #[u, u2] }).get? c = some o → h''.get? c = some o := fun c o hcm q => by
      have n1 : c ≠ e := fun q => hcm (by simp [q])
      have n2 : c ≠ z := fun q => hcm (by simp [q])
      have n3 : c ≠ TO := fun q => hcm (by simp [q])
      have n4 : c ≠ i1 := fun q => hcm (by simp [q])
      have n5 : c ≠ i2 := fun q => hcm (by simp [q])
      by_cases cU : c = s.heap.objs.size
      · subst cU
        rw [Heap.get?_push_size _ rfl] at q
        cases q
        exact tU2
      · refine up c o n1 (hk c o n1 n2 n3 n4 n5 ?_)
        rwa [Heap.get?_push_ne _ _ _ cU] at q
    have newT : ObjOk X.prog X.w (upd (upd H s.heap.objs.size (.tup [x, y])) (s.heap.objs.size + 1) (.tup [.int (i : Nat), .ref s.heap.objs.size])) h'' (s.heap.objs.size + 1) (.tup [.int (i : Nat), .ref s.heap.objs.size]) :=
      ⟨by show 2 ≤ sizeLine; decide, [.int i s.toks, .ref s.heap.objs.size], .cons ⟨_, rfl⟩ (.cons rfl .nil), ⟨_, tT2, rfl, _, rfl⟩⟩
    have I1 : Inv X pins σ (upd (upd H s.heap.objs.size (.tup [x, y])) (s.heap.objs.size + 1) (.tup [.int (i : Nat), .ref s.heap.objs.size])) { s with heap := h'', toks := s.toks + 1 } :=
      I0.turnedNew (t' := s.toks + 1) (ch := [e, z, TI, TO, i1, i2]) keep2 hf2 (by show (s.heap.push _).objs.size ≤ _; rw [Heap.size_push]; exact Nat.le_refl _) newT
    refine ⟨.ref (s.heap.objs.size + 1), _, I1, rfl, ⟨s.heap.objs.size, s.heap.objs.size + 1, x, y, rfl, I.hok.fresh (Nat.le_refl _), I.hok.fresh (Nat.le_succ _), Nat.ne_of_lt (Nat.lt_succ_self _), rfl, fun l hl => by rw [I.list_inj hl hqx]; exact hx, fun l hl => by rw [I.list_inj hl hqy]; exact hy⟩, ⟨⟨.ref s.heap.objs.size, ?_⟩, ?_, ?_, ?_, ?_, ?_⟩, fun c hcm => ?_⟩
    · have e1 : ((i + 1 : Nat) : Int) = (i : Int) + 1 := by omega
      rw [e1]; exact he''
    · exact mz.to fun o q => up _ o De.z.symm q
    · exact up _ _ De.TI.symm ti
    · obtain ⟨a', b', t'⟩ := to'
      exact ⟨a', b', up _ _ De.TO.symm t'⟩
    · exact a1.at fun o q => up _ o De.i1.symm q
    · exact a2.at fun o q => up _ o De.i2.symm q
    · have := lt c hcm
      rw [upd_ne (Nat.ne_of_lt (Nat.lt_succ_of_lt this)), upd_ne (Nat.ne_of_lt this)]
      exact (hf c hcm).1
  done := by
    intro X hP hw hK hc i pins s σ H E I hf st hg
    subst hP hw hK
    obtain ⟨⟨old, he⟩, hz, hTI, hTO, h1, h2⟩ := st
    obtain ⟨xs, ys, hqx, hqy, hend⟩ := hg
    obtain ⟨its, rv, p, _⟩ := I.list hqx
    obtain ⟨its2, rv2, p2, _⟩ := I.list hqy
    have l1 := rv.length
    have l2 := rv2.length
    have he' : its.toArray[i]? = none ∨ its2.toArray[i]? = none := by
      rcases hend with q | q
      · exact .inl (by simp; omega)
      · exact .inr (by simp; omega)
    exact next_enumZ_end (I.ok.hd hc) D he hz hTI hTO h1 h2 p.isList p2.isList he' fun h' hk => ⟨rfl, I.turnedL (t' := s.toks) (ch := [e, z, TI, TO, i1, i2]) (fun c o hb q =>
      hk c o (fun q' => hb (by simp [q'])) (fun q' => hb (by simp [q'])) (fun q' => hb (by simp [q'])) (fun q' => hb (by simp [q'])) q) hf⟩
  self := fun A i s Q E st h => let ⟨⟨_, he⟩, _⟩ := st; wpAny_pyIter_enum he h
theorem eApart (n : Nat) : EApart (n + 5) (n + 4) (n + 2) (n + 3) n (n + 1) :=
  ⟨by show (n + 5 : Nat) ≠ n + 4; omega, by show (n + 5 : Nat) ≠ n + 2; omega, by show (n + 5 : Nat) ≠ n + 3; omega, by show (n + 5 : Nat) ≠ n; omega, by show (n + 5 : Nat) ≠ n + 1; omega⟩
def iEZ (K : PySem.W.Frag) (ta : TA) : TI := fun σ H R => ta σ H fun vs H1 => ∃ a b xs ys, vs = [.ref a, .ref b] ∧ SqL K H1 a xs ∧ SqL K H1 b ys ∧ R (ItEZ K a b) H1
theorem pi_enumZ {X : Cx} {e e2 : Expr} {ta : TA} {p pos p2 pos2 tpos : Pos} {elts : List Expr} {kk : Nat} (hg : Gl X "enumerate") (hm : X.mg "enumerate" = none) (hg2 : Gl X "zip") (hm2 : X.mg "zip" = none) (ha : PA X [e, e2] ta)
    (hs : starEach [e, e2] X.env = (false, eval e X.env) :: starEach [e2] X.env := by rfl) (hpl : (backTo pos2 (starEach [e2] X.env)).any (·.1) = false := by rfl)
    (hs2 : starEach [.Call (.Name "zip" p2) [e, e2] [] pos2] X.env = (false, eval (.Call (.Name "zip" p2) [e, e2] [] pos2) X.env) :: starEach [] X.env := by rfl) :
    PI X (.Tuple elts kk tpos) (.Call (.Name "enumerate" p) [.Call (.Name "zip" p2) [e, e2] [] pos2] [] pos) (iEZ X.K ta) := by
  refine ⟨fun pins s σ H R I h => ?_⟩
  refine Call_ (ld_blt I hg hm boot_enumerate (PyProof.Rows.callWith_type1 ?_ hs2 rfl))
  rw [hs2]
  show wpAny _ _ (spliced ((false, eval (.Call (.Name "zip" p2) [e, e2] [] pos2) X.env) :: backTo pos (starEach [] X.env))) _ _ s
  refine Calls.spliced_cons ?_
  refine Call_ (ld_blt I hg2 hm2 PyProof.Rows.boot_zip (PyProof.Rows.callWith_type1 (thn (ha.run pos2 pins s σ H _ I h) fun us s1 ⟨vs, H1, I1, r1, q1⟩ => ?_) hs hpl))
  obtain ⟨a, b, xs, ys, ex, hqx, hqy, q⟩ := q1
  subst ex
  cases r1 with
  | cons r rr =>
    cases rr with
    | cons r' rr =>
      cases rr
      cases r
      cases r'
      obtain ⟨its, rv, p1, _⟩ := I1.list hqx
      obtain ⟨its2, rv2, p2, _⟩ := I1.list hqy
      have la : a < s1.heap.objs.size := p1.lt
      have lb : b < s1.heap.objs.size := p2.lt
      refine call_zip_2 p1.isList p2.isList fun h' hz hTI hTO h1 h2 hsz hk => ?_
      refine Calls.spliced_nil ?_
      have I2 : Inv X pins σ H1 { s1 with heap := h' } := I1.kept (t' := s1.toks) hk
      refine call_enum_zip (s := { s1 with heap := h' }) hz fun h'' he hsz2 hk2 => wpAny_pyIter_enum he ?_
      have I3 : Inv X pins σ H1 { s1 with heap := h'' } := I2.kept (t' := s1.toks) hk2
      have hsz : h'.objs.size = s1.heap.objs.size + 5 := hsz
      have ee : ({ s1 with heap := h' } : Shared).heap.objs.size = s1.heap.objs.size + 5 := hsz
      rw [ee] at he ⊢
      refine ⟨s1.heap.objs.size + 5, [s1.heap.objs.size + 5, s1.heap.objs.size + 4, s1.heap.objs.size + 2, s1.heap.objs.size + 3, s1.heap.objs.size, s1.heap.objs.size + 1], _, _, H1, rfl, I3, turn_enumZ (PySem.W.ktu_apart s1.heap.objs.size a b la lb) (eApart s1.heap.objs.size), ⟨⟨_, he⟩, .inl (hk2 _ _ hz), hk2 _ _ hTI, ⟨_, _, hk2 _ _ hTO⟩, h1.at fun o q => hk2 _ o q, h2.at fun o q => hk2 _ o q⟩, fun c hcm => ?_, q⟩
      have e' : c = s1.heap.objs.size + 5 ∨ c = s1.heap.objs.size + 4 ∨ c = s1.heap.objs.size + 2 ∨ c = s1.heap.objs.size + 3 ∨ c = s1.heap.objs.size ∨ c = s1.heap.objs.size + 1 := by simpa using hcm
      have hle : s1.heap.objs.size ≤ c := by
        rcases e' with z | z | z | z | z | z
        · rw [z]; exact Nat.le_add_right _ _
        · rw [z]; exact Nat.le_add_right _ _
        · rw [z]; exact Nat.le_add_right _ _
        · rw [z]; exact Nat.le_add_right _ _
        · rw [z]; exact Nat.le_refl _
        · rw [z]; exact Nat.le_add_right _ _
      exact I1.fpOk hle (I1.hok.fresh hle)
/-! enumerate(zip(e, e2)) of the layer -/
def enuZD : List D → Option (List D)
  | [.lst ds, .lst es] => some ((ds.zip es).zipIdx.map fun p => .tup [.int (p.2 : Nat), .tup [p.1.1, p.1.2]])
  | _ => none
section
variable {X : Cx} {R : RK}
theorem qi_enumZ {e e2 : Expr} {p pos p2 pos2 tpos : Pos} {elts : List Expr} {kk : Nat} {f : Ev → M R.S (List D)} (hg : Gl X "enumerate") (hm : X.mg "enumerate" = none) (hg2 : Gl X "zip") (hm2 : X.mg "zip" = none) (ha : QA X R [e, e2] f)
    (hs : starEach [e, e2] X.env = (false, eval e X.env) :: starEach [e2] X.env := by rfl) (hpl : (backTo pos2 (starEach [e2] X.env)).any (·.1) = false := by rfl)
    (hs2 : starEach [.Call (.Name "zip" p2) [e, e2] [] pos2] X.env = (false, eval (.Call (.Name "zip" p2) [e, e2] [] pos2) X.env) :: starEach [] X.env := by rfl) :
    QI X R (.Tuple elts kk tpos) (.Call (.Name "enumerate" p) [.Call (.Name "zip" p2) [e, e2] [] pos2] [] pos) (dIR enuZD f) :=
  imp_i (pi_enumZ hg hm hg2 hm2 ha hs hpl hs2) fun σ H G ⟨hs, Z, H0, F0, ρ, st, F, ds, st', w, e, q⟩ => by
    obtain ⟨as, s1, e1, e2⟩ := mb_some e
    obtain ⟨e3, rfl⟩ := ml_some e2
    refine ⟨hs, Z, H0, F0, ρ, st, F, as, _, w, e1, fun vs F1 H1 w1 m1 r1 => ?_⟩
    match as, e3 with
    | [.lst es, .lst fs], e3 =>
      cases e3
      obtain ⟨v, u, rfl, rv, ru⟩ := r1.two
      obtain ⟨a, xs, rfl, ea, rl⟩ := (rv.pl rfl).lstD
      obtain ⟨b, ys, rfl, eb, rk⟩ := (ru.pl rfl).lstD
      refine ⟨a, b, xs, ys, rfl, SqL.of (w1.FH _ _ ea), SqL.of (w1.FH _ _ eb), q _ F1 H1 w1 m1 fun Z' H0' F0' i ρ2 st2 σ2 F2 H2 w2 m2 => ?_⟩
      have eH : H2 a = some (.lst xs) := w2.FH _ _ (m2 _ _ ea)
      have eK : H2 b = some (.lst ys) := w2.FH _ _ (m2 _ _ eb)
      refine ⟨fun hi => ⟨xs, ys, SqL.of eH, SqL.of eK, ?_⟩, fun d hd => ?_⟩
      · rw [rl.length, rk.length]
        rw [List.length_map, List.length_zipIdx, List.length_zip] at hi
        omega
      rw [List.getElem?_map] at hd
      obtain ⟨⟨⟨d1, d2⟩, j⟩, hz, rfl⟩ := map_some' hd
      rw [List.getElem?_zipIdx] at hz
      obtain ⟨dd, hz2, e4⟩ := map_some' hz
      cases e4
      rw [List.getElem?_zip_eq_some] at hz2
      obtain ⟨v, hv, rv2⟩ := rl.get hz2.1
      obtain ⟨u, hu, ru2⟩ := rk.get hz2.2
      refine ⟨⟨xs, ys, v, u, SqL.of eH, SqL.of eK, hv, hu⟩, fun x H3 hy => ?_⟩
      obtain ⟨U, T, y, z, rfl, nU, nT, nUT, rfl, hx, hy⟩ := hy
      have := hx xs (SqL.of eH)
      rw [hv] at this; cases this
      have := hy ys (SqL.of eK)
      rw [hu] at this; cases this
      have m3 := same_alloc w2 nU (.tup [v, u])
      have w3 := w2.alloc nU (.tup [v, u])
      have nT' : (upd H2 U (.tup [v, u])) T = none := by rw [upd_ne (Ne.symm nUT)]; exact nT
      have m4 := same_alloc w3 nT' (.tup [.int (i : Nat), .ref U])
      refine ⟨_, w3.alloc nT' _, m3.trans m4, .tup upd_same (.cons ?_ (.cons ?_ .nil)), fun b o e => ?_⟩
      · first | exact .int _ | (rw [Nat.zero_add]; exact .int _)
      · refine (Rp.tup (upd_same) (.cons (rv2.mono (m2.trans m3)) (.cons (ru2.mono (m2.trans m3)) .nil))).mono m4
      · rw [upd_ne (ne_of_none e nT), upd_ne (ne_of_none e nU)]; exact e
end
end QL
end
section
set_option Elab.async false
set_option linter.all false
set_option maxRecDepth 100000
set_option maxHeartbeats 8000000
namespace K_k44
open PySem PySem.Spec L2 QL

def topS (i : Nat) : Stmt := PySem.Challenge.pw_hornwright_k44_whole_services.main.body.getD i (.Pass ⟨0, 0, 0, 0⟩)
abbrev s_blasts_up_to : Stmt := topS 1
theorem sc_blasts_up_to : FnScope ["turn", "blasts", "day_length", "day", "ticks"] ["turn", "blasts", "day_length", "day"] (defScope s_blasts_up_to) := ⟨rfl, rfl, rfl, by decide +kernel, rfl, by decide +kernel, by decide +kernel⟩
abbrev s_trips : Stmt := topS 4
theorem sc_trips : FnScope ["dues", "early", "days", "rows", "due"] ["dues", "early"] (defScope s_trips) := ⟨rfl, rfl, rfl, by decide +kernel, rfl, by decide +kernel, by decide +kernel⟩
abbrev s_trips_fault : Stmt := topS 5
theorem sc_trips_fault : FnScope ["dues", "early", "told", "days", "rows", "at", "due", "day", "apart"] ["dues", "early", "told"] (defScope s_trips_fault) := ⟨rfl, rfl, rfl, by decide +kernel, rfl, by decide +kernel, by decide +kernel⟩
abbrev s_far_apart : Stmt := topS 6
theorem sc_far_apart : FnScope ["dues", "early", "found", "due"] ["dues", "early"] (defScope s_far_apart) := ⟨rfl, rfl, rfl, by decide +kernel, rfl, by decide +kernel, by decide +kernel⟩
abbrev s__law_draw : Stmt := topS 10
theorem sc__law_draw : FnScope ["state", "script", "size", "cell", "mixed", "digit"] ["state", "script", "size"] (defScope s__law_draw) := ⟨rfl, rfl, rfl, by decide +kernel, rfl, by decide +kernel, by decide +kernel⟩
abbrev s__law_blasts : Stmt := topS 12
theorem sc__law_blasts : FnScope ["turn", "blasts", "day_length", "day", "tick"] ["turn", "blasts", "day_length", "day"] (defScope s__law_blasts) := ⟨rfl, rfl, rfl, by decide +kernel, rfl, by decide +kernel, by decide +kernel⟩
abbrev s__law_sets : Stmt := topS 14
theorem sc__law_sets : FnScope ["rows", "found", "one", "lot"] ["rows"] (defScope s__law_sets) := ⟨rfl, rfl, rfl, by decide +kernel, rfl, by decide +kernel, by decide +kernel⟩
abbrev s__law_enough : Stmt := topS 15
theorem sc__law_enough : FnScope ["dues", "early", "days", "due", "day"] ["dues", "early", "days"] (defScope s__law_enough) := ⟨rfl, rfl, rfl, by decide +kernel, rfl, by decide +kernel, by decide +kernel⟩
abbrev s_first_day_with : Stmt := topS 2
theorem sc_first_day_with : FnScope ["turn", "blasts", "day_length", "count", "low", "high", "middle"] ["turn", "blasts", "day_length", "count"] (defScope s_first_day_with) := ⟨rfl, rfl, rfl, by decide +kernel, rfl, by decide +kernel, by decide +kernel⟩
abbrev s_least_early : Stmt := topS 7
theorem sc_least_early : FnScope ["dues", "most", "rows", "gaps", "at", "due", "early", "one"] ["dues", "most"] (defScope s_least_early) := ⟨rfl, rfl, rfl, by decide +kernel, rfl, by decide +kernel, by decide +kernel⟩
abbrev s_wear_left : Stmt := topS 8
theorem sc_wear_left : FnScope ["horn", "day_length", "last", "day", "turn", "blasts", "by_blasts", "by_days", "given_since"] ["horn", "day_length", "last", "day"] (defScope s_wear_left) := ⟨rfl, rfl, rfl, by decide +kernel, rfl, by decide +kernel, by decide +kernel⟩
abbrev s__law_dues : Stmt := topS 13
theorem sc__law_dues : FnScope ["horn", "day_length", "number", "turn", "blasts", "by_blasts", "by_days", "found", "last", "day", "worn"] ["horn", "day_length", "number"] (defScope s__law_dues) := ⟨rfl, rfl, rfl, by decide +kernel, rfl, by decide +kernel, by decide +kernel⟩
abbrev s__law_least : Stmt := topS 16
theorem sc__law_least : FnScope ["dues", "early", "lot"] ["dues", "early"] (defScope s__law_least) := ⟨rfl, rfl, rfl, by decide +kernel, rfl, by decide +kernel, by decide +kernel⟩
abbrev s_due_days : Stmt := topS 3
theorem sc_due_days : FnScope ["horn", "day_length", "number", "turn", "blasts", "by_blasts", "by_days", "found", "last", "time", "done", "day"] ["horn", "day_length", "number"] (defScope s_due_days) := ⟨rfl, rfl, rfl, by decide +kernel, rfl, by decide +kernel, by decide +kernel⟩
abbrev s__law_fault : Stmt := topS 17
theorem sc__law_fault : FnScope ["dues", "early", "told", "days", "rows", "k", "due"] ["dues", "early", "told"] (defScope s__law_fault) := ⟨rfl, rfl, rfl, by decide +kernel, rfl, by decide +kernel, by decide +kernel⟩
abbrev s_law : Stmt := topS 18
theorem sc_law : FnScope ["script", "state", "turn", "blasts", "day_length", "horn", "day", "count", "first", "last", "worn", "dues", "early", "kept", "told", "least", "every", "rows", "due", "bents", "bent", "apart", "k", "most", "best", "one", "_"] ["script"] (defScope s_law) := ⟨rfl, rfl, rfl, by decide +kernel, rfl, by decide +kernel, by decide +kernel⟩
/-! the facts of the top -/
structure Tx (K : PySem.W.Frag) (mg : Str → Option Value) (a : Nat → Addr) (d : Nat → FuncData) : Prop where
  F_blasts_up_to : Fun K "blasts_up_to" "blasts_up_to" s_blasts_up_to (a 1) (d 1)
  B_blasts_up_to : Binds K (d 1) ["turn", "blasts", "day_length", "day"] []
  g_blasts_up_to : mg "blasts_up_to" = some (.ref (a 1))
  F_trips : Fun K "trips" "trips" s_trips (a 4) (d 4)
  B_trips : Binds K (d 4) ["dues", "early"] []
  g_trips : mg "trips" = some (.ref (a 4))
  F_trips_fault : Fun K "trips_fault" "trips_fault" s_trips_fault (a 5) (d 5)
  B_trips_fault : Binds K (d 5) ["dues", "early", "told"] []
  g_trips_fault : mg "trips_fault" = some (.ref (a 5))
  F_far_apart : Fun K "far_apart" "far_apart" s_far_apart (a 6) (d 6)
  B_far_apart : Binds K (d 6) ["dues", "early"] []
  g_far_apart : mg "far_apart" = some (.ref (a 6))
  F__law_draw : Fun K "_law_draw" "_law_draw" s__law_draw (a 10) (d 10)
  B__law_draw : Binds K (d 10) ["state", "script", "size"] []
  g__law_draw : mg "_law_draw" = some (.ref (a 10))
  F__law_blasts : Fun K "_law_blasts" "_law_blasts" s__law_blasts (a 12) (d 12)
  B__law_blasts : Binds K (d 12) ["turn", "blasts", "day_length", "day"] []
  g__law_blasts : mg "_law_blasts" = some (.ref (a 12))
  F__law_sets : Fun K "_law_sets" "_law_sets" s__law_sets (a 14) (d 14)
  B__law_sets : Binds K (d 14) ["rows"] []
  g__law_sets : mg "_law_sets" = some (.ref (a 14))
  F__law_enough : Fun K "_law_enough" "_law_enough" s__law_enough (a 15) (d 15)
  B__law_enough : Binds K (d 15) ["dues", "early", "days"] []
  g__law_enough : mg "_law_enough" = some (.ref (a 15))
  F_first_day_with : Fun K "first_day_with" "first_day_with" s_first_day_with (a 2) (d 2)
  B_first_day_with : Binds K (d 2) ["turn", "blasts", "day_length", "count"] []
  g_first_day_with : mg "first_day_with" = some (.ref (a 2))
  F_least_early : Fun K "least_early" "least_early" s_least_early (a 7) (d 7)
  B_least_early : Binds K (d 7) ["dues", "most"] []
  g_least_early : mg "least_early" = some (.ref (a 7))
  F_wear_left : Fun K "wear_left" "wear_left" s_wear_left (a 8) (d 8)
  B_wear_left : Binds K (d 8) ["horn", "day_length", "last", "day"] []
  g_wear_left : mg "wear_left" = some (.ref (a 8))
  F__law_dues : Fun K "_law_dues" "_law_dues" s__law_dues (a 13) (d 13)
  B__law_dues : Binds K (d 13) ["horn", "day_length", "number"] []
  g__law_dues : mg "_law_dues" = some (.ref (a 13))
  F__law_least : Fun K "_law_least" "_law_least" s__law_least (a 16) (d 16)
  B__law_least : Binds K (d 16) ["dues", "early"] []
  g__law_least : mg "_law_least" = some (.ref (a 16))
  F_due_days : Fun K "due_days" "due_days" s_due_days (a 3) (d 3)
  B_due_days : Binds K (d 3) ["horn", "day_length", "number"] []
  g_due_days : mg "due_days" = some (.ref (a 3))
  F__law_fault : Fun K "_law_fault" "_law_fault" s__law_fault (a 17) (d 17)
  B__law_fault : Binds K (d 17) ["dues", "early", "told"] []
  g__law_fault : mg "_law_fault" = some (.ref (a 17))
  F_law : Fun K "law" "law" s_law (a 18) (d 18)
  B_law : Binds K (d 18) ["script"] []
  g_law : mg "law" = some (.ref (a 18))
  b_abs : mg "abs" = none
  b_enumerate : mg "enumerate" = none
  b_int : mg "int" = none
  b_len : mg "len" = none
  b_max : mg "max" = none
  b_min : mg "min" = none
  b_range : mg "range" = none
  b_repr : mg "repr" = none
  b_set : mg "set" = none
  b_sorted : mg "sorted" = none
  b_zip : mg "zip" = none
section
variable {P : Program} {w : World} {K : PySem.W.Frag} {mg : Str → Option Value} {base : Heap} {a : Nat → Addr} {d : Nat → FuncData}
/-! blasts_up_to -/
def d_blasts_up_to : Ev → M Unit Out :=
  (dSeq (dAsg (dOp mulD (dVar 3) (dVar 2)) (gN 4)) (dRet (dOp addD (dOp mulD (dOp fdivD (dVar 4) (dVar 0)) (dVar 1)) (dB min2D (dCons (dVar 1) (dCons (dOp modD (dVar 4) (dVar 0)) dNil))))))
def v_blasts_up_to : List D → M Unit D := runF 4 5 d_blasts_up_to
theorem ok_blasts_up_to (T : Tx K mg a d) : FnOk P w K mg base CX0 1 (a 1) (d 1) ["turn", "blasts", "day_length", "day"] (spF R0 4 v_blasts_up_to) := by
  refine fn_q R0 T.F_blasts_up_to sc_blasts_up_to (fun cdv A outer s H E hr => ?_)
  exact (qss_cons (qs_set (i := 4) sc_blasts_up_to.nd rfl (by first | exact .inl rfl | exact .inr rfl) (qe_op op_mul q_mul (qe_var (pv 3)) (qe_var (pv 2)))) (qss_one (qs_ret (qe_op o_add q_add (qe_op op_mul q_mul (qe_op op_fdiv q_fdiv (qe_var (pv 4)) (qe_var (pv 0))) (qe_var (pv 1))) (qe_B (call_min2 rfl) q_min2 (by rfl) T.b_min (by decide +kernel) (qa_cons (qe_var (pv 1)) (qa_cons (qe_op op_mod q_mod (qe_var (pv 4)) (qe_var (pv 0))) qa_nil)))))))
/-! trips -/
def d_trips_b1 : Ev → M Unit Out :=
  (dSeq (dIfS (dOr (dTst (dOp (eqO false) (dB lenD (dCons (dVar 2) dNil)) (dC (.int 0)))) (dTst (dOp ltV (dOp idxD (dVar 2) (dU negD (dC (.int 1)))) (dOp subD (dVar 4) (dVar 1))))) (dApp 2 (dVar 4)) dNx) (dApp 3 (dOp idxD (dVar 2) (dU negD (dC (.int 1))))))
def d_trips : Ev → M Unit Out :=
  (dSeq (dSetO 2 (dPl dNil)) (dSeq (dSetO 3 (dPl dNil)) (dSeq (dFor (dIS (dFz (dBN sortG (dCons (dVar 0) dNil)))) (gN 4) d_trips_b1) (dFrz 3 (dFrz 2 (dRet (dTup (dCons (dVar 2) (dCons (dVar 3) dNil)))))))))
def v_trips : List D → M Unit D := runF 2 5 d_trips
theorem ok_trips (T : Tx K mg a d) : FnOk P w K mg base CX0 1 (a 4) (d 4) ["dues", "early"] (spF R0 2 v_trips) := by
  refine fn_q R0 T.F_trips sc_trips (fun cdv A outer s H E hr => ?_)
  exact (qss_cons (qs_setO (i := 2) sc_trips.nd rfl (by first | exact .inl rfl | exact .inr rfl) (qn_lst qa_nil)) (qss_cons (qs_setO (i := 3) sc_trips.nd rfl (by first | exact .inl rfl | exact .inr rfl) (qn_lst qa_nil)) (qss_cons (qs_for (vs := [4]) PassesOwn.never rfl (qi_seq (qe_fz (qn_B (c_sortG (hu70 hr)) q_sortG (by rfl) T.b_sorted (by decide +kernel) (qa_cons (qe_var (pv 0)) qa_nil)))) (qg_name (pg_name (i := 4) sc_trips.nd rfl (by first | exact .inl rfl | exact .inr rfl))) (qss_cons (qs_if (qt_w (qw_or (qt_cmp (o_eq hr.units) q_eq (qe_B c_len q_len (by rfl) T.b_len (by decide +kernel) (qa_cons (qe_var (pv 2)) qa_nil)) qe_int (nomark _)) (qw_or1 (qt_cmp (op_ltV (hu70 hr)) q_ltV (qe_ix ix_seq q_idx (qe_var (pv 2)) (qe_un un_neg q_neg qe_int) (fun _ _ => rfl)) (qe_op op_sub q_sub (qe_var (pv 4)) (qe_var (pv 1))) (nomark _))))) (qss_one (qs_app (i := 2) (pv 2) (qe_var (pv 4)) (fun h => pe_bm PySem.F.plainAttrs_list PySem.F.slot_list_append PySem.F.type_list_append mt_append (pv 2) h))) qss_nil) (qss_one (qs_app (i := 3) (pv 3) (qe_ix ix_seq q_idx (qe_var (pv 2)) (qe_un un_neg q_neg qe_int) (fun _ _ => rfl)) (fun h => pe_bm PySem.F.plainAttrs_list PySem.F.slot_list_append PySem.F.type_list_append mt_append (pv 3) h))))) (qss_one (qs_frz 3 (qs_frz 2 (qs_ret (qe_tup (qa_cons (qe_var (pv 2)) (qa_cons (qe_var (pv 3)) qa_nil))))))))))
/-! trips_fault -/
def d_trips_fault_b1 : Ev → M Unit Out :=
  (dIfS (dOr (dTst (dOp (inO true) (dVar 7) (dVar 3))) (dNot (dTst (dChn leV leV (dOp subD (dVar 6) (dVar 1)) (dVar 7) (dVar 6))))) (dRet (dTup (dCons (dC (.str "service")) (dCons (dVar 5) dNil)))) dNx)
def d_trips_fault_b2 : Ev → M Unit Out :=
  (dIfS (dOr (dTst (dOp (eqO false) (dB lenD (dCons (dVar 8) dNil)) (dC (.int 0)))) (dTst (dOp ltV (dOp idxD (dVar 8) (dU negD (dC (.int 1)))) (dOp subD (dVar 6) (dVar 1))))) (dApp 8 (dVar 6)) dNx)
def d_trips_fault : Ev → M Unit Out :=
  (dSeq (dAsg (dVar 2) (gTp 2 (gCons' (gN 3) (gCons' (gN 4) gNil')))) (dSeq (dIfS (dOr (dTst (dOp (eqO true) (dVar 3) (dFz (dBN sortSetD (dCons (dVar 3) dNil))))) (dTst (dOp (eqO true) (dB lenD (dCons (dVar 4) dNil)) (dB lenD (dCons (dVar 0) dNil))))) (dRet (dTup (dCons (dC (.str "days")) dNil))) dNx) (dSeq (dFor (dIR enuZD (dCons (dFz (dBN sortG (dCons (dVar 0) dNil))) (dCons (dVar 4) dNil))) (gTp 2 (gCons' (gN 5) (gCons' (gTp 2 (gCons' (gN 6) (gCons' (gN 7) gNil'))) gNil'))) d_trips_fault_b1) (dSeq (dSetO 8 (dPl dNil)) (dSeq (dFor (dIS (dFz (dBN sortG (dCons (dVar 0) dNil)))) (gN 6) d_trips_fault_b2) (dRet (dIf (dTst (dOp (eqO false) (dB lenD (dCons (dVar 3) dNil)) (dB lenD (dCons (dVar 8) dNil)))) (dC .non) (dTup (dCons (dC (.str "fewer")) dNil)))))))))
def v_trips_fault : List D → M Unit D := runF 3 9 d_trips_fault
theorem ok_trips_fault (T : Tx K mg a d) : FnOk P w K mg base CX0 1 (a 5) (d 5) ["dues", "early", "told"] (spF R0 3 v_trips_fault) := by
  refine fn_q R0 T.F_trips_fault sc_trips_fault (fun cdv A outer s H E hr => ?_)
  exact (qss_cons (qs_asg (vs := [3, 4]) (qe_var (pv 2)) (qg_tup rfl (qgs_cons (qg_name (pg_name (i := 3) sc_trips_fault.nd rfl (by first | exact .inl rfl | exact .inr rfl))) (qgs_cons (qg_name (pg_name (i := 4) sc_trips_fault.nd rfl (by first | exact .inl rfl | exact .inr rfl))) qgs_nil)))) (qss_cons (qs_if (qt_w (qw_or (qt_cmp (o_ne hr.units) q_ne (qe_var (pv 3)) (qe_fz (qn_sortSet rfl (by rfl) T.b_sorted (by rfl) T.b_set (qa_cons (qe_var (pv 3)) qa_nil))) (nomark _)) (qw_or1 (qt_cmp (o_ne hr.units) q_ne (qe_B c_len q_len (by rfl) T.b_len (by decide +kernel) (qa_cons (qe_var (pv 4)) qa_nil)) (qe_B c_len q_len (by rfl) T.b_len (by decide +kernel) (qa_cons (qe_var (pv 0)) qa_nil)) (nomark _))))) (qss_one (qs_ret (qe_tup (qa_cons qe_str qa_nil)))) qss_nil) (qss_cons (qs_for (vs := [5, 6, 7]) PassesOwn.never rfl (qi_enumZ (by rfl) T.b_enumerate (by rfl) T.b_zip (qa_cons (qe_fz (qn_B (c_sortG (hu70 hr)) q_sortG (by rfl) T.b_sorted (by decide +kernel) (qa_cons (qe_var (pv 0)) qa_nil))) (qa_cons (qe_var (pv 4)) qa_nil))) (qg_tup rfl (qgs_cons (qg_name (pg_name (i := 5) sc_trips_fault.nd rfl (by first | exact .inl rfl | exact .inr rfl))) (qgs_cons (qg_tup rfl (qgs_cons (qg_name (pg_name (i := 6) sc_trips_fault.nd rfl (by first | exact .inl rfl | exact .inr rfl))) (qgs_cons (qg_name (pg_name (i := 7) sc_trips_fault.nd rfl (by first | exact .inl rfl | exact .inr rfl))) qgs_nil))) qgs_nil))) (qss_one (qs_if (qt_w (qw_or (qt_cmp (op_notInD (hu65 hr)) q_notIn (qe_var (pv 7)) (qe_var (pv 3)) (by rfl)) (qw_or1 (qt_not (qt_chn (op_leV (hu70 hr)) (op_leV (hu70 hr)) q_leV q_leV (qe_op op_sub q_sub (qe_var (pv 6)) (qe_var (pv 1))) (qe_var (pv 7)) (qe_var (pv 6))))))) (qss_one (qs_ret (qe_tup (qa_cons qe_str (qa_cons (qe_var (pv 5)) qa_nil))))) qss_nil))) (qss_cons (qs_setO (i := 8) sc_trips_fault.nd rfl (by first | exact .inl rfl | exact .inr rfl) (qn_lst qa_nil)) (qss_cons (qs_for (vs := [6]) PassesOwn.never rfl (qi_seq (qe_fz (qn_B (c_sortG (hu70 hr)) q_sortG (by rfl) T.b_sorted (by decide +kernel) (qa_cons (qe_var (pv 0)) qa_nil)))) (qg_name (pg_name (i := 6) sc_trips_fault.nd rfl (by first | exact .inl rfl | exact .inr rfl))) (qss_one (qs_if (qt_w (qw_or (qt_cmp (o_eq hr.units) q_eq (qe_B c_len q_len (by rfl) T.b_len (by decide +kernel) (qa_cons (qe_var (pv 8)) qa_nil)) qe_int (nomark _)) (qw_or1 (qt_cmp (op_ltV (hu70 hr)) q_ltV (qe_ix ix_seq q_idx (qe_var (pv 8)) (qe_un un_neg q_neg qe_int) (fun _ _ => rfl)) (qe_op op_sub q_sub (qe_var (pv 6)) (qe_var (pv 1))) (nomark _))))) (qss_one (qs_app (i := 8) (pv 8) (qe_var (pv 6)) (fun h => pe_bm PySem.F.plainAttrs_list PySem.F.slot_list_append PySem.F.type_list_append mt_append (pv 8) h))) qss_nil))) (qss_one (qs_ret (qe_if (qt_cmp (o_eq hr.units) q_eq (qe_B c_len q_len (by rfl) T.b_len (by decide +kernel) (qa_cons (qe_var (pv 3)) qa_nil)) (qe_B c_len q_len (by rfl) T.b_len (by decide +kernel) (qa_cons (qe_var (pv 8)) qa_nil)) (nomark _)) qe_non (qe_tup (qa_cons qe_str qa_nil))))))))))
/-! far_apart -/
def d_far_apart_b1 : Ev → M Unit Out :=
  (dIfS (dOr (dTst (dOp (eqO false) (dB lenD (dCons (dVar 2) dNil)) (dC (.int 0)))) (dTst (dOp ltV (dOp idxD (dVar 2) (dU negD (dC (.int 1)))) (dOp subD (dVar 3) (dVar 1))))) (dApp 2 (dVar 3)) dNx)
def d_far_apart : Ev → M Unit Out :=
  (dSeq (dSetO 2 (dPl dNil)) (dSeq (dFor (dIS (dFz (dBN sortG (dCons (dVar 0) dNil)))) (gN 3) d_far_apart_b1) (dFrz 2 (dRet (dVar 2)))))
def v_far_apart : List D → M Unit D := runF 2 4 d_far_apart
theorem ok_far_apart (T : Tx K mg a d) : FnOk P w K mg base CX0 1 (a 6) (d 6) ["dues", "early"] (spF R0 2 v_far_apart) := by
  refine fn_q R0 T.F_far_apart sc_far_apart (fun cdv A outer s H E hr => ?_)
  exact (qss_cons (qs_setO (i := 2) sc_far_apart.nd rfl (by first | exact .inl rfl | exact .inr rfl) (qn_lst qa_nil)) (qss_cons (qs_for (vs := [3]) PassesOwn.never rfl (qi_seq (qe_fz (qn_B (c_sortG (hu70 hr)) q_sortG (by rfl) T.b_sorted (by decide +kernel) (qa_cons (qe_var (pv 0)) qa_nil)))) (qg_name (pg_name (i := 3) sc_far_apart.nd rfl (by first | exact .inl rfl | exact .inr rfl))) (qss_one (qs_if (qt_w (qw_or (qt_cmp (o_eq hr.units) q_eq (qe_B c_len q_len (by rfl) T.b_len (by decide +kernel) (qa_cons (qe_var (pv 2)) qa_nil)) qe_int (nomark _)) (qw_or1 (qt_cmp (op_ltV (hu70 hr)) q_ltV (qe_ix ix_seq q_idx (qe_var (pv 2)) (qe_un un_neg q_neg qe_int) (fun _ _ => rfl)) (qe_op op_sub q_sub (qe_var (pv 3)) (qe_var (pv 1))) (nomark _))))) (qss_one (qs_app (i := 2) (pv 2) (qe_var (pv 3)) (fun h => pe_bm PySem.F.plainAttrs_list PySem.F.slot_list_append PySem.F.type_list_append mt_append (pv 2) h))) qss_nil))) (qss_one (qs_frz 2 (qs_ret (qe_var (pv 2)))))))
/-! _law_draw -/
theorem drawM_some {ds : List QL.D} {st st' : S3} {d : QL.D} (h : drawM ds st = some (d, st')) : ∃ m r, ds = [.hd 0, .hd 1, .int m] ∧ d = .int r ∧ drawI m st = some (r, st') := by
  unfold drawM at h
  split at h
  · rename_i m
    dsimp only at h
    split at h
    · rename_i r s2 e
      cases h
      exact ⟨m, r, rfl, rfl, e⟩
    · cases h
  · cases h
def v__law_draw : List QL.D → M S3 QL.D := drawM
theorem ok__law_draw (T : Tx K mg a d) : FnOk P w K mg base CX0 1 (a (10)) (d (10)) ["state", "script", "size"] (spF (DR K) 3 v__law_draw) := by
  refine T.F__law_draw.ok sc__law_draw (fun vs H Q E h => ?_) (fun cdv A outer s H vs Q E hr h => ?_)
  · obtain ⟨hs, F, ds, st, d, st', h, _⟩ := h
    exact h
  · obtain ⟨hs, F, ds, ⟨pos, seed, ns⟩, d, st', hn, rl, sFH, fpF, ⟨pa, sa, e0, e1, hA, hK⟩, ev0, q⟩ := h
    obtain ⟨m, r, rfl, rfl, ev⟩ := drawM_some ev0
    obtain ⟨v1, v2, v3, rfl, r1, r2, r3⟩ : ∃ v1 v2 v3, vs = [v1, v2, v3] ∧ Rp hs F v1 (.hd 0) ∧ Rp hs F v2 (.hd 1) ∧ Rp hs F v3 (.int m) := by
      cases rl with
      | cons r1 rl => cases rl with
        | cons r2 rl => cases rl with
          | cons r3 rl => cases rl; exact ⟨_, _, _, rfl, r1, r2, r3⟩
    cases r3
    cases r1 with
    | hd z =>
    rw [e0] at z; cases z
    cases r2 with
    | hd z =>
    rw [e1] at z; cases z
    have ev : drawI m (pos, seed, ns) = some (r, st') := ev
    unfold drawI at ev
    by_cases c : 0 < m ∧ m < 1073741824
    · rw [if_pos c] at ev
      obtain ⟨m1, m2⟩ := c
      dsimp only at ev
      refine ⟨_, pss_cons (ps_if (pt_cmpR op_eq (pe_ix ix_list (pv 0) pe_int (fun _ _ => rfl)) pe_int (nomark _))
          (pss_cons (ps_set (i := 3) sc__law_draw.nd rfl (by first | exact .inl rfl | exact .inr rfl) pe_int)
          (pss_cons (ps_if (pt_cmpR op_gt (pe_callB call_len_seq (by rfl) T.b_len PySem.boot_len (pa_cons (pv 1) pa_nil)) pe_int (nomark _))
              (pss_one (ps_set (i := 3) sc__law_draw.nd rfl (by first | exact .inl rfl | exact .inr rfl) (pe_ix ix_list (pv 1) (pe_op op_mod (pe_ix ix_list (pv 0) pe_int (fun _ _ => rfl)) (pe_callB call_len_seq (by rfl) T.b_len PySem.boot_len (pa_cons (pv 1) pa_nil))) (fun _ _ => rfl)))) pss_nil)
          (pss_cons (ps_if (pt_cmpR op_lt (pv 3) pe_int (nomark _))
              (pss_one (ps_set (i := 3) sc__law_draw.nd rfl (by first | exact .inl rfl | exact .inr rfl) (pe_op op_sub pe_int (pe_op op_mul pe_int (pv 3))))) pss_nil)
          (pss_cons (ps_set (i := 4) sc__law_draw.nd rfl (by first | exact .inl rfl | exact .inr rfl) (pe_op op_mod (pe_callTy call_int1 (by rfl) T.b_int (by decide +kernel) (pa_cons (pe_op op_mul (pe_op op_add (pe_op op_add (pv 3) (pe_op op_mul (pe_ix ix_list (pv 0) pe_int (fun _ _ => rfl)) pe_int)) pe_int) pe_int) pa_nil)) pe_int))
          (pss_cons (ps_asg (pe_op op_mod (pe_callTy call_int1 (by rfl) T.b_int (by decide +kernel) (pa_cons (pe_op op_add (pe_op op_mul (pv 4) pe_int) (pe_op op_mul (pe_ix ix_list (pv 0) pe_int (fun _ _ => rfl)) pe_int)) pa_nil)) pe_int) (pg_sub (pv 0) pe_int set_list))
          (pss_cons (ps_if (pw_and (pt_cmpR op_ge (pv 3) (pe_op op_pow pe_int pe_int) (nomark _)) (pw_and1 (pt_cmpR op_lt (pe_ix ix_list (pv 0) pe_int (fun _ _ => rfl)) (pe_callB call_len_seq (by rfl) T.b_len PySem.boot_len (pa_cons (pv 1) pa_nil)) (nomark _)))).pt
              (pss_one (ps_asg (pv 3) (pg_sub (pv 0) pe_int set_list))) pss_nil)
          (pss_one (ps_asg (pe_op op_add (pe_ix ix_list (pv 0) pe_int (fun _ _ => rfl)) pe_int) (pg_sub (pv 0) pe_int set_list)))))))))
          pss_nil)
        (pss_cons (ps_set (i := 5) sc__law_draw.nd rfl (by first | exact .inl rfl | exact .inr rfl) (pe_op op_mod (pe_callTy call_int1 (by rfl) T.b_int (by decide +kernel) (pa_cons (pe_ix ix_list (pv 0) pe_int (fun _ _ => rfl)) pa_nil)) (pv 2)))
        (pss_cons (ps_asg (pe_op op_fdiv (pe_ix ix_list (pv 0) pe_int (fun _ _ => rfl)) (pv 2)) (pg_sub (pv 0) pe_int set_list))
        (pss_one (ps_ret (pv 5))))), ?_⟩
      obtain ⟨pos', seed', ns'⟩ := st'
      have fin : ∀ Hf : Hp, (∀ b, b ≠ pa → Hf b = H b) → Hf pa = some (.lst [.int pos', .int seed']) → ns' = ns → Q (.int r) Hf := fun Hf h1 h2 h3 => by
        subst h3
        have nf : ∀ b o, H b = some o → ¬ (DR K).fp hs b → Hf b = some o := fun b o eb nb => by rw [h1 b (fun z => nb (.inl (by rw [z]; exact e0)))]; exact eb
        refine q _ F Hf nf (Same.refl _) (fun b o eb => ?_) (fun b o eb => .inl eb) fpF ⟨pa, sa, e0, e1, h2, ?_⟩ (.int _)
        · have : b ≠ pa := fun z => by rw [z, fpF pa (.inl e0)] at eb; cases eb
          rw [h1 b this]; exact sFH b o eb
        · rcases hK with h | ⟨z, ne, h⟩
          · exact .inl h
          · refine .inr ⟨z, ne, ?_⟩
            have := h1 sa (Ne.symm ne)
            rcases h with h | ⟨o, h⟩
            · exact .inl (this.trans h)
            · exact .inr ⟨o, this.trans h⟩
      have hS : ∀ H1 : Hp, (∀ b, b ≠ pa → H1 b = H b) → SqL K H1 sa (ns.map V.int) := fun H1 h1 => by
        rcases hK with ⟨_, h⟩ | ⟨z, ne, h⟩
        · exact h H1
        · have := h1 sa (Ne.symm ne)
          rcases h with h | ⟨o, h⟩
          · exact .inl (.inl (this.trans h))
          · exact .inl (.inr ⟨o, this.trans h⟩)
      have n0 : ∀ b, b ≠ pa → H b = H b := fun _ _ => rfl
      have nu : ∀ {H1 : Hp} {u : HO}, (∀ b, b ≠ pa → H1 b = H b) → ∀ b, b ≠ pa → (upd H1 pa u) b = H b := fun h1 b hb => by rw [upd_ne hb]; exact h1 b hb
      have gl : ((ns.map V.int).length : Int) = (ns.length : Int) := by rw [List.length_map]
      refine ⟨_, rfl, pa, _, 1, .int seed, rfl, rfl, SqL.of hA, rfl, rfl, _, rfl, ite2 (fun e => ?_) (fun e => ?_)⟩
      · have es : seed = 0 := V.int.inj (of_decide_eq_true e)
        rw [if_pos es] at ev
        refine ⟨_, rfl, sa, _, rfl, .inl (hS H n0), _, _, rfl, rfl, _, rfl, ?_⟩
        have ev2 : (drawNew (pos, seed, ns) % m = r ∧ pos + 1 = pos' ∧ drawNew (pos, seed, ns) / m = seed') ∧ ns = ns' := by
          cases ev; exact ⟨⟨rfl, rfl, rfl⟩, rfl⟩
        obtain ⟨⟨ev1, ev2, ev3⟩, ev4⟩ := ev2
        subst es
        -- behind the cell: c is what stands in slot 3, n the cell that is drawn
        have cell : ∃ c : Int, drawCell (pos, 0, ns) = (if c < 0 then 1 - 2 * c else c) ∧ (0 < (ns.length : Int) → (ns.map V.int)[(pos % (ns.length : Int)).toNat]? = some (.int c)) ∧ (¬ 0 < (ns.length : Int) → c = 0) := by
          by_cases hl : 0 < (ns.length : Int)
          · have h0 := Int.emod_nonneg pos (show (ns.length : Int) ≠ 0 by omega)
            have h1 := Int.emod_lt_of_pos pos hl
            refine ⟨ns.getD (pos % (ns.length : Int)).toNat 0, ?_, fun _ => ?_, fun z => absurd hl z⟩
            · unfold drawCell; simp only [if_pos hl]
            · rw [List.getElem?_map, List.getD_eq_getElem?_getD, List.getElem?_eq_getElem (show (pos % (ns.length : Int)).toNat < ns.length by omega)]; rfl
          · refine ⟨0, ?_, fun z => absurd z hl, fun _ => rfl⟩
            unfold drawCell
            simp only [if_neg hl]
        obtain ⟨c0, hc, hc1, hc2⟩ := cell
        refine ite2 (fun e2 => ?_) (fun e2 => ?_)
        · have hl : 0 < (ns.length : Int) := by have := of_decide_eq_true e2; rwa [gl] at this
          have h0 := Int.emod_nonneg pos (show (ns.length : Int) ≠ 0 by omega)
          have ga := atI_nat (hc1 hl)
          rw [Int.toNat_of_nonneg h0] at ga
          refine ⟨_, rfl, _, rfl, pa, _, 0, .int pos, rfl, rfl, SqL.of hA, rfl, _, rfl, sa, _, rfl, .inl (hS H n0), pos, ((ns.map V.int).length : Int), rfl, rfl, by rw [gl]; exact hl, ?_⟩
          dsimp only
          rw [gl]
          refine ⟨sa, _, _, .int c0, rfl, rfl, hS H n0, ga, ?_⟩
          refine ⟨_, rfl, _, _, rfl, rfl, _, rfl, ite2 (fun e3 => ?_) (fun e3 => ?_)⟩
          · rw [if_pos (of_decide_eq_true e3)] at hc
            refine ⟨_, rfl, 2, _, rfl, rfl, .inl ⟨by decide, by decide⟩, 1, _, rfl, rfl, ?_⟩
            refine ⟨_, rfl, _, rfl, pa, _, 0, .int pos, rfl, rfl, SqL.of hA, rfl, pos, 7919, rfl, rfl, .inr ⟨by decide, by decide⟩, _, _, rfl, rfl, _, 1, rfl, rfl, _, 48271, rfl, rfl, .inr ⟨by decide, by decide⟩, .inl ⟨_, rfl, _, 2147483647, rfl, rfl, (by show (0 : Int) < 2147483647; decide), ?_⟩⟩
            refine ⟨_, rfl, _, 69621, rfl, rfl, .inr ⟨by decide, by decide⟩, _, rfl, pa, _, 0, .int pos, rfl, rfl, SqL.of hA, rfl, pos, 104729, rfl, rfl, .inr ⟨by decide, by decide⟩, _, _, rfl, rfl, .inl ⟨_, rfl, _, 4294967291, rfl, rfl, (by show (0 : Int) < 4294967291; decide), _, rfl, pa, _, 1, 1, rfl, rfl, hA, rfl, ?_⟩⟩
            have hA1 : ∀ x : Int, (upd H pa (.lst ([V.int pos, V.int 0].set 1 (.int x)))) pa = some (.lst [.int pos, .int x]) := fun x => upd_same
            refine ⟨_, rfl, 10, 18, rfl, rfl, ⟨by decide, by decide, by decide⟩, _, _, rfl, rfl, _, rfl, ite2 (fun e4 => ?_) (fun e4 => ?_)⟩
            · refine ⟨_, rfl, pa, _, 0, .int pos, rfl, rfl, SqL.of (hA1 _), rfl, _, rfl, sa, _, rfl, .inl (hS _ (nu n0)), _, _, rfl, rfl, _, rfl, ite2 (fun e5 => ?_) (fun e5 => ?_)⟩
              · refine ⟨_, rfl, _, rfl, pa, _, 1, 1, rfl, rfl, hA1 _, rfl, ?_⟩
                have hB : ∀ x y : Int, (upd (upd H pa (.lst ([V.int pos, V.int 0].set 1 (.int x)))) pa (.lst ([V.int pos, V.int x].set 1 (.int y)))) pa = some (.lst [.int pos, .int y]) := fun x y => upd_same
                have hd : drawNew (pos, 0, ns) = (1 - 2 * c0) := by
                  unfold drawNew
                  rw [if_pos ⟨by rw [hc]; exact of_decide_eq_true e4, by have := of_decide_eq_true e5; rwa [gl] at this⟩, hc]
                refine ⟨_, rfl, pa, _, 0, .int pos, rfl, rfl, SqL.of (hB _ _), rfl, pos, 1, rfl, rfl, _, rfl, pa, _, 0, 0, rfl, rfl, (hB _ _), rfl, ?_⟩
                refine ⟨_, rfl, pa, _, 1, _, rfl, rfl, SqL.of upd_same, rfl, .inl ⟨_, rfl, _, rfl, _, m, rfl, rfl, m1, ?_⟩⟩
                refine ⟨_, rfl, pa, _, 1, _, rfl, rfl, SqL.of upd_same, rfl, _, rfl, _, m, rfl, rfl, ⟨m1, m2⟩, _, rfl, pa, _, 1, 1, rfl, rfl, upd_same, rfl, ?_⟩
                refine ⟨_, rfl, ?_⟩
                subst ev1 ev2 ev3
                rw [hd] at fin
                exact fin _ (nu (nu (nu (nu n0)))) (by rw [upd_same]; rfl) ev4.symm
              · have hd : drawNew (pos, 0, ns) = (((1 - 2 * c0) + pos * 7919 + 1) * 48271 % 2147483647 * 69621 + pos * 104729) % 4294967291 := by
                  unfold drawNew
                  rw [if_neg (fun z => e5 (decide_eq_true (by rw [gl]; exact z.2))), hc]
                refine ⟨_, rfl, pa, _, 0, .int pos, rfl, rfl, SqL.of (hA1 _), rfl, pos, 1, rfl, rfl, _, rfl, pa, _, 0, 0, rfl, rfl, (hA1 _), rfl, ?_⟩
                refine ⟨_, rfl, pa, _, 1, _, rfl, rfl, SqL.of upd_same, rfl, .inl ⟨_, rfl, _, rfl, _, m, rfl, rfl, m1, ?_⟩⟩
                refine ⟨_, rfl, pa, _, 1, _, rfl, rfl, SqL.of upd_same, rfl, _, rfl, _, m, rfl, rfl, ⟨m1, m2⟩, _, rfl, pa, _, 1, 1, rfl, rfl, upd_same, rfl, ?_⟩
                refine ⟨_, rfl, ?_⟩
                subst ev1 ev2 ev3
                rw [hd] at fin
                exact fin _ (nu (nu (nu n0))) (by rw [upd_same]; rfl) ev4.symm
            · refine iteF ?_
              have hd : drawNew (pos, 0, ns) = (((1 - 2 * c0) + pos * 7919 + 1) * 48271 % 2147483647 * 69621 + pos * 104729) % 4294967291 := by
                unfold drawNew
                rw [if_neg (fun z => e4 (decide_eq_true (by rw [hc] at z; exact z.1))), hc]
              refine ⟨_, rfl, pa, _, 0, .int pos, rfl, rfl, SqL.of (hA1 _), rfl, pos, 1, rfl, rfl, _, rfl, pa, _, 0, 0, rfl, rfl, (hA1 _), rfl, ?_⟩
              refine ⟨_, rfl, pa, _, 1, _, rfl, rfl, SqL.of upd_same, rfl, .inl ⟨_, rfl, _, rfl, _, m, rfl, rfl, m1, ?_⟩⟩
              refine ⟨_, rfl, pa, _, 1, _, rfl, rfl, SqL.of upd_same, rfl, _, rfl, _, m, rfl, rfl, ⟨m1, m2⟩, _, rfl, pa, _, 1, 1, rfl, rfl, upd_same, rfl, ?_⟩
              refine ⟨_, rfl, ?_⟩
              subst ev1 ev2 ev3
              rw [hd] at fin
              exact fin _ (nu (nu (nu n0))) (by rw [upd_same]; rfl) ev4.symm
          · rw [if_neg (fun z => e3 (decide_eq_true z))] at hc
            refine ⟨_, rfl, _, rfl, pa, _, 0, .int pos, rfl, rfl, SqL.of hA, rfl, pos, 7919, rfl, rfl, .inr ⟨by decide, by decide⟩, _, _, rfl, rfl, _, 1, rfl, rfl, _, 48271, rfl, rfl, .inr ⟨by decide, by decide⟩, .inl ⟨_, rfl, _, 2147483647, rfl, rfl, (by show (0 : Int) < 2147483647; decide), ?_⟩⟩
            refine ⟨_, rfl, _, 69621, rfl, rfl, .inr ⟨by decide, by decide⟩, _, rfl, pa, _, 0, .int pos, rfl, rfl, SqL.of hA, rfl, pos, 104729, rfl, rfl, .inr ⟨by decide, by decide⟩, _, _, rfl, rfl, .inl ⟨_, rfl, _, 4294967291, rfl, rfl, (by show (0 : Int) < 4294967291; decide), _, rfl, pa, _, 1, 1, rfl, rfl, hA, rfl, ?_⟩⟩
            have hA1 : ∀ x : Int, (upd H pa (.lst ([V.int pos, V.int 0].set 1 (.int x)))) pa = some (.lst [.int pos, .int x]) := fun x => upd_same
            refine ⟨_, rfl, 10, 18, rfl, rfl, ⟨by decide, by decide, by decide⟩, _, _, rfl, rfl, _, rfl, ite2 (fun e4 => ?_) (fun e4 => ?_)⟩
            · refine ⟨_, rfl, pa, _, 0, .int pos, rfl, rfl, SqL.of (hA1 _), rfl, _, rfl, sa, _, rfl, .inl (hS _ (nu n0)), _, _, rfl, rfl, _, rfl, ite2 (fun e5 => ?_) (fun e5 => ?_)⟩
              · refine ⟨_, rfl, _, rfl, pa, _, 1, 1, rfl, rfl, hA1 _, rfl, ?_⟩
                have hB : ∀ x y : Int, (upd (upd H pa (.lst ([V.int pos, V.int 0].set 1 (.int x)))) pa (.lst ([V.int pos, V.int x].set 1 (.int y)))) pa = some (.lst [.int pos, .int y]) := fun x y => upd_same
                have hd : drawNew (pos, 0, ns) = c0 := by
                  unfold drawNew
                  rw [if_pos ⟨by rw [hc]; exact of_decide_eq_true e4, by have := of_decide_eq_true e5; rwa [gl] at this⟩, hc]
                refine ⟨_, rfl, pa, _, 0, .int pos, rfl, rfl, SqL.of (hB _ _), rfl, pos, 1, rfl, rfl, _, rfl, pa, _, 0, 0, rfl, rfl, (hB _ _), rfl, ?_⟩
                refine ⟨_, rfl, pa, _, 1, _, rfl, rfl, SqL.of upd_same, rfl, .inl ⟨_, rfl, _, rfl, _, m, rfl, rfl, m1, ?_⟩⟩
                refine ⟨_, rfl, pa, _, 1, _, rfl, rfl, SqL.of upd_same, rfl, _, rfl, _, m, rfl, rfl, ⟨m1, m2⟩, _, rfl, pa, _, 1, 1, rfl, rfl, upd_same, rfl, ?_⟩
                refine ⟨_, rfl, ?_⟩
                subst ev1 ev2 ev3
                rw [hd] at fin
                exact fin _ (nu (nu (nu (nu n0)))) (by rw [upd_same]; rfl) ev4.symm
              · have hd : drawNew (pos, 0, ns) = ((c0 + pos * 7919 + 1) * 48271 % 2147483647 * 69621 + pos * 104729) % 4294967291 := by
                  unfold drawNew
                  rw [if_neg (fun z => e5 (decide_eq_true (by rw [gl]; exact z.2))), hc]
                refine ⟨_, rfl, pa, _, 0, .int pos, rfl, rfl, SqL.of (hA1 _), rfl, pos, 1, rfl, rfl, _, rfl, pa, _, 0, 0, rfl, rfl, (hA1 _), rfl, ?_⟩
                refine ⟨_, rfl, pa, _, 1, _, rfl, rfl, SqL.of upd_same, rfl, .inl ⟨_, rfl, _, rfl, _, m, rfl, rfl, m1, ?_⟩⟩
                refine ⟨_, rfl, pa, _, 1, _, rfl, rfl, SqL.of upd_same, rfl, _, rfl, _, m, rfl, rfl, ⟨m1, m2⟩, _, rfl, pa, _, 1, 1, rfl, rfl, upd_same, rfl, ?_⟩
                refine ⟨_, rfl, ?_⟩
                subst ev1 ev2 ev3
                rw [hd] at fin
                exact fin _ (nu (nu (nu n0))) (by rw [upd_same]; rfl) ev4.symm
            · refine iteF ?_
              have hd : drawNew (pos, 0, ns) = ((c0 + pos * 7919 + 1) * 48271 % 2147483647 * 69621 + pos * 104729) % 4294967291 := by
                unfold drawNew
                rw [if_neg (fun z => e4 (decide_eq_true (by rw [hc] at z; exact z.1))), hc]
              refine ⟨_, rfl, pa, _, 0, .int pos, rfl, rfl, SqL.of (hA1 _), rfl, pos, 1, rfl, rfl, _, rfl, pa, _, 0, 0, rfl, rfl, (hA1 _), rfl, ?_⟩
              refine ⟨_, rfl, pa, _, 1, _, rfl, rfl, SqL.of upd_same, rfl, .inl ⟨_, rfl, _, rfl, _, m, rfl, rfl, m1, ?_⟩⟩
              refine ⟨_, rfl, pa, _, 1, _, rfl, rfl, SqL.of upd_same, rfl, _, rfl, _, m, rfl, rfl, ⟨m1, m2⟩, _, rfl, pa, _, 1, 1, rfl, rfl, upd_same, rfl, ?_⟩
              refine ⟨_, rfl, ?_⟩
              subst ev1 ev2 ev3
              rw [hd] at fin
              exact fin _ (nu (nu (nu n0))) (by rw [upd_same]; rfl) ev4.symm
        · have hl : ¬ 0 < (ns.length : Int) := fun z => e2 (decide_eq_true (by rw [gl]; exact z))
          have z0 := hc2 hl
          subst z0
          refine ⟨_, rfl, _, _, rfl, rfl, _, rfl, ite2 (fun e3 => ?_) (fun e3 => ?_)⟩
          · exact absurd (of_decide_eq_true e3) (by decide)
          · rw [if_neg (fun z => e3 (decide_eq_true z))] at hc
            refine ⟨_, rfl, _, rfl, pa, _, 0, .int pos, rfl, rfl, SqL.of hA, rfl, pos, 7919, rfl, rfl, .inr ⟨by decide, by decide⟩, _, _, rfl, rfl, _, 1, rfl, rfl, _, 48271, rfl, rfl, .inr ⟨by decide, by decide⟩, .inl ⟨_, rfl, _, 2147483647, rfl, rfl, (by show (0 : Int) < 2147483647; decide), ?_⟩⟩
            refine ⟨_, rfl, _, 69621, rfl, rfl, .inr ⟨by decide, by decide⟩, _, rfl, pa, _, 0, .int pos, rfl, rfl, SqL.of hA, rfl, pos, 104729, rfl, rfl, .inr ⟨by decide, by decide⟩, _, _, rfl, rfl, .inl ⟨_, rfl, _, 4294967291, rfl, rfl, (by show (0 : Int) < 4294967291; decide), _, rfl, pa, _, 1, 1, rfl, rfl, hA, rfl, ?_⟩⟩
            have hA1 : ∀ x : Int, (upd H pa (.lst ([V.int pos, V.int 0].set 1 (.int x)))) pa = some (.lst [.int pos, .int x]) := fun x => upd_same
            refine ⟨_, rfl, 10, 18, rfl, rfl, ⟨by decide, by decide, by decide⟩, _, _, rfl, rfl, _, rfl, ite2 (fun e4 => ?_) (fun e4 => ?_)⟩
            · refine ⟨_, rfl, pa, _, 0, .int pos, rfl, rfl, SqL.of (hA1 _), rfl, _, rfl, sa, _, rfl, .inl (hS _ (nu n0)), _, _, rfl, rfl, _, rfl, ite2 (fun e5 => ?_) (fun e5 => ?_)⟩
              · refine ⟨_, rfl, _, rfl, pa, _, 1, 1, rfl, rfl, hA1 _, rfl, ?_⟩
                have hB : ∀ x y : Int, (upd (upd H pa (.lst ([V.int pos, V.int 0].set 1 (.int x)))) pa (.lst ([V.int pos, V.int x].set 1 (.int y)))) pa = some (.lst [.int pos, .int y]) := fun x y => upd_same
                have hd : drawNew (pos, 0, ns) = 0 := by
                  unfold drawNew
                  rw [if_pos ⟨by rw [hc]; exact of_decide_eq_true e4, by have := of_decide_eq_true e5; rwa [gl] at this⟩, hc]
                refine ⟨_, rfl, pa, _, 0, .int pos, rfl, rfl, SqL.of (hB _ _), rfl, pos, 1, rfl, rfl, _, rfl, pa, _, 0, 0, rfl, rfl, (hB _ _), rfl, ?_⟩
                refine ⟨_, rfl, pa, _, 1, _, rfl, rfl, SqL.of upd_same, rfl, .inl ⟨_, rfl, _, rfl, _, m, rfl, rfl, m1, ?_⟩⟩
                refine ⟨_, rfl, pa, _, 1, _, rfl, rfl, SqL.of upd_same, rfl, _, rfl, _, m, rfl, rfl, ⟨m1, m2⟩, _, rfl, pa, _, 1, 1, rfl, rfl, upd_same, rfl, ?_⟩
                refine ⟨_, rfl, ?_⟩
                subst ev1 ev2 ev3
                rw [hd] at fin
                exact fin _ (nu (nu (nu (nu n0)))) (by rw [upd_same]; rfl) ev4.symm
              · have hd : drawNew (pos, 0, ns) = ((0 + pos * 7919 + 1) * 48271 % 2147483647 * 69621 + pos * 104729) % 4294967291 := by
                  unfold drawNew
                  rw [if_neg (fun z => e5 (decide_eq_true (by rw [gl]; exact z.2))), hc]
                refine ⟨_, rfl, pa, _, 0, .int pos, rfl, rfl, SqL.of (hA1 _), rfl, pos, 1, rfl, rfl, _, rfl, pa, _, 0, 0, rfl, rfl, (hA1 _), rfl, ?_⟩
                refine ⟨_, rfl, pa, _, 1, _, rfl, rfl, SqL.of upd_same, rfl, .inl ⟨_, rfl, _, rfl, _, m, rfl, rfl, m1, ?_⟩⟩
                refine ⟨_, rfl, pa, _, 1, _, rfl, rfl, SqL.of upd_same, rfl, _, rfl, _, m, rfl, rfl, ⟨m1, m2⟩, _, rfl, pa, _, 1, 1, rfl, rfl, upd_same, rfl, ?_⟩
                refine ⟨_, rfl, ?_⟩
                subst ev1 ev2 ev3
                rw [hd] at fin
                exact fin _ (nu (nu (nu n0))) (by rw [upd_same]; rfl) ev4.symm
            · refine iteF ?_
              have hd : drawNew (pos, 0, ns) = ((0 + pos * 7919 + 1) * 48271 % 2147483647 * 69621 + pos * 104729) % 4294967291 := by
                unfold drawNew
                rw [if_neg (fun z => e4 (decide_eq_true (by rw [hc] at z; exact z.1))), hc]
              refine ⟨_, rfl, pa, _, 0, .int pos, rfl, rfl, SqL.of (hA1 _), rfl, pos, 1, rfl, rfl, _, rfl, pa, _, 0, 0, rfl, rfl, (hA1 _), rfl, ?_⟩
              refine ⟨_, rfl, pa, _, 1, _, rfl, rfl, SqL.of upd_same, rfl, .inl ⟨_, rfl, _, rfl, _, m, rfl, rfl, m1, ?_⟩⟩
              refine ⟨_, rfl, pa, _, 1, _, rfl, rfl, SqL.of upd_same, rfl, _, rfl, _, m, rfl, rfl, ⟨m1, m2⟩, _, rfl, pa, _, 1, 1, rfl, rfl, upd_same, rfl, ?_⟩
              refine ⟨_, rfl, ?_⟩
              subst ev1 ev2 ev3
              rw [hd] at fin
              exact fin _ (nu (nu (nu n0))) (by rw [upd_same]; rfl) ev4.symm
      · have es : ¬ seed = 0 := fun z => by rw [z] at e; exact absurd e (by decide)
        rw [if_neg es] at ev
        cases ev
        refine ⟨_, rfl, pa, _, 1, .int seed, rfl, rfl, SqL.of hA, rfl, .inl ⟨_, rfl, _, rfl, _, m, rfl, rfl, m1, ?_⟩⟩
        refine ⟨_, rfl, pa, _, 1, .int seed, rfl, rfl, SqL.of hA, rfl, _, rfl, seed, m, rfl, rfl, ⟨m1, m2⟩, _, rfl, pa, _, 1, 1, rfl, rfl, hA, rfl, ?_⟩
        refine ⟨_, rfl, ?_⟩
        exact fin _ (nu n0) upd_same rfl
    · rw [if_neg c] at ev; cases ev

/-! _law_blasts -/
def d__law_blasts : Ev → M Unit Out :=
  (dRet (dB lenD (dCons (dFz (dLc (dIR rng1 (dCons (dOp mulD (dVar 3) (dVar 2)) dNil)) (gN 4) (dTst (dOp ltV (dOp modD (dVar 4) (dVar 0)) (dVar 1))) (dVar 4) [4])) dNil)))
def v__law_blasts : List D → M Unit D := runF 4 5 d__law_blasts
theorem ok__law_blasts (T : Tx K mg a d) : FnOk P w K mg base CX0 1 (a 12) (d 12) ["turn", "blasts", "day_length", "day"] (spF R0 4 v__law_blasts) := by
  refine fn_q R0 T.F__law_blasts sc__law_blasts (fun cdv A outer s H E hr => ?_)
  exact (qss_one (qs_ret (qe_B c_len q_len (by rfl) T.b_len (by decide +kernel) (qa_cons (qe_fz (qn_lc (own := [("tick", 4)]) rfl sc__law_blasts.nd (qi_rng1 (by rfl) T.b_range (qa_cons (qe_op op_mul q_mul (qe_var (pv 3)) (qe_var (pv 2))) qa_nil)) (blkOk_by (own := [("tick", 4)]) (N := ["turn", "blasts", "day_length", "day", "tick"]) (sc := (defScope s__law_blasts)) (by decide +kernel)) (fun _ _ _ _ _ => (qg_name (pg_name (i := 4) sc__law_blasts.nd rfl (by first | exact .inl rfl | exact .inr rfl)))) gok_N (fun _ _ _ _ _ => (qts_one (qt_cmp (op_ltV (hu70 hr)) q_ltV (qe_op op_mod q_mod (qe_var (pv 4)) (qe_var (pv 0))) (qe_var (pv 1)) (nomark _)))) (fun _ _ _ _ _ => (qe_var (pv 4))))) qa_nil))))
/-! _law_sets -/
def d__law_sets_b1 : Ev → M Unit Out :=
  (dAsg (dOp addD (dVar 1) (dFz (dLc (dIS (dVar 1)) (gN 3) dYes (dOp addD (dVar 3) (dFz (dPl (dCons (dVar 2) dNil)))) [3]))) (gN 1))
def d__law_sets : Ev → M Unit Out :=
  (dSeq (dAsg (dFz (dPl (dCons (dFz (dPl dNil)) dNil))) (gN 1)) (dSeq (dFor (dIS (dVar 0)) (gN 2) d__law_sets_b1) (dRet (dVar 1))))
def v__law_sets : List D → M Unit D := runF 1 4 d__law_sets
theorem ok__law_sets (T : Tx K mg a d) : FnOk P w K mg base CX0 1 (a 14) (d 14) ["rows"] (spF R0 1 v__law_sets) := by
  refine fn_q R0 T.F__law_sets sc__law_sets (fun cdv A outer s H E hr => ?_)
  exact (qss_cons (qs_set (i := 1) sc__law_sets.nd rfl (by first | exact .inl rfl | exact .inr rfl) (qe_fz (qn_lst (qa_cons (qe_fz (qn_lst qa_nil)) qa_nil)))) (qss_cons (qs_for (vs := [2]) PassesOwn.never rfl (qi_seq (qe_var (pv 0))) (qg_name (pg_name (i := 2) sc__law_sets.nd rfl (by first | exact .inl rfl | exact .inr rfl))) (qss_one (qs_set (i := 1) sc__law_sets.nd rfl (by first | exact .inl rfl | exact .inr rfl) (qe_op o_add q_add (qe_var (pv 1)) (qe_fz (qn_lc (own := [("lot", 3)]) rfl sc__law_sets.nd (qi_seq (qe_var (pv 1))) (blkOk_by (own := [("lot", 3)]) (N := ["rows", "found", "one", "lot"]) (sc := (defScope s__law_sets)) (by decide +kernel)) (fun _ _ _ _ _ => (qg_name (pg_name (i := 3) sc__law_sets.nd rfl (by first | exact .inl rfl | exact .inr rfl)))) gok_N (fun _ _ _ _ _ => qts_nil) (fun _ _ _ _ _ => (qe_op o_add q_add (qe_var (pv 3)) (qe_fz (qn_lst (qa_cons (qe_var (pv 2)) qa_nil))))))))))) (qss_one (qs_ret (qe_var (pv 1))))))
/-! _law_enough -/
def d__law_enough : Ev → M Unit Out :=
  (dRet (dOp (eqO false) (dB lenD (dCons (dFz (dLc (dIS (dVar 0)) (gN 3) (dTst (dOp (eqO false) (dB lenD (dCons (dFz (dLc (dIS (dVar 2)) (gN 4) (dTst (dChn leV leV (dOp subD (dVar 3) (dVar 1)) (dVar 4) (dVar 3))) (dVar 4) [4])) dNil)) (dC (.int 0)))) (dVar 3) [3])) dNil)) (dC (.int 0))))
def v__law_enough : List D → M Unit D := runF 3 5 d__law_enough
theorem ok__law_enough (T : Tx K mg a d) : FnOk P w K mg base CX0 1 (a 15) (d 15) ["dues", "early", "days"] (spF R0 3 v__law_enough) := by
  refine fn_q R0 T.F__law_enough sc__law_enough (fun cdv A outer s H E hr => ?_)
  exact (qss_one (qs_ret (qe_cmp (o_eq hr.units) q_eq (qe_B c_len q_len (by rfl) T.b_len (by decide +kernel) (qa_cons (qe_fz (qn_lc (own := [("due", 3)]) rfl sc__law_enough.nd (qi_seq (qe_var (pv 0))) (blkOk_by (own := [("due", 3)]) (N := ["dues", "early", "days", "due", "day"]) (sc := (defScope s__law_enough)) (by decide +kernel)) (fun _ _ _ _ _ => (qg_name (pg_name (i := 3) sc__law_enough.nd rfl (by first | exact .inl rfl | exact .inr rfl)))) gok_N (fun _ _ _ _ _ => (qts_one (qt_cmp (o_eq hr.units) q_eq (qe_B c_len q_len (by rfl) T.b_len (by decide +kernel) (qa_cons (qe_fz (qn_lc (own := [("day", 4)]) rfl sc__law_enough.nd (qi_seq (qe_var (pv 2))) (by refine blkOk_by (own := [("day", 4)]) (N := ["dues", "early", "days", "due", "day"]) (sc := (relS _ (defScope s__law_enough))) ?_; decide +kernel) (fun _ _ _ _ _ => (qg_name (pg_name (i := 4) sc__law_enough.nd rfl (by first | exact .inl rfl | exact .inr rfl)))) gok_N (fun _ _ _ _ _ => (qts_one (qt_chn (op_leV (hu70 hr)) (op_leV (hu70 hr)) q_leV q_leV (qe_op op_sub q_sub (qe_var (pv 3)) (qe_var (pv 1))) (qe_var (pv 4)) (qe_var (pv 3))))) (fun _ _ _ _ _ => (qe_var (pv 4))))) qa_nil)) qe_int (nomark _)))) (fun _ _ _ _ _ => (qe_var (pv 3))))) qa_nil)) qe_int (nomark _))))
/-! first_day_with -/
def d_first_day_with_b1 : Ev → M Unit Out :=
  (dAsg (dOp mulD (dC (.int 2)) (dVar 5)) (gN 5))
def d_first_day_with_b2 : Ev → M Unit Out :=
  (dSeq (dAsg (dOp fdivD (dOp addD (dVar 4) (dVar 5)) (dC (.int 2))) (gN 6)) (dIfS (dTst (dOp geV (dCall 4 (pureF v_blasts_up_to) (dCons (dVar 0) (dCons (dVar 1) (dCons (dVar 2) (dCons (dVar 6) dNil))))) (dVar 3))) (dAsg (dVar 6) (gN 5)) (dAsg (dVar 6) (gN 4))))
def d_first_day_with : Ev → M Unit Out :=
  (dSeq (dAsg (dTup (dCons (dU negD (dC (.int 1))) (dCons (dC (.int 1)) dNil))) (gTp 2 (gCons' (gN 4) (gCons' (gN 5) gNil')))) (dSeq (dWhl (dTst (dOp ltV (dCall 4 (pureF v_blasts_up_to) (dCons (dVar 0) (dCons (dVar 1) (dCons (dVar 2) (dCons (dVar 5) dNil))))) (dVar 3))) d_first_day_with_b1) (dSeq (dWhl (dTst (dOp ltV (dOp addD (dVar 4) (dC (.int 1))) (dVar 5))) d_first_day_with_b2) (dRet (dVar 5)))))
def v_first_day_with : List D → M Unit D := runF 4 7 d_first_day_with
theorem ok_first_day_with (T : Tx K mg a d) : FnOk P w K mg base CX0 2 (a 2) (d 2) ["turn", "blasts", "day_length", "count"] (spF R0 4 v_first_day_with) := by
  refine fn_q R0 T.F_first_day_with sc_first_day_with (fun cdv A outer s H E hr => ?_)
  exact (qss_cons (qs_asg (vs := [4, 5]) (qe_tup (qa_cons (qe_un un_neg q_neg qe_int) (qa_cons qe_int qa_nil))) (qg_tup rfl (qgs_cons (qg_name (pg_name (i := 4) sc_first_day_with.nd rfl (by first | exact .inl rfl | exact .inr rfl))) (qgs_cons (qg_name (pg_name (i := 5) sc_first_day_with.nd rfl (by first | exact .inl rfl | exact .inr rfl))) qgs_nil)))) (qss_cons (qs_while PassesOwn.never (qt_cmp (op_ltV (hu70 hr)) q_ltV (qe_call (ok_blasts_up_to T) (hr.mono (by decide)) (by rfl) T.g_blasts_up_to T.F_blasts_up_to.kp T.B_blasts_up_to (qa_cons (qe_var (pv 0)) (qa_cons (qe_var (pv 1)) (qa_cons (qe_var (pv 2)) (qa_cons (qe_var (pv 5)) qa_nil))))) (qe_var (pv 3)) (nomark _)) (qss_one (qs_set (i := 5) sc_first_day_with.nd rfl (by first | exact .inl rfl | exact .inr rfl) (qe_op op_mul q_mul qe_int (qe_var (pv 5)))))) (qss_cons (qs_while PassesOwn.never (qt_cmp (op_ltV (hu70 hr)) q_ltV (qe_op o_add q_add (qe_var (pv 4)) qe_int) (qe_var (pv 5)) (nomark _)) (qss_cons (qs_set (i := 6) sc_first_day_with.nd rfl (by first | exact .inl rfl | exact .inr rfl) (qe_op op_fdiv q_fdiv (qe_op o_add q_add (qe_var (pv 4)) (qe_var (pv 5))) qe_int)) (qss_one (qs_if (qt_cmp (op_geV (hu70 hr)) q_geV (qe_call (ok_blasts_up_to T) (hr.mono (by decide)) (by rfl) T.g_blasts_up_to T.F_blasts_up_to.kp T.B_blasts_up_to (qa_cons (qe_var (pv 0)) (qa_cons (qe_var (pv 1)) (qa_cons (qe_var (pv 2)) (qa_cons (qe_var (pv 6)) qa_nil))))) (qe_var (pv 3)) (nomark _)) (qss_one (qs_set (i := 5) sc_first_day_with.nd rfl (by first | exact .inl rfl | exact .inr rfl) (qe_var (pv 6)))) (qss_one (qs_set (i := 4) sc_first_day_with.nd rfl (by first | exact .inl rfl | exact .inr rfl) (qe_var (pv 6)))))))) (qss_one (qs_ret (qe_var (pv 5)))))))
/-! least_early -/
def d_least_early_b1 : Ev → M Unit Out :=
  (dExt 3 (dFz (dLc (dIS (dSlA (dVar 2) dNoP (dPrt (dVar 4)))) (gN 7) dYes (dOp subD (dVar 5) (dVar 7)) [7])))
def d_least_early_b2 : Ev → M Unit Out :=
  (dIfS (dTst (dOp leV (dB lenD (dCons (dOp idxD (dCall 2 (pureF v_trips) (dCons (dVar 0) (dCons (dVar 6) dNil))) (dC (.int 0))) dNil)) (dVar 1))) (dRet (dVar 6)) dNx)
def d_least_early : Ev → M Unit Out :=
  (dSeq (dIfS (dTst (dOp (eqO false) (dVar 1) (dC (.int 0)))) (dRet (dIf (dTst (dOp (eqO false) (dB lenD (dCons (dVar 0) dNil)) (dC (.int 0)))) (dC (.int 0)) (dC .non))) dNx) (dSeq (dAsg (dFz (dBN sortG (dCons (dVar 0) dNil))) (gN 2)) (dSeq (dSetO 3 (dPl (dCons (dC (.int 0)) dNil))) (dSeq (dFor (dIR enuD (dCons (dVar 2) dNil)) (gTp 2 (gCons' (gN 4) (gCons' (gN 5) gNil'))) d_least_early_b1) (dSeq (dFor (dIS (dFz (dBN sortSetD (dCons (dVar 3) dNil)))) (gN 6) d_least_early_b2) (dRet (dC .non)))))))
def v_least_early : List D → M Unit D := runF 2 8 d_least_early
theorem ok_least_early (T : Tx K mg a d) : FnOk P w K mg base CX0 2 (a 7) (d 7) ["dues", "most"] (spF R0 2 v_least_early) := by
  refine fn_q R0 T.F_least_early sc_least_early (fun cdv A outer s H E hr => ?_)
  exact (qss_cons (qs_if (qt_cmp (o_eq hr.units) q_eq (qe_var (pv 1)) qe_int (nomark _)) (qss_one (qs_ret (qe_if (qt_cmp (o_eq hr.units) q_eq (qe_B c_len q_len (by rfl) T.b_len (by decide +kernel) (qa_cons (qe_var (pv 0)) qa_nil)) qe_int (nomark _)) qe_int qe_non))) qss_nil) (qss_cons (qs_set (i := 2) sc_least_early.nd rfl (by first | exact .inl rfl | exact .inr rfl) (qe_fz (qn_B (c_sortG (hu70 hr)) q_sortG (by rfl) T.b_sorted (by decide +kernel) (qa_cons (qe_var (pv 0)) qa_nil)))) (qss_cons (qs_setO (i := 3) sc_least_early.nd rfl (by first | exact .inl rfl | exact .inr rfl) (qn_lst (qa_cons qe_int qa_nil))) (qss_cons (qs_for (vs := [4, 5]) PassesOwn.never rfl (qi_enum (by rfl) T.b_enumerate (qa_cons (qe_var (pv 2)) qa_nil)) (qg_tup rfl (qgs_cons (qg_name (pg_name (i := 4) sc_least_early.nd rfl (by first | exact .inl rfl | exact .inr rfl))) (qgs_cons (qg_name (pg_name (i := 5) sc_least_early.nd rfl (by first | exact .inl rfl | exact .inr rfl))) qgs_nil))) (qss_one (qs_ext (i := 3) (pv 3) (qe_fz (qn_lc (own := [("one", 7)]) rfl sc_least_early.nd (qi_seq (qe_slA (qe_var (pv 2)) qo_none (qo_some (qe_var (pv 4))))) (blkOk_by (own := [("one", 7)]) (N := ["dues", "most", "rows", "gaps", "at", "due", "early", "one"]) (sc := (defScope s_least_early)) (by decide +kernel)) (fun _ _ _ _ _ => (qg_name (pg_name (i := 7) sc_least_early.nd rfl (by first | exact .inl rfl | exact .inr rfl)))) gok_N (fun _ _ _ _ _ => qts_nil) (fun _ _ _ _ _ => (qe_op op_sub q_sub (qe_var (pv 5)) (qe_var (pv 7)))))) (fun h => pe_bm PySem.F.plainAttrs_list PySem.F.slot_list_extend PySem.F.type_list_extend mt_extend (pv 3) h)))) (qss_cons (qs_for (vs := [6]) PassesOwn.never rfl (qi_seq (qe_fz (qn_sortSet rfl (by rfl) T.b_sorted (by rfl) T.b_set (qa_cons (qe_var (pv 3)) qa_nil)))) (qg_name (pg_name (i := 6) sc_least_early.nd rfl (by first | exact .inl rfl | exact .inr rfl))) (qss_one (qs_if (qt_cmp (op_leV (hu70 hr)) q_leV (qe_B c_len q_len (by rfl) T.b_len (by decide +kernel) (qa_cons (qe_ix ix_seq q_idx (qe_call (ok_trips T) (hr.mono (by decide)) (by rfl) T.g_trips T.F_trips.kp T.B_trips (qa_cons (qe_var (pv 0)) (qa_cons (qe_var (pv 6)) qa_nil))) qe_int (fun _ _ => rfl)) qa_nil)) (qe_var (pv 1)) (nomark _)) (qss_one (qs_ret (qe_var (pv 6)))) qss_nil))) (qss_one (qs_ret qe_non)))))))
/-! wear_left -/
def d_wear_left : Ev → M Unit Out :=
  (dSeq (dAsg (dVar 0) (gTp 4 (gCons' (gN 4) (gCons' (gN 5) (gCons' (gN 6) (gCons' (gN 7) gNil')))))) (dSeq (dAsg (dOp subD (dCall 4 (pureF v_blasts_up_to) (dCons (dVar 4) (dCons (dVar 5) (dCons (dVar 1) (dCons (dVar 3) dNil))))) (dCall 4 (pureF v_blasts_up_to) (dCons (dVar 4) (dCons (dVar 5) (dCons (dVar 1) (dCons (dVar 2) dNil)))))) (gN 8)) (dRet (dTup (dCons (dB max2D (dCons (dC (.int 0)) (dCons (dOp subD (dVar 6) (dVar 8)) dNil))) (dCons (dB max2D (dCons (dC (.int 0)) (dCons (dOp subD (dOp addD (dVar 2) (dVar 7)) (dVar 3)) dNil))) dNil))))))
def v_wear_left : List D → M Unit D := runF 4 9 d_wear_left
theorem ok_wear_left (T : Tx K mg a d) : FnOk P w K mg base CX0 2 (a 8) (d 8) ["horn", "day_length", "last", "day"] (spF R0 4 v_wear_left) := by
  refine fn_q R0 T.F_wear_left sc_wear_left (fun cdv A outer s H E hr => ?_)
  exact (qss_cons (qs_asg (vs := [4, 5, 6, 7]) (qe_var (pv 0)) (qg_tup rfl (qgs_cons (qg_name (pg_name (i := 4) sc_wear_left.nd rfl (by first | exact .inl rfl | exact .inr rfl))) (qgs_cons (qg_name (pg_name (i := 5) sc_wear_left.nd rfl (by first | exact .inl rfl | exact .inr rfl))) (qgs_cons (qg_name (pg_name (i := 6) sc_wear_left.nd rfl (by first | exact .inl rfl | exact .inr rfl))) (qgs_cons (qg_name (pg_name (i := 7) sc_wear_left.nd rfl (by first | exact .inl rfl | exact .inr rfl))) qgs_nil)))))) (qss_cons (qs_set (i := 8) sc_wear_left.nd rfl (by first | exact .inl rfl | exact .inr rfl) (qe_op op_sub q_sub (qe_call (ok_blasts_up_to T) (hr.mono (by decide)) (by rfl) T.g_blasts_up_to T.F_blasts_up_to.kp T.B_blasts_up_to (qa_cons (qe_var (pv 4)) (qa_cons (qe_var (pv 5)) (qa_cons (qe_var (pv 1)) (qa_cons (qe_var (pv 3)) qa_nil))))) (qe_call (ok_blasts_up_to T) (hr.mono (by decide)) (by rfl) T.g_blasts_up_to T.F_blasts_up_to.kp T.B_blasts_up_to (qa_cons (qe_var (pv 4)) (qa_cons (qe_var (pv 5)) (qa_cons (qe_var (pv 1)) (qa_cons (qe_var (pv 2)) qa_nil))))))) (qss_one (qs_ret (qe_tup (qa_cons (qe_B (call_max2 rfl) q_max2 (by rfl) T.b_max (by decide +kernel) (qa_cons qe_int (qa_cons (qe_op op_sub q_sub (qe_var (pv 6)) (qe_var (pv 8))) qa_nil))) (qa_cons (qe_B (call_max2 rfl) q_max2 (by rfl) T.b_max (by decide +kernel) (qa_cons qe_int (qa_cons (qe_op op_sub q_sub (qe_op o_add q_add (qe_var (pv 2)) (qe_var (pv 7))) (qe_var (pv 3))) qa_nil))) qa_nil)))))))
/-! _law_dues -/
def d__law_dues_b1 : Ev → M Unit Out :=
  (dSeq (dAsg (dOp addD (dVar 9) (dC (.int 1))) (gN 9)) (dSeq (dAsg (dOp subD (dCall 4 (pureF v__law_blasts) (dCons (dVar 3) (dCons (dVar 4) (dCons (dVar 1) (dCons (dVar 9) dNil))))) (dCall 4 (pureF v__law_blasts) (dCons (dVar 3) (dCons (dVar 4) (dCons (dVar 1) (dCons (dVar 8) dNil)))))) (gN 10)) (dIfS (dOr (dTst (dOp geV (dVar 10) (dVar 5))) (dTst (dOp geV (dOp subD (dVar 9) (dVar 8)) (dVar 6)))) (dSeq (dApp 7 (dVar 9)) (dAsg (dVar 9) (gN 8))) dNx)))
def d__law_dues : Ev → M Unit Out :=
  (dSeq (dAsg (dVar 0) (gTp 4 (gCons' (gN 3) (gCons' (gN 4) (gCons' (gN 5) (gCons' (gN 6) gNil')))))) (dSeq (dSetO 7 (dPl dNil)) (dSeq (dAsg (dC (.int 0)) (gN 8)) (dSeq (dAsg (dC (.int 0)) (gN 9)) (dSeq (dWhl (dTst (dOp ltV (dB lenD (dCons (dVar 7) dNil)) (dVar 2))) d__law_dues_b1) (dFrz 7 (dRet (dVar 7))))))))
def v__law_dues : List D → M Unit D := runF 3 11 d__law_dues
theorem ok__law_dues (T : Tx K mg a d) : FnOk P w K mg base CX0 2 (a 13) (d 13) ["horn", "day_length", "number"] (spF R0 3 v__law_dues) := by
  refine fn_q R0 T.F__law_dues sc__law_dues (fun cdv A outer s H E hr => ?_)
  exact (qss_cons (qs_asg (vs := [3, 4, 5, 6]) (qe_var (pv 0)) (qg_tup rfl (qgs_cons (qg_name (pg_name (i := 3) sc__law_dues.nd rfl (by first | exact .inl rfl | exact .inr rfl))) (qgs_cons (qg_name (pg_name (i := 4) sc__law_dues.nd rfl (by first | exact .inl rfl | exact .inr rfl))) (qgs_cons (qg_name (pg_name (i := 5) sc__law_dues.nd rfl (by first | exact .inl rfl | exact .inr rfl))) (qgs_cons (qg_name (pg_name (i := 6) sc__law_dues.nd rfl (by first | exact .inl rfl | exact .inr rfl))) qgs_nil)))))) (qss_cons (qs_setO (i := 7) sc__law_dues.nd rfl (by first | exact .inl rfl | exact .inr rfl) (qn_lst qa_nil)) (qss_cons (qs_set (i := 8) sc__law_dues.nd rfl (by first | exact .inl rfl | exact .inr rfl) qe_int) (qss_cons (qs_set (i := 9) sc__law_dues.nd rfl (by first | exact .inl rfl | exact .inr rfl) qe_int) (qss_cons (qs_while PassesOwn.never (qt_cmp (op_ltV (hu70 hr)) q_ltV (qe_B c_len q_len (by rfl) T.b_len (by decide +kernel) (qa_cons (qe_var (pv 7)) qa_nil)) (qe_var (pv 2)) (nomark _)) (qss_cons (qs_set (i := 9) sc__law_dues.nd rfl (by first | exact .inl rfl | exact .inr rfl) (qe_op o_add q_add (qe_var (pv 9)) qe_int)) (qss_cons (qs_set (i := 10) sc__law_dues.nd rfl (by first | exact .inl rfl | exact .inr rfl) (qe_op op_sub q_sub (qe_call (ok__law_blasts T) (hr.mono (by decide)) (by rfl) T.g__law_blasts T.F__law_blasts.kp T.B__law_blasts (qa_cons (qe_var (pv 3)) (qa_cons (qe_var (pv 4)) (qa_cons (qe_var (pv 1)) (qa_cons (qe_var (pv 9)) qa_nil))))) (qe_call (ok__law_blasts T) (hr.mono (by decide)) (by rfl) T.g__law_blasts T.F__law_blasts.kp T.B__law_blasts (qa_cons (qe_var (pv 3)) (qa_cons (qe_var (pv 4)) (qa_cons (qe_var (pv 1)) (qa_cons (qe_var (pv 8)) qa_nil))))))) (qss_one (qs_if (qt_w (qw_or (qt_cmp (op_geV (hu70 hr)) q_geV (qe_var (pv 10)) (qe_var (pv 5)) (nomark _)) (qw_or1 (qt_cmp (op_geV (hu70 hr)) q_geV (qe_op op_sub q_sub (qe_var (pv 9)) (qe_var (pv 8))) (qe_var (pv 6)) (nomark _))))) (qss_cons (qs_app (i := 7) (pv 7) (qe_var (pv 9)) (fun h => pe_bm PySem.F.plainAttrs_list PySem.F.slot_list_append PySem.F.type_list_append mt_append (pv 7) h)) (qss_one (qs_set (i := 8) sc__law_dues.nd rfl (by first | exact .inl rfl | exact .inr rfl) (qe_var (pv 9))))) qss_nil))))) (qss_one (qs_frz 7 (qs_ret (qe_var (pv 7))))))))))
/-! _law_least -/
def d__law_least : Ev → M Unit Out :=
  (dRet (dB minG (dCons (dFz (dLc (dIS (dCall 1 (pureF v__law_sets) (dCons (dFz (dBN sortSetD (dCons (dVar 0) dNil))) dNil))) (gN 2) (dTru (dCall 3 (pureF v__law_enough) (dCons (dVar 0) (dCons (dVar 1) (dCons (dVar 2) dNil))))) (dB lenD (dCons (dVar 2) dNil)) [2])) dNil)))
def v__law_least : List D → M Unit D := runF 2 3 d__law_least
theorem ok__law_least (T : Tx K mg a d) : FnOk P w K mg base CX0 2 (a 16) (d 16) ["dues", "early"] (spF R0 2 v__law_least) := by
  refine fn_q R0 T.F__law_least sc__law_least (fun cdv A outer s H E hr => ?_)
  exact (qss_one (qs_ret (qe_B (c_min rfl (hu70 hr)) q_minG (by rfl) T.b_min (by decide +kernel) (qa_cons (qe_fz (qn_lc (own := [("lot", 2)]) rfl sc__law_least.nd (qi_seq (qe_call (ok__law_sets T) (hr.mono (by decide)) (by rfl) T.g__law_sets T.F__law_sets.kp T.B__law_sets (qa_cons (qe_fz (qn_sortSet rfl (by rfl) T.b_sorted (by rfl) T.b_set (qa_cons (qe_var (pv 0)) qa_nil))) qa_nil))) (blkOk_by (own := [("lot", 2)]) (N := ["dues", "early", "lot"]) (sc := (defScope s__law_least)) (by decide +kernel)) (fun _ _ _ _ _ => (qg_name (pg_name (i := 2) sc__law_least.nd rfl (by first | exact .inl rfl | exact .inr rfl)))) gok_N (fun _ _ _ _ _ => (qts_one (qt_tru (qe_call (ok__law_enough T) (hr.mono (by decide)) (by rfl) T.g__law_enough T.F__law_enough.kp T.B__law_enough (qa_cons (qe_var (pv 0)) (qa_cons (qe_var (pv 1)) (qa_cons (qe_var (pv 2)) qa_nil)))) (fun _ => rfl)))) (fun _ _ _ _ _ => (qe_B c_len q_len (by rfl) T.b_len (by decide +kernel) (qa_cons (qe_var (pv 2)) qa_nil))))) qa_nil))))
/-! due_days -/
def d_due_days_b1 : Ev → M Unit Out :=
  (dSeq (dAsg (dCall 4 (pureF v_blasts_up_to) (dCons (dVar 3) (dCons (dVar 4) (dCons (dVar 1) (dCons (dVar 8) dNil))))) (gN 10)) (dSeq (dAsg (dB min2D (dCons (dCall 4 (pureF v_first_day_with) (dCons (dVar 3) (dCons (dVar 4) (dCons (dVar 1) (dCons (dOp addD (dVar 10) (dVar 5)) dNil))))) (dCons (dOp addD (dVar 8) (dVar 6)) dNil))) (gN 11)) (dSeq (dApp 7 (dB max2D (dCons (dVar 11) (dCons (dOp addD (dVar 8) (dC (.int 1))) dNil)))) (dAsg (dOp idxD (dVar 7) (dU negD (dC (.int 1)))) (gN 8)))))
def d_due_days : Ev → M Unit Out :=
  (dSeq (dAsg (dVar 0) (gTp 4 (gCons' (gN 3) (gCons' (gN 4) (gCons' (gN 5) (gCons' (gN 6) gNil')))))) (dSeq (dSetO 7 (dPl dNil)) (dSeq (dAsg (dC (.int 0)) (gN 8)) (dSeq (dFor (dIR rng1 (dCons (dVar 2) dNil)) (gN 9) d_due_days_b1) (dFrz 7 (dRet (dVar 7)))))))
def v_due_days : List D → M Unit D := runF 3 12 d_due_days
theorem ok_due_days (T : Tx K mg a d) : FnOk P w K mg base CX0 3 (a 3) (d 3) ["horn", "day_length", "number"] (spF R0 3 v_due_days) := by
  refine fn_q R0 T.F_due_days sc_due_days (fun cdv A outer s H E hr => ?_)
  exact (qss_cons (qs_asg (vs := [3, 4, 5, 6]) (qe_var (pv 0)) (qg_tup rfl (qgs_cons (qg_name (pg_name (i := 3) sc_due_days.nd rfl (by first | exact .inl rfl | exact .inr rfl))) (qgs_cons (qg_name (pg_name (i := 4) sc_due_days.nd rfl (by first | exact .inl rfl | exact .inr rfl))) (qgs_cons (qg_name (pg_name (i := 5) sc_due_days.nd rfl (by first | exact .inl rfl | exact .inr rfl))) (qgs_cons (qg_name (pg_name (i := 6) sc_due_days.nd rfl (by first | exact .inl rfl | exact .inr rfl))) qgs_nil)))))) (qss_cons (qs_setO (i := 7) sc_due_days.nd rfl (by first | exact .inl rfl | exact .inr rfl) (qn_lst qa_nil)) (qss_cons (qs_set (i := 8) sc_due_days.nd rfl (by first | exact .inl rfl | exact .inr rfl) qe_int) (qss_cons (qs_for (vs := [9]) PassesOwn.never rfl (qi_rng1 (by rfl) T.b_range (qa_cons (qe_var (pv 2)) qa_nil)) (qg_name (pg_name (i := 9) sc_due_days.nd rfl (by first | exact .inl rfl | exact .inr rfl))) (qss_cons (qs_set (i := 10) sc_due_days.nd rfl (by first | exact .inl rfl | exact .inr rfl) (qe_call (ok_blasts_up_to T) (hr.mono (by decide)) (by rfl) T.g_blasts_up_to T.F_blasts_up_to.kp T.B_blasts_up_to (qa_cons (qe_var (pv 3)) (qa_cons (qe_var (pv 4)) (qa_cons (qe_var (pv 1)) (qa_cons (qe_var (pv 8)) qa_nil)))))) (qss_cons (qs_set (i := 11) sc_due_days.nd rfl (by first | exact .inl rfl | exact .inr rfl) (qe_B (call_min2 rfl) q_min2 (by rfl) T.b_min (by decide +kernel) (qa_cons (qe_call (ok_first_day_with T) (hr.mono (by decide)) (by rfl) T.g_first_day_with T.F_first_day_with.kp T.B_first_day_with (qa_cons (qe_var (pv 3)) (qa_cons (qe_var (pv 4)) (qa_cons (qe_var (pv 1)) (qa_cons (qe_op o_add q_add (qe_var (pv 10)) (qe_var (pv 5))) qa_nil))))) (qa_cons (qe_op o_add q_add (qe_var (pv 8)) (qe_var (pv 6))) qa_nil)))) (qss_cons (qs_app (i := 7) (pv 7) (qe_B (call_max2 rfl) q_max2 (by rfl) T.b_max (by decide +kernel) (qa_cons (qe_var (pv 11)) (qa_cons (qe_op o_add q_add (qe_var (pv 8)) qe_int) qa_nil))) (fun h => pe_bm PySem.F.plainAttrs_list PySem.F.slot_list_append PySem.F.type_list_append mt_append (pv 7) h)) (qss_one (qs_set (i := 8) sc_due_days.nd rfl (by first | exact .inl rfl | exact .inr rfl) (qe_ix ix_seq q_idx (qe_var (pv 7)) (qe_un un_neg q_neg qe_int) (fun _ _ => rfl)))))))) (qss_one (qs_frz 7 (qs_ret (qe_var (pv 7)))))))))
/-! _law_fault -/
def d__law_fault_b1 : Ev → M Unit Out :=
  (dSeq (dAsg (dOp idxD (dFz (dBN sortG (dCons (dVar 0) dNil))) (dVar 5)) (gN 6)) (dIfS (dOr (dTst (dOp (inO true) (dOp idxD (dVar 4) (dVar 5)) (dVar 3))) (dNot (dTst (dChn leV leV (dOp subD (dVar 6) (dVar 1)) (dOp idxD (dVar 4) (dVar 5)) (dVar 6))))) (dRet (dTup (dCons (dC (.str "service")) (dCons (dVar 5) dNil)))) dNx))
def d__law_fault : Ev → M Unit Out :=
  (dSeq (dAsg (dVar 2) (gTp 2 (gCons' (gN 3) (gCons' (gN 4) gNil')))) (dSeq (dIfS (dOr (dTst (dOp (eqO true) (dVar 3) (dFz (dBN sortSetD (dCons (dVar 3) dNil))))) (dTst (dOp (eqO true) (dB lenD (dCons (dVar 4) dNil)) (dB lenD (dCons (dVar 0) dNil))))) (dRet (dTup (dCons (dC (.str "days")) dNil))) dNx) (dSeq (dFor (dIR rng1 (dCons (dB lenD (dCons (dVar 0) dNil)) dNil)) (gN 5) d__law_fault_b1) (dRet (dOp idxD (dFz (dPl (dCons (dTup (dCons (dC (.str "fewer")) dNil)) (dCons (dC .non) dNil)))) (dB intD (dCons (dOp (eqO false) (dB lenD (dCons (dVar 3) dNil)) (dCall 2 (pureF v__law_least) (dCons (dVar 0) (dCons (dVar 1) dNil)))) dNil)))))))
def v__law_fault : List D → M Unit D := runF 3 7 d__law_fault
theorem ok__law_fault (T : Tx K mg a d) : FnOk P w K mg base CX0 3 (a 17) (d 17) ["dues", "early", "told"] (spF R0 3 v__law_fault) := by
  refine fn_q R0 T.F__law_fault sc__law_fault (fun cdv A outer s H E hr => ?_)
  exact (qss_cons (qs_asg (vs := [3, 4]) (qe_var (pv 2)) (qg_tup rfl (qgs_cons (qg_name (pg_name (i := 3) sc__law_fault.nd rfl (by first | exact .inl rfl | exact .inr rfl))) (qgs_cons (qg_name (pg_name (i := 4) sc__law_fault.nd rfl (by first | exact .inl rfl | exact .inr rfl))) qgs_nil)))) (qss_cons (qs_if (qt_w (qw_or (qt_cmp (o_ne hr.units) q_ne (qe_var (pv 3)) (qe_fz (qn_sortSet rfl (by rfl) T.b_sorted (by rfl) T.b_set (qa_cons (qe_var (pv 3)) qa_nil))) (nomark _)) (qw_or1 (qt_cmp (o_ne hr.units) q_ne (qe_B c_len q_len (by rfl) T.b_len (by decide +kernel) (qa_cons (qe_var (pv 4)) qa_nil)) (qe_B c_len q_len (by rfl) T.b_len (by decide +kernel) (qa_cons (qe_var (pv 0)) qa_nil)) (nomark _))))) (qss_one (qs_ret (qe_tup (qa_cons qe_str qa_nil)))) qss_nil) (qss_cons (qs_for (vs := [5]) PassesOwn.never rfl (qi_rng1 (by rfl) T.b_range (qa_cons (qe_B c_len q_len (by rfl) T.b_len (by decide +kernel) (qa_cons (qe_var (pv 0)) qa_nil)) qa_nil)) (qg_name (pg_name (i := 5) sc__law_fault.nd rfl (by first | exact .inl rfl | exact .inr rfl))) (qss_cons (qs_set (i := 6) sc__law_fault.nd rfl (by first | exact .inl rfl | exact .inr rfl) (qe_ix ix_seq q_idx (qe_fz (qn_B (c_sortG (hu70 hr)) q_sortG (by rfl) T.b_sorted (by decide +kernel) (qa_cons (qe_var (pv 0)) qa_nil))) (qe_var (pv 5)) (fun _ _ => rfl))) (qss_one (qs_if (qt_w (qw_or (qt_cmp (op_notInD (hu65 hr)) q_notIn (qe_ix ix_seq q_idx (qe_var (pv 4)) (qe_var (pv 5)) (fun _ _ => rfl)) (qe_var (pv 3)) (by rfl)) (qw_or1 (qt_not (qt_chn (op_leV (hu70 hr)) (op_leV (hu70 hr)) q_leV q_leV (qe_op op_sub q_sub (qe_var (pv 6)) (qe_var (pv 1))) (qe_ix ix_seq q_idx (qe_var (pv 4)) (qe_var (pv 5)) (fun _ _ => rfl)) (qe_var (pv 6))))))) (qss_one (qs_ret (qe_tup (qa_cons qe_str (qa_cons (qe_var (pv 5)) qa_nil))))) qss_nil)))) (qss_one (qs_ret (qe_ix ix_seq q_idx (qe_fz (qn_lst (qa_cons (qe_tup (qa_cons qe_str qa_nil)) (qa_cons qe_non qa_nil)))) (qe_T call_int1 q_int1 (by rfl) T.b_int (by decide +kernel) (qa_cons (qe_cmp (o_eq hr.units) q_eq (qe_B c_len q_len (by rfl) T.b_len (by decide +kernel) (qa_cons (qe_var (pv 3)) qa_nil)) (qe_call (ok__law_least T) (hr.mono (by decide)) (by rfl) T.g__law_least T.F__law_least.kp T.B__law_least (qa_cons (qe_var (pv 0)) (qa_cons (qe_var (pv 1)) qa_nil))) (nomark _)) qa_nil)) (fun _ _ => rfl)))))))
/-! law -/
def d_law_b1 : Ev → M S3 Out :=
  (dAsg (dOp addD (dVar 8) (dC (.int 1))) (gN 8))
def d_law_b2 : Ev → M S3 Out :=
  (dApp 17 (dOp idxD (dFz (dLc (dIS (dVar 16)) (gN 25) (dTst (dChn leV leV (dOp subD (dVar 18) (dVar 12)) (dVar 25) (dVar 18))) (dVar 25) [25])) (dC (.int 0))))
def d_law_b3 : Ev → M S3 Out :=
  (dIfS (dTst (dOp (eqO true) (dB reprA (dCons (dCall 3 (pureF v_trips_fault) (dCons (dVar 11) (dCons (dVar 12) (dCons (dVar 20) dNil)))) dNil)) (dB reprA (dCons (dCall 3 (pureF v__law_fault) (dCons (dVar 11) (dCons (dVar 12) (dCons (dVar 20) dNil)))) dNil)))) (dRet (dC (.bl false))) dNx)
def d_law_b4 : Ev → M S3 Out :=
  (dIfS (dTst (dOp (eqO true) (dOp idxD (dVar 21) (dVar 22)) (dB minG (dCons (dFz (dLc (dIS (dVar 11)) (gN 18) (dTst (dOp gtV (dVar 18) (dOp addD (dOp idxD (dVar 21) (dOp subD (dVar 22) (dC (.int 1)))) (dVar 12)))) (dVar 18) [18])) dNil)))) (dRet (dC (.bl false))) dNx)
def d_law_b5 : Ev → M S3 Out :=
  (dIfS (dTst (dOp leV (dCall 2 (pureF v__law_least) (dCons (dVar 11) (dCons (dVar 25) dNil))) (dVar 23))) (dAsg (dVar 25) (gN 24)) dNx)
def d_law_r6 : Ev → M S3 Out :=
  (dRet (dAndV (dOp (eqO false) (dB reprA (dCons (dCall 2 (pureF v_least_early) (dCons (dVar 11) (dCons (dVar 23) dNil))) dNil)) (dB reprA (dCons (dVar 24) dNil))) (dOp (eqO false) (dB reprA (dCons (dVar 11) dNil)) (dVar 13))))
def d_law_r7 : Ev → M S3 Out :=
  (dSeq (dFor (dIR rng3 (dCons (dC (.int 20)) (dCons (dU negD (dC (.int 1))) (dCons (dU negD (dC (.int 1))) dNil)))) (gN 25) d_law_b5) d_law_r6)
def d_law_r8 : Ev → M S3 Out :=
  (dSeq (dAsg (dC .non) (gN 24)) d_law_r7)
def d_law_r9 : Ev → M S3 Out :=
  (dSeq (dAsg (dCallR 3 v__law_draw (dCons (dVar 1) (dCons (dVar 0) (dCons (dC (.int 5)) dNil)))) (gN 23)) d_law_r8)
def d_law_r10 : Ev → M S3 Out :=
  (dSeq (dFor (dIR rng2 (dCons (dC (.int 1)) (dCons (dB lenD (dCons (dVar 21) dNil)) dNil))) (gN 22) d_law_b4) d_law_r9)
def d_law_r11 : Ev → M S3 Out :=
  (dSeq (dIfS (dOr (dTst (dOp (eqO true) (dB lenD (dCons (dVar 21) dNil)) (dVar 15))) (dOr (dTst (dOp (eqO true) (dSlA (dVar 21) dNoP (dPrt (dC (.int 1)))) (dSlA (dFz (dBN sortG (dCons (dVar 11) dNil))) dNoP (dPrt (dC (.int 1)))))) (dTst (dOp gtV (dB lenD (dCons (dFz (dLc (dIS (dVar 21)) (gN 18) (dTst (dOp (inO true) (dVar 18) (dVar 11))) (dVar 18) [18])) dNil)) (dC (.int 0)))))) (dRet (dC (.bl false))) dNx) d_law_r10)
def d_law_r12 : Ev → M S3 Out :=
  (dSeq (dAsg (dCall 2 (pureF v_far_apart) (dCons (dVar 11) (dCons (dVar 12) dNil))) (gN 21)) d_law_r11)
def d_law_r13 : Ev → M S3 Out :=
  (dSeq (dFor (dIS (dVar 19)) (gN 20) d_law_b3) d_law_r12)
def d_law_r14 : Ev → M S3 Out :=
  (dSeq (dFrz 17 (dAsg (dFz (dPl (dCons (dTup (dCons (dVar 16) (dCons (dVar 17) dNil))) (dCons (dTup (dCons (dVar 16) (dCons (dFz (dBN sortG (dCons (dVar 11) dNil))) dNil))) (dCons (dTup (dCons (dSlA (dOp idxD (dVar 14) (dC (.int 0))) (dPrt (dC (.int 1))) dNoP) (dCons (dOp idxD (dVar 14) (dC (.int 1))) dNil))) (dCons (dTup (dCons (dOp idxD (dVar 14) (dC (.int 0))) (dCons (dSlA (dOp idxD (dVar 14) (dC (.int 1))) (dPrt (dC (.int 1))) dNoP) dNil))) (dCons (dTup (dCons (dOp idxD (dVar 14) (dC (.int 0))) (dCons (dFz (dLc (dIS (dOp idxD (dVar 14) (dC (.int 1)))) (gN 25) dYes (dOp addD (dVar 25) (dC (.int 1))) [25])) dNil))) (dCons (dTup (dCons (dFz (dRev (dOp idxD (dVar 14) (dC (.int 0))))) (dCons (dOp idxD (dVar 14) (dC (.int 1))) dNil))) (dCons (dTup (dCons (dOp addD (dOp idxD (dVar 14) (dC (.int 0))) (dFz (dPl (dCons (dC (.int 99)) dNil)))) (dCons (dOp idxD (dVar 14) (dC (.int 1))) dNil))) dNil))))))))) (gN 19))) d_law_r13)
def d_law_r15 : Ev → M S3 Out :=
  (dSeq (dFor (dIS (dFz (dBN sortG (dCons (dVar 11) dNil)))) (gN 18) d_law_b2) d_law_r14)
def d_law_r16 : Ev → M S3 Out :=
  (dSeq (dSetO 17 (dPl dNil)) d_law_r15)
def d_law_r17 : Ev → M S3 Out :=
  (dSeq (dAsg (dFz (dBN sortSetD (dCons (dVar 11) dNil))) (gN 16)) d_law_r16)
def d_law_r18 : Ev → M S3 Out :=
  (dSeq (dIfS (dOr (dTst (dOp (eqO true) (dB lenD (dCons (dOp idxD (dVar 14) (dC (.int 0))) dNil)) (dVar 15))) (dOr (dTst (dOp (isND false) (dCall 3 (pureF v__law_fault) (dCons (dVar 11) (dCons (dVar 12) (dCons (dVar 14) dNil)))) (dC .non))) (dTst (dOp (isND false) (dCall 3 (pureF v_trips_fault) (dCons (dVar 11) (dCons (dVar 12) (dCons (dVar 14) dNil)))) (dC .non))))) (dRet (dC (.bl false))) dNx) d_law_r17)
def d_law_r19 : Ev → M S3 Out :=
  (dSeq (dAsg (dCall 2 (pureF v__law_least) (dCons (dVar 11) (dCons (dVar 12) dNil))) (gN 15)) d_law_r18)
def d_law_r20 : Ev → M S3 Out :=
  (dSeq (dAsg (dCall 2 (pureF v_trips) (dCons (dVar 11) (dCons (dVar 12) dNil))) (gN 14)) d_law_r19)
def d_law_r21 : Ev → M S3 Out :=
  (dSeq (dAsg (dB reprA (dCons (dVar 11) dNil)) (gN 13)) d_law_r20)
def d_law_r22 : Ev → M S3 Out :=
  (dSeq (dAsg (dCallR 3 v__law_draw (dCons (dVar 1) (dCons (dVar 0) (dCons (dC (.int 6)) dNil)))) (gN 12)) d_law_r21)
def d_law_r23 : Ev → M S3 Out :=
  (dSeq (dAsg (dFz (dLc (dIR rng1 (dCons (dCallR 3 v__law_draw (dCons (dVar 1) (dCons (dVar 0) (dCons (dC (.int 8)) dNil)))) dNil)) (gN 26) dYes (dCallR 3 v__law_draw (dCons (dVar 1) (dCons (dVar 0) (dCons (dC (.int 20)) dNil)))) [26])) (gN 11)) d_law_r22)
def d_law_r24 : Ev → M S3 Out :=
  (dSeq (dIfS (dTst (dOp (eqO true) (dCall 4 (pureF v_wear_left) (dCons (dVar 5) (dCons (dVar 4) (dCons (dVar 9) (dCons (dVar 6) dNil))))) (dTup (dCons (dB max2D (dCons (dC (.int 0)) (dCons (dOp subD (dOp idxD (dVar 5) (dC (.int 2))) (dVar 10)) dNil))) (dCons (dB max2D (dCons (dC (.int 0)) (dCons (dOp subD (dOp idxD (dVar 5) (dC (.int 3))) (dOp subD (dVar 6) (dVar 9))) dNil))) dNil))))) (dRet (dC (.bl false))) dNx) d_law_r23)
def d_law_r25 : Ev → M S3 Out :=
  (dSeq (dAsg (dOp subD (dCall 4 (pureF v__law_blasts) (dCons (dVar 2) (dCons (dVar 3) (dCons (dVar 4) (dCons (dVar 6) dNil))))) (dCall 4 (pureF v__law_blasts) (dCons (dVar 2) (dCons (dVar 3) (dCons (dVar 4) (dCons (dVar 9) dNil)))))) (gN 10)) d_law_r24)
def d_law_r26 : Ev → M S3 Out :=
  (dSeq (dAsg (dCallR 3 v__law_draw (dCons (dVar 1) (dCons (dVar 0) (dCons (dOp addD (dVar 6) (dC (.int 1))) dNil)))) (gN 9)) d_law_r25)
def d_law_r27 : Ev → M S3 Out :=
  (dSeq (dIfS (dOr (dTst (dOp (eqO true) (dCall 4 (pureF v_first_day_with) (dCons (dVar 2) (dCons (dVar 3) (dCons (dVar 4) (dCons (dVar 7) dNil))))) (dVar 8))) (dTst (dOp (eqO true) (dCall 3 (pureF v_due_days) (dCons (dVar 5) (dCons (dVar 4) (dCons (dC (.int 5)) dNil)))) (dCall 3 (pureF v__law_dues) (dCons (dVar 5) (dCons (dVar 4) (dCons (dC (.int 5)) dNil))))))) (dRet (dC (.bl false))) dNx) d_law_r26)
def d_law_r28 : Ev → M S3 Out :=
  (dSeq (dWhl (dTst (dOp ltV (dCall 4 (pureF v__law_blasts) (dCons (dVar 2) (dCons (dVar 3) (dCons (dVar 4) (dCons (dVar 8) dNil))))) (dVar 7))) d_law_b1) d_law_r27)
def d_law_r29 : Ev → M S3 Out :=
  (dSeq (dAsg (dC (.int 0)) (gN 8)) d_law_r28)
def d_law_r30 : Ev → M S3 Out :=
  (dSeq (dAsg (dCallR 3 v__law_draw (dCons (dVar 1) (dCons (dVar 0) (dCons (dC (.int 30)) dNil)))) (gN 7)) d_law_r29)
def d_law_r31 : Ev → M S3 Out :=
  (dSeq (dIfS (dTst (dOp (eqO true) (dCall 4 (pureF v_blasts_up_to) (dCons (dVar 2) (dCons (dVar 3) (dCons (dVar 4) (dCons (dVar 6) dNil))))) (dCall 4 (pureF v__law_blasts) (dCons (dVar 2) (dCons (dVar 3) (dCons (dVar 4) (dCons (dVar 6) dNil))))))) (dRet (dC (.bl false))) dNx) d_law_r30)
def d_law_r32 : Ev → M S3 Out :=
  (dSeq (dAsg (dCallR 3 v__law_draw (dCons (dVar 1) (dCons (dVar 0) (dCons (dC (.int 12)) dNil)))) (gN 6)) d_law_r31)
def d_law_r33 : Ev → M S3 Out :=
  (dSeq (dAsg (dTup (dCons (dVar 2) (dCons (dVar 3) (dCons (dOp addD (dC (.int 1)) (dCallR 3 v__law_draw (dCons (dVar 1) (dCons (dVar 0) (dCons (dC (.int 20)) dNil))))) (dCons (dOp addD (dC (.int 1)) (dCallR 3 v__law_draw (dCons (dVar 1) (dCons (dVar 0) (dCons (dC (.int 6)) dNil))))) dNil))))) (gN 5)) d_law_r32)
def d_law_r34 : Ev → M S3 Out :=
  (dSeq (dAsg (dOp addD (dC (.int 1)) (dCallR 3 v__law_draw (dCons (dVar 1) (dCons (dVar 0) (dCons (dC (.int 12)) dNil))))) (gN 4)) d_law_r33)
def d_law_r35 : Ev → M S3 Out :=
  (dSeq (dAsg (dOp addD (dC (.int 1)) (dCallR 3 v__law_draw (dCons (dVar 1) (dCons (dVar 0) (dCons (dVar 2) dNil))))) (gN 3)) d_law_r34)
def d_law : Ev → M S3 Out :=
  (dSeq (dAsg (dOp addD (dC (.int 1)) (dCallR 3 v__law_draw (dCons (dVar 1) (dCons (dVar 0) (dCons (dC (.int 9)) dNil))))) (gN 2)) d_law_r35)
theorem ok_law (T : Tx K mg a d) (ok : ∀ ns : List Int, ∃ st', d_law (lawS 27) (0, 0, ns) = some (.rt (.bl true), st')) : RunAt P w K mg base PySem.callerA (a 18) (d 18) ["script"] (spLaw K) := by
  refine law_atS (k := 3) T.F_law sc_law ⟨rfl, by decide, by decide⟩ (by decide) (s0 := (defBody s_law).headD (.Pass ⟨0, 0, 0, 0⟩)) (rest := (defBody s_law).tail) rfl (fun cdv outer s H E hr => ?_) (fun cdv outer s H E hr => ?_) ok
  · exact ps_set (i := 1) sc_law.nd rfl (by first | exact .inl rfl | exact .inr rfl) (pe_lst (pa_cons pe_int (pa_cons pe_int pa_nil)))
  · exact (qss_cons (qs_set (i := 2) sc_law.nd rfl (by first | exact .inl rfl | exact .inr rfl) (qe_op o_add q_add qe_int (qe_callR (ok__law_draw T) (hr.mono (by decide)) (by rfl) T.g__law_draw T.F__law_draw.kp T.B__law_draw (qa_cons (qe_var (pv 1)) (qa_cons (qe_var (pv 0)) (qa_cons qe_int qa_nil)))))) (qss_cons (qs_set (i := 3) sc_law.nd rfl (by first | exact .inl rfl | exact .inr rfl) (qe_op o_add q_add qe_int (qe_callR (ok__law_draw T) (hr.mono (by decide)) (by rfl) T.g__law_draw T.F__law_draw.kp T.B__law_draw (qa_cons (qe_var (pv 1)) (qa_cons (qe_var (pv 0)) (qa_cons (qe_var (pv 2)) qa_nil)))))) (qss_cons (qs_set (i := 4) sc_law.nd rfl (by first | exact .inl rfl | exact .inr rfl) (qe_op o_add q_add qe_int (qe_callR (ok__law_draw T) (hr.mono (by decide)) (by rfl) T.g__law_draw T.F__law_draw.kp T.B__law_draw (qa_cons (qe_var (pv 1)) (qa_cons (qe_var (pv 0)) (qa_cons qe_int qa_nil)))))) (qss_cons (qs_set (i := 5) sc_law.nd rfl (by first | exact .inl rfl | exact .inr rfl) (qe_tup (qa_cons (qe_var (pv 2)) (qa_cons (qe_var (pv 3)) (qa_cons (qe_op o_add q_add qe_int (qe_callR (ok__law_draw T) (hr.mono (by decide)) (by rfl) T.g__law_draw T.F__law_draw.kp T.B__law_draw (qa_cons (qe_var (pv 1)) (qa_cons (qe_var (pv 0)) (qa_cons qe_int qa_nil))))) (qa_cons (qe_op o_add q_add qe_int (qe_callR (ok__law_draw T) (hr.mono (by decide)) (by rfl) T.g__law_draw T.F__law_draw.kp T.B__law_draw (qa_cons (qe_var (pv 1)) (qa_cons (qe_var (pv 0)) (qa_cons qe_int qa_nil))))) qa_nil)))))) (qss_cons (qs_set (i := 6) sc_law.nd rfl (by first | exact .inl rfl | exact .inr rfl) (qe_callR (ok__law_draw T) (hr.mono (by decide)) (by rfl) T.g__law_draw T.F__law_draw.kp T.B__law_draw (qa_cons (qe_var (pv 1)) (qa_cons (qe_var (pv 0)) (qa_cons qe_int qa_nil))))) (qss_cons (qs_if (qt_cmp (o_ne hr.units) q_ne (qe_call (ok_blasts_up_to T) (hr.mono (by decide)) (by rfl) T.g_blasts_up_to T.F_blasts_up_to.kp T.B_blasts_up_to (qa_cons (qe_var (pv 2)) (qa_cons (qe_var (pv 3)) (qa_cons (qe_var (pv 4)) (qa_cons (qe_var (pv 6)) qa_nil))))) (qe_call (ok__law_blasts T) (hr.mono (by decide)) (by rfl) T.g__law_blasts T.F__law_blasts.kp T.B__law_blasts (qa_cons (qe_var (pv 2)) (qa_cons (qe_var (pv 3)) (qa_cons (qe_var (pv 4)) (qa_cons (qe_var (pv 6)) qa_nil))))) (nomark _)) (qss_one (qs_ret qe_bl)) qss_nil) (qss_cons (qs_set (i := 7) sc_law.nd rfl (by first | exact .inl rfl | exact .inr rfl) (qe_callR (ok__law_draw T) (hr.mono (by decide)) (by rfl) T.g__law_draw T.F__law_draw.kp T.B__law_draw (qa_cons (qe_var (pv 1)) (qa_cons (qe_var (pv 0)) (qa_cons qe_int qa_nil))))) (qss_cons (qs_set (i := 8) sc_law.nd rfl (by first | exact .inl rfl | exact .inr rfl) qe_int) (qss_cons (qs_while PassesOwn.never (qt_cmp (op_ltV (hu70 hr)) q_ltV (qe_call (ok__law_blasts T) (hr.mono (by decide)) (by rfl) T.g__law_blasts T.F__law_blasts.kp T.B__law_blasts (qa_cons (qe_var (pv 2)) (qa_cons (qe_var (pv 3)) (qa_cons (qe_var (pv 4)) (qa_cons (qe_var (pv 8)) qa_nil))))) (qe_var (pv 7)) (nomark _)) (qss_one (qs_set (i := 8) sc_law.nd rfl (by first | exact .inl rfl | exact .inr rfl) (qe_op o_add q_add (qe_var (pv 8)) qe_int)))) (qss_cons (qs_if (qt_w (qw_or (qt_cmp (o_ne hr.units) q_ne (qe_call (ok_first_day_with T) (hr.mono (by decide)) (by rfl) T.g_first_day_with T.F_first_day_with.kp T.B_first_day_with (qa_cons (qe_var (pv 2)) (qa_cons (qe_var (pv 3)) (qa_cons (qe_var (pv 4)) (qa_cons (qe_var (pv 7)) qa_nil))))) (qe_var (pv 8)) (nomark _)) (qw_or1 (qt_cmp (o_ne hr.units) q_ne (qe_call (ok_due_days T) (hr.mono (by decide)) (by rfl) T.g_due_days T.F_due_days.kp T.B_due_days (qa_cons (qe_var (pv 5)) (qa_cons (qe_var (pv 4)) (qa_cons qe_int qa_nil)))) (qe_call (ok__law_dues T) (hr.mono (by decide)) (by rfl) T.g__law_dues T.F__law_dues.kp T.B__law_dues (qa_cons (qe_var (pv 5)) (qa_cons (qe_var (pv 4)) (qa_cons qe_int qa_nil)))) (nomark _))))) (qss_one (qs_ret qe_bl)) qss_nil) (qss_cons (qs_set (i := 9) sc_law.nd rfl (by first | exact .inl rfl | exact .inr rfl) (qe_callR (ok__law_draw T) (hr.mono (by decide)) (by rfl) T.g__law_draw T.F__law_draw.kp T.B__law_draw (qa_cons (qe_var (pv 1)) (qa_cons (qe_var (pv 0)) (qa_cons (qe_op o_add q_add (qe_var (pv 6)) qe_int) qa_nil))))) (qss_cons (qs_set (i := 10) sc_law.nd rfl (by first | exact .inl rfl | exact .inr rfl) (qe_op op_sub q_sub (qe_call (ok__law_blasts T) (hr.mono (by decide)) (by rfl) T.g__law_blasts T.F__law_blasts.kp T.B__law_blasts (qa_cons (qe_var (pv 2)) (qa_cons (qe_var (pv 3)) (qa_cons (qe_var (pv 4)) (qa_cons (qe_var (pv 6)) qa_nil))))) (qe_call (ok__law_blasts T) (hr.mono (by decide)) (by rfl) T.g__law_blasts T.F__law_blasts.kp T.B__law_blasts (qa_cons (qe_var (pv 2)) (qa_cons (qe_var (pv 3)) (qa_cons (qe_var (pv 4)) (qa_cons (qe_var (pv 9)) qa_nil))))))) (qss_cons (qs_if (qt_cmp (o_ne hr.units) q_ne (qe_call (ok_wear_left T) (hr.mono (by decide)) (by rfl) T.g_wear_left T.F_wear_left.kp T.B_wear_left (qa_cons (qe_var (pv 5)) (qa_cons (qe_var (pv 4)) (qa_cons (qe_var (pv 9)) (qa_cons (qe_var (pv 6)) qa_nil))))) (qe_tup (qa_cons (qe_B (call_max2 rfl) q_max2 (by rfl) T.b_max (by decide +kernel) (qa_cons qe_int (qa_cons (qe_op op_sub q_sub (qe_ix ix_seq q_idx (qe_var (pv 5)) qe_int (fun _ _ => rfl)) (qe_var (pv 10))) qa_nil))) (qa_cons (qe_B (call_max2 rfl) q_max2 (by rfl) T.b_max (by decide +kernel) (qa_cons qe_int (qa_cons (qe_op op_sub q_sub (qe_ix ix_seq q_idx (qe_var (pv 5)) qe_int (fun _ _ => rfl)) (qe_op op_sub q_sub (qe_var (pv 6)) (qe_var (pv 9)))) qa_nil))) qa_nil))) (nomark _)) (qss_one (qs_ret qe_bl)) qss_nil) (qss_cons (qs_set (i := 11) sc_law.nd rfl (by first | exact .inl rfl | exact .inr rfl) (qe_fz (qn_lc (own := [("_", 26)]) rfl sc_law.nd (qi_rng1 (by rfl) T.b_range (qa_cons (qe_callR (ok__law_draw T) (hr.mono (by decide)) (by rfl) T.g__law_draw T.F__law_draw.kp T.B__law_draw (qa_cons (qe_var (pv 1)) (qa_cons (qe_var (pv 0)) (qa_cons qe_int qa_nil)))) qa_nil)) (blkOk_by (own := [("_", 26)]) (N := ["script", "state", "turn", "blasts", "day_length", "horn", "day", "count", "first", "last", "worn", "dues", "early", "kept", "told", "least", "every", "rows", "due", "bents", "bent", "apart", "k", "most", "best", "one", "_"]) (sc := (defScope s_law)) (by decide +kernel)) (fun _ _ _ _ _ => (qg_name (pg_name (i := 26) sc_law.nd rfl (by first | exact .inl rfl | exact .inr rfl)))) gok_N (fun _ _ _ _ _ => qts_nil) (fun _ _ _ _ _ => (qe_callR (ok__law_draw T) (hr.mono (by decide)) (by rfl) T.g__law_draw T.F__law_draw.kp T.B__law_draw (qa_cons (qe_var (pv 1)) (qa_cons (qe_var (pv 0)) (qa_cons qe_int qa_nil)))))))) (qss_cons (qs_set (i := 12) sc_law.nd rfl (by first | exact .inl rfl | exact .inr rfl) (qe_callR (ok__law_draw T) (hr.mono (by decide)) (by rfl) T.g__law_draw T.F__law_draw.kp T.B__law_draw (qa_cons (qe_var (pv 1)) (qa_cons (qe_var (pv 0)) (qa_cons qe_int qa_nil))))) (qss_cons (qs_set (i := 13) sc_law.nd rfl (by first | exact .inl rfl | exact .inr rfl) (qe_B (c_repr2 rfl (hu70 hr)) q_repr2 (by rfl) T.b_repr (by decide +kernel) (qa_cons (qe_var (pv 11)) qa_nil))) (qss_cons (qs_set (i := 14) sc_law.nd rfl (by first | exact .inl rfl | exact .inr rfl) (qe_call (ok_trips T) (hr.mono (by decide)) (by rfl) T.g_trips T.F_trips.kp T.B_trips (qa_cons (qe_var (pv 11)) (qa_cons (qe_var (pv 12)) qa_nil)))) (qss_cons (qs_set (i := 15) sc_law.nd rfl (by first | exact .inl rfl | exact .inr rfl) (qe_call (ok__law_least T) (hr.mono (by decide)) (by rfl) T.g__law_least T.F__law_least.kp T.B__law_least (qa_cons (qe_var (pv 11)) (qa_cons (qe_var (pv 12)) qa_nil)))) (qss_cons (qs_if (qt_w (qw_or (qt_cmp (o_ne hr.units) q_ne (qe_B c_len q_len (by rfl) T.b_len (by decide +kernel) (qa_cons (qe_ix ix_seq q_idx (qe_var (pv 14)) qe_int (fun _ _ => rfl)) qa_nil)) (qe_var (pv 15)) (nomark _)) (qw_or (qt_cmp op_notN q_notN (qe_call (ok__law_fault T) (hr.mono (by decide)) (by rfl) T.g__law_fault T.F__law_fault.kp T.B__law_fault (qa_cons (qe_var (pv 11)) (qa_cons (qe_var (pv 12)) (qa_cons (qe_var (pv 14)) qa_nil)))) qe_non (nomark _)) (qw_or1 (qt_cmp op_notN q_notN (qe_call (ok_trips_fault T) (hr.mono (by decide)) (by rfl) T.g_trips_fault T.F_trips_fault.kp T.B_trips_fault (qa_cons (qe_var (pv 11)) (qa_cons (qe_var (pv 12)) (qa_cons (qe_var (pv 14)) qa_nil)))) qe_non (nomark _)))))) (qss_one (qs_ret qe_bl)) qss_nil) (qss_cons (qs_set (i := 16) sc_law.nd rfl (by first | exact .inl rfl | exact .inr rfl) (qe_fz (qn_sortSet rfl (by rfl) T.b_sorted (by rfl) T.b_set (qa_cons (qe_var (pv 11)) qa_nil)))) (qss_cons (qs_setO (i := 17) sc_law.nd rfl (by first | exact .inl rfl | exact .inr rfl) (qn_lst qa_nil)) (qss_cons (qs_for (vs := [18]) PassesOwn.never rfl (qi_seq (qe_fz (qn_B (c_sortG (hu70 hr)) q_sortG (by rfl) T.b_sorted (by decide +kernel) (qa_cons (qe_var (pv 11)) qa_nil)))) (qg_name (pg_name (i := 18) sc_law.nd rfl (by first | exact .inl rfl | exact .inr rfl))) (qss_one (qs_app (i := 17) (pv 17) (qe_ix ix_seq q_idx (qe_fz (qn_lc (own := [("one", 25)]) rfl sc_law.nd (qi_seq (qe_var (pv 16))) (blkOk_by (own := [("one", 25)]) (N := ["script", "state", "turn", "blasts", "day_length", "horn", "day", "count", "first", "last", "worn", "dues", "early", "kept", "told", "least", "every", "rows", "due", "bents", "bent", "apart", "k", "most", "best", "one", "_"]) (sc := (defScope s_law)) (by decide +kernel)) (fun _ _ _ _ _ => (qg_name (pg_name (i := 25) sc_law.nd rfl (by first | exact .inl rfl | exact .inr rfl)))) gok_N (fun _ _ _ _ _ => (qts_one (qt_chn (op_leV (hu70 hr)) (op_leV (hu70 hr)) q_leV q_leV (qe_op op_sub q_sub (qe_var (pv 18)) (qe_var (pv 12))) (qe_var (pv 25)) (qe_var (pv 18))))) (fun _ _ _ _ _ => (qe_var (pv 25))))) qe_int (fun _ _ => rfl)) (fun h => pe_bm PySem.F.plainAttrs_list PySem.F.slot_list_append PySem.F.type_list_append mt_append (pv 17) h)))) (qss_cons (qs_frz 17 (qs_set (i := 19) sc_law.nd rfl (by first | exact .inl rfl | exact .inr rfl) (qe_fz (qn_lst (qa_cons (qe_tup (qa_cons (qe_var (pv 16)) (qa_cons (qe_var (pv 17)) qa_nil))) (qa_cons (qe_tup (qa_cons (qe_var (pv 16)) (qa_cons (qe_fz (qn_B (c_sortG (hu70 hr)) q_sortG (by rfl) T.b_sorted (by decide +kernel) (qa_cons (qe_var (pv 11)) qa_nil))) qa_nil))) (qa_cons (qe_tup (qa_cons (qe_slA (qe_ix ix_seq q_idx (qe_var (pv 14)) qe_int (fun _ _ => rfl)) (qo_some qe_int) qo_none) (qa_cons (qe_ix ix_seq q_idx (qe_var (pv 14)) qe_int (fun _ _ => rfl)) qa_nil))) (qa_cons (qe_tup (qa_cons (qe_ix ix_seq q_idx (qe_var (pv 14)) qe_int (fun _ _ => rfl)) (qa_cons (qe_slA (qe_ix ix_seq q_idx (qe_var (pv 14)) qe_int (fun _ _ => rfl)) (qo_some qe_int) qo_none) qa_nil))) (qa_cons (qe_tup (qa_cons (qe_ix ix_seq q_idx (qe_var (pv 14)) qe_int (fun _ _ => rfl)) (qa_cons (qe_fz (qn_lc (own := [("one", 25)]) rfl sc_law.nd (qi_seq (qe_ix ix_seq q_idx (qe_var (pv 14)) qe_int (fun _ _ => rfl))) (blkOk_by (own := [("one", 25)]) (N := ["script", "state", "turn", "blasts", "day_length", "horn", "day", "count", "first", "last", "worn", "dues", "early", "kept", "told", "least", "every", "rows", "due", "bents", "bent", "apart", "k", "most", "best", "one", "_"]) (sc := (defScope s_law)) (by decide +kernel)) (fun _ _ _ _ _ => (qg_name (pg_name (i := 25) sc_law.nd rfl (by first | exact .inl rfl | exact .inr rfl)))) gok_N (fun _ _ _ _ _ => qts_nil) (fun _ _ _ _ _ => (qe_op o_add q_add (qe_var (pv 25)) qe_int)))) qa_nil))) (qa_cons (qe_tup (qa_cons (qe_fz (qn_rev (qe_ix ix_seq q_idx (qe_var (pv 14)) qe_int (fun _ _ => rfl)))) (qa_cons (qe_ix ix_seq q_idx (qe_var (pv 14)) qe_int (fun _ _ => rfl)) qa_nil))) (qa_cons (qe_tup (qa_cons (qe_op o_add q_add (qe_ix ix_seq q_idx (qe_var (pv 14)) qe_int (fun _ _ => rfl)) (qe_fz (qn_lst (qa_cons qe_int qa_nil)))) (qa_cons (qe_ix ix_seq q_idx (qe_var (pv 14)) qe_int (fun _ _ => rfl)) qa_nil))) qa_nil))))))))))) (qss_cons (qs_for (vs := [20]) PassesOwn.never rfl (qi_seq (qe_var (pv 19))) (qg_name (pg_name (i := 20) sc_law.nd rfl (by first | exact .inl rfl | exact .inr rfl))) (qss_one (qs_if (qt_cmp (o_ne hr.units) q_ne (qe_B (c_repr2 rfl (hu70 hr)) q_repr2 (by rfl) T.b_repr (by decide +kernel) (qa_cons (qe_call (ok_trips_fault T) (hr.mono (by decide)) (by rfl) T.g_trips_fault T.F_trips_fault.kp T.B_trips_fault (qa_cons (qe_var (pv 11)) (qa_cons (qe_var (pv 12)) (qa_cons (qe_var (pv 20)) qa_nil)))) qa_nil)) (qe_B (c_repr2 rfl (hu70 hr)) q_repr2 (by rfl) T.b_repr (by decide +kernel) (qa_cons (qe_call (ok__law_fault T) (hr.mono (by decide)) (by rfl) T.g__law_fault T.F__law_fault.kp T.B__law_fault (qa_cons (qe_var (pv 11)) (qa_cons (qe_var (pv 12)) (qa_cons (qe_var (pv 20)) qa_nil)))) qa_nil)) (nomark _)) (qss_one (qs_ret qe_bl)) qss_nil))) (qss_cons (qs_set (i := 21) sc_law.nd rfl (by first | exact .inl rfl | exact .inr rfl) (qe_call (ok_far_apart T) (hr.mono (by decide)) (by rfl) T.g_far_apart T.F_far_apart.kp T.B_far_apart (qa_cons (qe_var (pv 11)) (qa_cons (qe_var (pv 12)) qa_nil)))) (qss_cons (qs_if (qt_w (qw_or (qt_cmp (o_ne hr.units) q_ne (qe_B c_len q_len (by rfl) T.b_len (by decide +kernel) (qa_cons (qe_var (pv 21)) qa_nil)) (qe_var (pv 15)) (nomark _)) (qw_or (qt_cmp (o_ne hr.units) q_ne (qe_slA (qe_var (pv 21)) qo_none (qo_some qe_int)) (qe_slA (qe_fz (qn_B (c_sortG (hu70 hr)) q_sortG (by rfl) T.b_sorted (by decide +kernel) (qa_cons (qe_var (pv 11)) qa_nil))) qo_none (qo_some qe_int)) (nomark _)) (qw_or1 (qt_cmp (op_gtV (hu70 hr)) q_gtV (qe_B c_len q_len (by rfl) T.b_len (by decide +kernel) (qa_cons (qe_fz (qn_lc (own := [("due", 18)]) rfl sc_law.nd (qi_seq (qe_var (pv 21))) (blkOk_by (own := [("due", 18)]) (N := ["script", "state", "turn", "blasts", "day_length", "horn", "day", "count", "first", "last", "worn", "dues", "early", "kept", "told", "least", "every", "rows", "due", "bents", "bent", "apart", "k", "most", "best", "one", "_"]) (sc := (defScope s_law)) (by decide +kernel)) (fun _ _ _ _ _ => (qg_name (pg_name (i := 18) sc_law.nd rfl (by first | exact .inl rfl | exact .inr rfl)))) gok_N (fun _ _ _ _ _ => (qts_one (qt_cmp (op_notInD (hu65 hr)) q_notIn (qe_var (pv 18)) (qe_var (pv 11)) (by rfl)))) (fun _ _ _ _ _ => (qe_var (pv 18))))) qa_nil)) qe_int (nomark _)))))) (qss_one (qs_ret qe_bl)) qss_nil) (qss_cons (qs_for (vs := [22]) PassesOwn.never rfl (qi_rng2 (by rfl) T.b_range (qa_cons qe_int (qa_cons (qe_B c_len q_len (by rfl) T.b_len (by decide +kernel) (qa_cons (qe_var (pv 21)) qa_nil)) qa_nil))) (qg_name (pg_name (i := 22) sc_law.nd rfl (by first | exact .inl rfl | exact .inr rfl))) (qss_one (qs_if (qt_cmp (o_ne hr.units) q_ne (qe_ix ix_seq q_idx (qe_var (pv 21)) (qe_var (pv 22)) (fun _ _ => rfl)) (qe_B (c_min rfl (hu70 hr)) q_minG (by rfl) T.b_min (by decide +kernel) (qa_cons (qe_fz (qn_lc (own := [("due", 18)]) rfl sc_law.nd (qi_seq (qe_var (pv 11))) (blkOk_by (own := [("due", 18)]) (N := ["script", "state", "turn", "blasts", "day_length", "horn", "day", "count", "first", "last", "worn", "dues", "early", "kept", "told", "least", "every", "rows", "due", "bents", "bent", "apart", "k", "most", "best", "one", "_"]) (sc := (defScope s_law)) (by decide +kernel)) (fun _ _ _ _ _ => (qg_name (pg_name (i := 18) sc_law.nd rfl (by first | exact .inl rfl | exact .inr rfl)))) gok_N (fun _ _ _ _ _ => (qts_one (qt_cmp (op_gtV (hu70 hr)) q_gtV (qe_var (pv 18)) (qe_op o_add q_add (qe_ix ix_seq q_idx (qe_var (pv 21)) (qe_op op_sub q_sub (qe_var (pv 22)) qe_int) (fun _ _ => rfl)) (qe_var (pv 12))) (nomark _)))) (fun _ _ _ _ _ => (qe_var (pv 18))))) qa_nil)) (nomark _)) (qss_one (qs_ret qe_bl)) qss_nil))) (qss_cons (qs_set (i := 23) sc_law.nd rfl (by first | exact .inl rfl | exact .inr rfl) (qe_callR (ok__law_draw T) (hr.mono (by decide)) (by rfl) T.g__law_draw T.F__law_draw.kp T.B__law_draw (qa_cons (qe_var (pv 1)) (qa_cons (qe_var (pv 0)) (qa_cons qe_int qa_nil))))) (qss_cons (qs_set (i := 24) sc_law.nd rfl (by first | exact .inl rfl | exact .inr rfl) qe_non) (qss_cons (qs_for (vs := [25]) PassesOwn.never rfl (qi_rng3 (by rfl) T.b_range (qa_cons qe_int (qa_cons (qe_un un_neg q_neg qe_int) (qa_cons (qe_un un_neg q_neg qe_int) qa_nil))) (fun h => pi_range3 (by rfl) T.b_range h)) (qg_name (pg_name (i := 25) sc_law.nd rfl (by first | exact .inl rfl | exact .inr rfl))) (qss_one (qs_if (qt_cmp (op_leV (hu70 hr)) q_leV (qe_call (ok__law_least T) (hr.mono (by decide)) (by rfl) T.g__law_least T.F__law_least.kp T.B__law_least (qa_cons (qe_var (pv 11)) (qa_cons (qe_var (pv 25)) qa_nil))) (qe_var (pv 23)) (nomark _)) (qss_one (qs_set (i := 24) sc_law.nd rfl (by first | exact .inl rfl | exact .inr rfl) (qe_var (pv 25)))) qss_nil))) (qss_one (qs_ret (qe_and (qe_cmp (o_eq hr.units) q_eq (qe_B (c_repr2 rfl (hu70 hr)) q_repr2 (by rfl) T.b_repr (by decide +kernel) (qa_cons (qe_call (ok_least_early T) (hr.mono (by decide)) (by rfl) T.g_least_early T.F_least_early.kp T.B_least_early (qa_cons (qe_var (pv 11)) (qa_cons (qe_var (pv 23)) qa_nil))) qa_nil)) (qe_B (c_repr2 rfl (hu70 hr)) q_repr2 (by rfl) T.b_repr (by decide +kernel) (qa_cons (qe_var (pv 24)) qa_nil)) (nomark _)) (qe_one (qe_cmp (o_eq hr.units) q_eq (qe_B (c_repr2 rfl (hu70 hr)) q_repr2 (by rfl) T.b_repr (by decide +kernel) (qa_cons (qe_var (pv 11)) qa_nil)) (qe_var (pv 13)) (nomark _))))))))))))))))))))))))))))))))))))
end
end K_k44
end
section
set_option Elab.async false
set_option linter.all false
set_option maxRecDepth 100000
set_option maxHeartbeats 4000000
open QL
local macro_rules | `(tactic| walk_at "ev") => `(tactic| simp only [QL.optP_some, QL.optP_none, QL.optP_ite, ↓QL.wp_some, ↓QL.wp_none, ↓QL.wp_mr, ↓QL.wp_ml, ↓QL.wp_mb, QL.LIM_eq, QL.strip_int', QL.strip_bl, QL.strip_str', QL.strip_non, QL.strip_hd, QL.strip_lst, QL.strip_tup, QL.strip_brw, QL.plain_int, QL.plain_bl, QL.plain_str, QL.plain_non, QL.plain_hd, QL.plain_lst, QL.plain_tup, QL.plain_brw, QL.plO_eq, QL.scal0_int, QL.scal0_bl, QL.scal0_non, QL.addD_int, QL.subD_int, QL.mulD_int, QL.small64_eq, QL.fdivD_int, QL.modD_int, QL.negD_int, QL.ltD_int, QL.leD_int, QL.gtD_int, QL.geD_int, QL.isND_non, QL.isND_int, QL.isND_bl, QL.isND_str, QL.isND_tup, QL.isND_lst, QL.str2_str, QL.eqO_str, QL.eqO_int, QL.eqO_bl, QL.idxD_lst, QL.idxD_tup, QL.idxD_brw, QL.atI_zero, QL.atI_one, QL.atI_two, QL.atI_three, QL.atI_four, QL.atI_five, QL.addD_tup, QL.truD_bl, QL.truD_int, QL.truD_non, QL.truD_lst, QL.truD_tup, QL.rds_val, QL.rds_own, QL.rds_non, QL.rds_deep, ↓QL.wp_dVar, ↓QL.wp_dC, ↓QL.wp_dOp, ↓QL.wp_dU, ↓QL.wp_dNil, ↓QL.wp_dCons, ↓QL.wp_dTup, ↓QL.wp_dPl, ↓QL.wp_dFz, QL.blO_bl, ↓QL.wp_dTst, ↓QL.wp_dTru, ↓QL.wp_dAnd, ↓QL.wp_dOr, ↓QL.wp_dNot, ↓QL.wp_dAndV, ↓QL.wp_dOrV, ↓QL.wp_dNotV, ↓QL.wp_dIf, ↓QL.wp_dChn, ↓QL.wp_dCall, ↓QL.wp_dCallR, ↓QL.wp_dB, ↓QL.wp_dBN, QL.lenD_lst, QL.lenD_tup, QL.lenD_brw, QL.absD_int, QL.intD_int, QL.intD_bl, QL.max2D_int, QL.min2D_int, QL.lst1_lst, QL.lst1_brw, QL.listD_lst, QL.listD_tup, QL.listD_brw, ↓QL.wp_dIS, QL.seqO_lst, QL.seqO_tup, ↓QL.wp_dIR, QL.optP_rng1, QL.optP_rng2, QL.enuD_lst, QL.zipD_lst, ↓QL.wp_dNoP, QL.intO_int, ↓QL.wp_dPrt, QL.optP_lrg, ↓QL.wp_dLrg1, QL.sortD_lst, QL.sortD_brw, QL.slA_lst, QL.slA_brw, QL.slA_tup, ↓QL.wp_dSlA, QL.slO_lst, QL.slO_brw, ↓QL.wp_dSl, QL.seqP_nx, QL.seqP_rt, QL.seqP_bk, QL.seqP_ct, ↓QL.wp_dSeq, ↓QL.wp_dNx, ↓QL.wp_dPass, ↓QL.wp_dBrk, ↓QL.wp_dCnt, ↓QL.wp_dRetN, ↓QL.wp_dRet, ↓QL.wp_dExpr, ↓QL.wp_dIfS, ↓QL.wp_dAsg, QL.gN_eq, QL.gNil_nil, QL.gCons_cons, QL.gTp_tup, ↓QL.wp_dSetO, ↓QL.wp_dSetF, ↓QL.wp_dParNN, ↓QL.wp_dParNE, ↓QL.wp_dParEN, QL.parO_two, ↓QL.wp_dPar, QL.ownS_own, ↓QL.wp_dApp, ↓QL.wp_dStI, ↓QL.wp_dExt, QL.lstO_lst, ↓QL.wp_dFrz, QL.frzS_own, QL.frzS_val, QL.frzS_non, QL.frz_zero, QL.frz_succ, ↓QL.wp_dNEN, ↓QL.wp_dEEN, ↓QL.wp_dENE, ↓QL.wp_dCat, QL.catO_ll, QL.catO_bl, QL.catO_lb, QL.catO_bb, ↓QL.wp_dFor, ↓QL.wp_lcl_nil, ↓QL.wp_lcl_cons, QL.rngL_length, QL.rE_zero, ↓QL.wp_dLc, QL.notOwn_val, QL.notOwn_non, QL.notOwn_own, QL.notOwn_deep, QL.notOwn_jk, ↓QL.wp_lc1, ↓QL.wp_dYes, QL.fit_int, QL.fit_bl, QL.fit_non, QL.fit_lst, QL.fit_tup, QL.ex_and_eq, ↓QL.wp_dIdx, ↓QL.wp_dRev, QL.revO_lst, QL.revO_brw, QL.tupleD_lst, QL.tupleD_brw, QL.tupleD_tup, QL.sortSetD_lst, QL.sortG_brw, QL.maxG_brw, QL.minG_brw, QL.ltV_int, QL.leV_int, QL.gtV_int, QL.geV_int, QL.okE_int, QL.okE_non, QL.okE_lst, QL.okE_tup, QL.eqO_brwR, QL.eqO_brwL, ↓QL.wp_forl_nil, ↓QL.wp_forl_cons, QL.forP_nx, QL.forP_ct, QL.forP_bk, QL.forP_rt, QL.eqO_non_int, QL.eqO_int_non, QL.eqO_non_non, QL.eqO_non_tup, QL.eqO_tup_non, QL.startE, List.map_cons, List.map_nil, List.isEmpty_cons, List.isEmpty_nil, List.append_nil, List.nil_append, List.cons_append, List.length_cons, List.length_nil, Nat.reduceAdd, Nat.reduceSub, Nat.reduceLeDiff, Nat.reduceLT, Nat.reduceMul, Nat.reduceEqDiff, List.replicate_succ, List.replicate_zero, List.getElem?_cons_zero, List.getElem?_cons_succ, List.set_cons_zero, List.set_cons_succ, Option.bind_some, Option.bind_none, Option.some.injEq, QL.D.bl.injEq, QL.D.int.injEq, QL.D.str.injEq, QL.D.lst.injEq, QL.D.tup.injEq, QL.Out.nx.injEq, QL.Out.rt.injEq, QL.Slot.val.injEq, QL.Slot.own.injEq, List.cons.injEq, exists_eq_left, exists_eq_left', exists_eq_right, exists_eq_right', exists_eq, exists_eq', exists_and_left, exists_and_right, decide_eq_true_eq, decide_eq_false_iff_not, Bool.not_true, Bool.not_false, Bool.false_xor, Bool.true_xor, Bool.xor_true, Bool.xor_false, Bool.and_true, Bool.true_and, Bool.and_self, Bool.or_true, Bool.true_or, Bool.or_self, Bool.or_false, Bool.false_or, List.all_cons, List.all_nil, true_and, and_true, and_self, true_or, or_true, if_true, if_false, Bool.not_eq_true', not_false_eq_true, not_true_eq_false, Bool.false_eq_true, Bool.true_eq_false, reduceCtorEq, and_false, false_and, QL.ex_ite, QL.wipeE, QL.noOwn_eq, Option.toList, Int.reduceNeg, Int.reduceToNat, Int.reduceLT, Int.reduceLE, Int.reduceSub, Int.reduceAdd, Int.reduceMul, Int.toNat_zero, Int.cast_ofNat_Int, Int.reduceEq, ite_self, Option.ite_none_right_eq_some])
local macro_rules | `(tactic| walk_at "e") => `(tactic| try simp only [QL.optP_some, QL.optP_none, QL.optP_ite, ↓QL.wp_some, ↓QL.wp_none, ↓QL.wp_mr, ↓QL.wp_ml, ↓QL.wp_mb, QL.LIM_eq, QL.strip_int', QL.strip_bl, QL.strip_str', QL.strip_non, QL.strip_hd, QL.strip_lst, QL.strip_tup, QL.strip_brw, QL.plain_int, QL.plain_bl, QL.plain_str, QL.plain_non, QL.plain_hd, QL.plain_lst, QL.plain_tup, QL.plain_brw, QL.plO_eq, QL.scal0_int, QL.scal0_bl, QL.scal0_non, QL.addD_int, QL.subD_int, QL.mulD_int, QL.small64_eq, QL.fdivD_int, QL.modD_int, QL.negD_int, QL.ltD_int, QL.leD_int, QL.gtD_int, QL.geD_int, QL.isND_non, QL.isND_int, QL.isND_bl, QL.isND_str, QL.isND_tup, QL.isND_lst, QL.str2_str, QL.eqO_str, QL.eqO_int, QL.eqO_bl, QL.idxD_lst, QL.idxD_tup, QL.idxD_brw, QL.atI_zero, QL.atI_one, QL.atI_two, QL.atI_three, QL.atI_four, QL.atI_five, QL.addD_tup, QL.truD_bl, QL.truD_int, QL.truD_non, QL.truD_lst, QL.truD_tup, QL.rds_val, QL.rds_own, QL.rds_non, QL.rds_deep, ↓QL.wp_dVar, ↓QL.wp_dC, ↓QL.wp_dOp, ↓QL.wp_dU, ↓QL.wp_dNil, ↓QL.wp_dCons, ↓QL.wp_dTup, ↓QL.wp_dPl, ↓QL.wp_dFz, QL.blO_bl, ↓QL.wp_dTst, ↓QL.wp_dTru, ↓QL.wp_dAnd, ↓QL.wp_dOr, ↓QL.wp_dNot, ↓QL.wp_dAndV, ↓QL.wp_dOrV, ↓QL.wp_dNotV, ↓QL.wp_dIf, ↓QL.wp_dChn, ↓QL.wp_dCall, ↓QL.wp_dCallR, ↓QL.wp_dB, ↓QL.wp_dBN, QL.lenD_lst, QL.lenD_tup, QL.lenD_brw, QL.absD_int, QL.intD_int, QL.intD_bl, QL.max2D_int, QL.min2D_int, QL.lst1_lst, QL.lst1_brw, QL.listD_lst, QL.listD_tup, QL.listD_brw, ↓QL.wp_dIS, QL.seqO_lst, QL.seqO_tup, ↓QL.wp_dIR, QL.optP_rng1, QL.optP_rng2, QL.enuD_lst, QL.zipD_lst, ↓QL.wp_dNoP, QL.intO_int, ↓QL.wp_dPrt, QL.optP_lrg, ↓QL.wp_dLrg1, QL.sortD_lst, QL.sortD_brw, QL.slA_lst, QL.slA_brw, QL.slA_tup, ↓QL.wp_dSlA, QL.slO_lst, QL.slO_brw, ↓QL.wp_dSl, QL.seqP_nx, QL.seqP_rt, QL.seqP_bk, QL.seqP_ct, ↓QL.wp_dSeq, ↓QL.wp_dNx, ↓QL.wp_dPass, ↓QL.wp_dBrk, ↓QL.wp_dCnt, ↓QL.wp_dRetN, ↓QL.wp_dRet, ↓QL.wp_dExpr, ↓QL.wp_dIfS, ↓QL.wp_dAsg, QL.gN_eq, QL.gNil_nil, QL.gCons_cons, QL.gTp_tup, ↓QL.wp_dSetO, ↓QL.wp_dSetF, ↓QL.wp_dParNN, ↓QL.wp_dParNE, ↓QL.wp_dParEN, QL.parO_two, ↓QL.wp_dPar, QL.ownS_own, ↓QL.wp_dApp, ↓QL.wp_dStI, ↓QL.wp_dExt, QL.lstO_lst, ↓QL.wp_dFrz, QL.frzS_own, QL.frzS_val, QL.frzS_non, QL.frz_zero, QL.frz_succ, ↓QL.wp_dNEN, ↓QL.wp_dEEN, ↓QL.wp_dENE, ↓QL.wp_dCat, QL.catO_ll, QL.catO_bl, QL.catO_lb, QL.catO_bb, ↓QL.wp_dFor, ↓QL.wp_lcl_nil, ↓QL.wp_lcl_cons, QL.rngL_length, QL.rE_zero, ↓QL.wp_dLc, QL.notOwn_val, QL.notOwn_non, QL.notOwn_own, QL.notOwn_deep, QL.notOwn_jk, ↓QL.wp_lc1, ↓QL.wp_dYes, QL.fit_int, QL.fit_bl, QL.fit_non, QL.fit_lst, QL.fit_tup, QL.ex_and_eq, ↓QL.wp_dIdx, ↓QL.wp_dRev, QL.revO_lst, QL.revO_brw, QL.tupleD_lst, QL.tupleD_brw, QL.tupleD_tup, QL.sortSetD_lst, QL.sortG_brw, QL.maxG_brw, QL.minG_brw, QL.ltV_int, QL.leV_int, QL.gtV_int, QL.geV_int, QL.okE_int, QL.okE_non, QL.okE_lst, QL.okE_tup, QL.eqO_brwR, QL.eqO_brwL, ↓QL.wp_forl_nil, ↓QL.wp_forl_cons, QL.forP_nx, QL.forP_ct, QL.forP_bk, QL.forP_rt, QL.eqO_non_int, QL.eqO_int_non, QL.eqO_non_non, QL.eqO_non_tup, QL.eqO_tup_non, QL.startE, List.map_cons, List.map_nil, List.isEmpty_cons, List.isEmpty_nil, List.append_nil, List.nil_append, List.cons_append, List.length_cons, List.length_nil, Nat.reduceAdd, Nat.reduceSub, Nat.reduceLeDiff, Nat.reduceLT, Nat.reduceMul, Nat.reduceEqDiff, List.replicate_succ, List.replicate_zero, List.getElem?_cons_zero, List.getElem?_cons_succ, List.set_cons_zero, List.set_cons_succ, Option.bind_some, Option.bind_none, Option.some.injEq, QL.D.bl.injEq, QL.D.int.injEq, QL.D.str.injEq, QL.D.lst.injEq, QL.D.tup.injEq, QL.Out.nx.injEq, QL.Out.rt.injEq, QL.Slot.val.injEq, QL.Slot.own.injEq, List.cons.injEq, exists_eq_left, exists_eq_left', exists_eq_right, exists_eq_right', exists_eq, exists_eq', exists_and_left, exists_and_right, decide_eq_true_eq, decide_eq_false_iff_not, Bool.not_true, Bool.not_false, Bool.false_xor, Bool.true_xor, Bool.xor_true, Bool.xor_false, Bool.and_true, Bool.true_and, Bool.and_self, Bool.or_true, Bool.true_or, Bool.or_self, Bool.or_false, Bool.false_or, List.all_cons, List.all_nil, true_and, and_true, and_self, true_or, or_true, if_true, if_false, Bool.not_eq_true', not_false_eq_true, not_true_eq_false, Bool.false_eq_true, Bool.true_eq_false, reduceCtorEq, and_false, false_and, QL.ex_ite, QL.wipeE, QL.noOwn_eq, Option.toList, Int.reduceNeg, Int.reduceToNat, Int.reduceLT, Int.reduceLE, Int.reduceSub, Int.reduceAdd, Int.reduceMul, Int.toNat_zero, Int.cast_ofNat_Int, Int.reduceEq, ite_self, Option.ite_none_right_eq_some])
namespace K_k44
theorem rE_int (i : Nat) : rE 0 i = .int (i : Int) := by simp [rE]
/-! blasts counted -/
def cntF (t b : Nat) : Nat → Nat
  | 0 => 0
  | n + 1 => cntF t b n + (if n % t < b then 1 else 0)
theorem cnt_len (t b : Nat) : ∀ n, ((List.range n).filter fun k => decide (k % t < b)).length = cntF t b n
  | 0 => rfl
  | n + 1 => by
    rw [List.range_succ, List.filter_append, List.length_append, cnt_len t b n, List.filter_cons]
    show _ = cntF t b n + (if n % t < b then 1 else 0)
    by_cases c : n % t < b
    · rw [if_pos (decide_eq_true c), if_pos c]; rfl
    · rw [if_neg (by simpa using c), if_neg c]; rfl
theorem cnt_eq {t b : Nat} (ht : 1 ≤ t) (hb : b ≤ t) : ∀ n, cntF t b n = n / t * b + min b (n % t)
  | 0 => by simp [cntF]
  | n + 1 => by
    have ih := cnt_eq ht hb n
    have h1 := Nat.div_add_mod n t
    have h2 := Nat.mod_lt n (show 0 < t by omega)
    rw [show cntF t b (n + 1) = cntF t b n + (if n % t < b then 1 else 0) from rfl, ih]
    by_cases c : n % t + 1 = t
    · have e1 : (n + 1) / t = n / t + 1 := by
        rw [show n + 1 = 0 + t * (n / t + 1) by rw [Nat.mul_add]; omega, Nat.add_mul_div_left _ _ (by omega)]; simp
      have e2 : (n + 1) % t = 0 := by
        rw [show n + 1 = 0 + t * (n / t + 1) by rw [Nat.mul_add]; omega, Nat.add_mul_mod_self_left]; simp
      rw [e1, e2, Nat.add_mul]
      split <;> omega
    · have e1 : (n + 1) / t = n / t := by
        rw [show n + 1 = (n % t + 1) + t * (n / t) by omega, Nat.add_mul_div_left _ _ (by omega), Nat.div_eq_of_lt (by omega)]; omega
      have e2 : (n + 1) % t = n % t + 1 := by
        rw [show n + 1 = (n % t + 1) + t * (n / t) by omega, Nat.add_mul_mod_self_left, Nat.mod_eq_of_lt (by omega)]
      rw [e1, e2]
      split <;> omega
theorem cnt_mono {t b n m : Nat} (h : n ≤ m) : cntF t b n ≤ cntF t b m := by
  induction m with
  | zero => rw [show n = 0 by omega]; exact Nat.le_refl _
  | succ m ih =>
    by_cases e : n = m + 1
    · rw [e]; exact Nat.le_refl _
    · have := ih (by omega)
      show _ ≤ cntF t b m + _
      omega
/-- a turn gives at least one blast -/
theorem cnt_ge {t b : Nat} (ht : 1 ≤ t) (hb : 1 ≤ b) (hbt : b ≤ t) (n : Nat) : n ≤ cntF t b (n * t) := by
  rw [cnt_eq ht hbt, Nat.mul_div_cancel _ (by omega)]
  have := Nat.mul_le_mul_left n hb
  omega
theorem cnt_le (t b : Nat) : ∀ n, cntF t b n ≤ n
  | 0 => Nat.le_refl _
  | n + 1 => by
    have := cnt_le t b n
    show cntF t b n + _ ≤ n + 1
    split <;> omega
structure Hn where
  t : Nat
  b : Nat
  l : Nat
structure okH (h : Hn) : Prop where
  t : 1 ≤ h.t ∧ h.t ≤ 9
  b : 1 ≤ h.b ∧ h.b ≤ h.t
  l : 1 ≤ h.l ∧ h.l ≤ 12
def B (h : Hn) (d : Nat) : Nat := cntF h.t h.b (d * h.l)
theorem B_mono {h : Hn} {d e : Nat} (x : d ≤ e) : B h d ≤ B h e := cnt_mono (Nat.mul_le_mul_right _ x)
theorem B_ge {h : Hn} (o : okH h) (d : Nat) : d ≤ B h (d * h.t) := by
  have h1 := cnt_ge o.t.1 o.b.1 o.b.2 d
  have h2 : cntF h.t h.b (d * h.t) ≤ B h (d * h.t) := cnt_mono (by
    have := Nat.mul_le_mul_left (d * h.t) o.l.1
    omega)
  omega
theorem B_zero (h : Hn) : B h 0 = 0 := by unfold B; simp [cntF]
local macro_rules | `(tactic| walk_at "ev") => `(tactic| simp only [QL.optP_some, QL.optP_none, QL.optP_ite, ↓QL.wp_some, ↓QL.wp_none, ↓QL.wp_mr, ↓QL.wp_ml, ↓QL.wp_mb, QL.LIM_eq, QL.strip_int', QL.strip_bl, QL.strip_str', QL.strip_non, QL.strip_hd, QL.strip_lst, QL.strip_tup, QL.strip_brw, QL.plain_int, QL.plain_bl, QL.plain_str, QL.plain_non, QL.plain_hd, QL.plain_lst, QL.plain_tup, QL.plain_brw, QL.plO_eq, QL.scal0_int, QL.scal0_bl, QL.scal0_non, QL.addD_int, QL.subD_int, QL.mulD_int, QL.small64_eq, QL.fdivD_int, QL.modD_int, QL.negD_int, QL.ltD_int, QL.leD_int, QL.gtD_int, QL.geD_int, QL.isND_non, QL.isND_int, QL.isND_bl, QL.isND_str, QL.isND_tup, QL.isND_lst, QL.str2_str, QL.eqO_str, QL.eqO_int, QL.eqO_bl, QL.idxD_lst, QL.idxD_tup, QL.idxD_brw, QL.atI_zero, QL.atI_one, QL.atI_two, QL.atI_three, QL.atI_four, QL.atI_five, QL.addD_tup, QL.truD_bl, QL.truD_int, QL.truD_non, QL.truD_lst, QL.truD_tup, QL.rds_val, QL.rds_own, QL.rds_non, QL.rds_deep, ↓QL.wp_dVar, ↓QL.wp_dC, ↓QL.wp_dOp, ↓QL.wp_dU, ↓QL.wp_dNil, ↓QL.wp_dCons, ↓QL.wp_dTup, ↓QL.wp_dPl, ↓QL.wp_dFz, QL.blO_bl, ↓QL.wp_dTst, ↓QL.wp_dTru, ↓QL.wp_dAnd, ↓QL.wp_dOr, ↓QL.wp_dNot, ↓QL.wp_dAndV, ↓QL.wp_dOrV, ↓QL.wp_dNotV, ↓QL.wp_dIf, ↓QL.wp_dChn, ↓QL.wp_dCall, ↓QL.wp_dCallR, ↓QL.wp_dB, ↓QL.wp_dBN, QL.lenD_lst, QL.lenD_tup, QL.lenD_brw, QL.absD_int, QL.intD_int, QL.intD_bl, QL.max2D_int, QL.min2D_int, QL.lst1_lst, QL.lst1_brw, QL.listD_lst, QL.listD_tup, QL.listD_brw, ↓QL.wp_dIS, QL.seqO_lst, QL.seqO_tup, ↓QL.wp_dIR, QL.optP_rng1, QL.optP_rng2, QL.enuD_lst, QL.zipD_lst, ↓QL.wp_dNoP, QL.intO_int, ↓QL.wp_dPrt, QL.optP_lrg, ↓QL.wp_dLrg1, QL.sortD_lst, QL.sortD_brw, QL.slA_lst, QL.slA_brw, QL.slA_tup, ↓QL.wp_dSlA, QL.slO_lst, QL.slO_brw, ↓QL.wp_dSl, QL.seqP_nx, QL.seqP_rt, QL.seqP_bk, QL.seqP_ct, ↓QL.wp_dSeq, ↓QL.wp_dNx, ↓QL.wp_dPass, ↓QL.wp_dBrk, ↓QL.wp_dCnt, ↓QL.wp_dRetN, ↓QL.wp_dRet, ↓QL.wp_dExpr, ↓QL.wp_dIfS, ↓QL.wp_dAsg, QL.gN_eq, QL.gNil_nil, QL.gCons_cons, QL.gTp_tup, ↓QL.wp_dSetO, ↓QL.wp_dSetF, ↓QL.wp_dParNN, ↓QL.wp_dParNE, ↓QL.wp_dParEN, QL.parO_two, ↓QL.wp_dPar, QL.ownS_own, ↓QL.wp_dApp, ↓QL.wp_dStI, ↓QL.wp_dExt, QL.lstO_lst, ↓QL.wp_dFrz, QL.frzS_own, QL.frzS_val, QL.frzS_non, QL.frz_zero, QL.frz_succ, ↓QL.wp_dNEN, ↓QL.wp_dEEN, ↓QL.wp_dENE, ↓QL.wp_dCat, QL.catO_ll, QL.catO_bl, QL.catO_lb, QL.catO_bb, ↓QL.wp_dFor, ↓QL.wp_lcl_nil, ↓QL.wp_lcl_cons, QL.rngL_length, QL.rE_zero, ↓QL.wp_dLc, QL.notOwn_val, QL.notOwn_non, QL.notOwn_own, QL.notOwn_deep, QL.notOwn_jk, ↓QL.wp_lc1, ↓QL.wp_dYes, QL.fit_int, QL.fit_bl, QL.fit_non, QL.fit_lst, QL.fit_tup, QL.ex_and_eq, ↓QL.wp_dIdx, ↓QL.wp_dRev, QL.revO_lst, QL.revO_brw, QL.tupleD_lst, QL.tupleD_brw, QL.tupleD_tup, QL.sortSetD_lst, QL.sortG_brw, QL.maxG_brw, QL.minG_brw, QL.ltV_int, QL.leV_int, QL.gtV_int, QL.geV_int, QL.okE_int, QL.okE_non, QL.okE_lst, QL.okE_tup, QL.eqO_brwR, QL.eqO_brwL, ↓QL.wp_forl_nil, ↓QL.wp_forl_cons, QL.forP_nx, QL.forP_ct, QL.forP_bk, QL.forP_rt, QL.eqO_non_int, QL.eqO_int_non, QL.eqO_non_non, QL.eqO_non_tup, QL.eqO_tup_non, sumD_eq, QL.startE, List.map_cons, List.map_nil, List.isEmpty_cons, List.isEmpty_nil, List.append_nil, List.nil_append, List.cons_append, List.length_cons, List.length_nil, Nat.reduceAdd, Nat.reduceSub, Nat.reduceLeDiff, Nat.reduceLT, Nat.reduceMul, Nat.reduceEqDiff, List.replicate_succ, List.replicate_zero, List.getElem?_cons_zero, List.getElem?_cons_succ, List.set_cons_zero, List.set_cons_succ, Option.bind_some, Option.bind_none, Option.some.injEq, QL.D.bl.injEq, QL.D.int.injEq, QL.D.str.injEq, QL.D.lst.injEq, QL.D.tup.injEq, QL.Out.nx.injEq, QL.Out.rt.injEq, QL.Slot.val.injEq, QL.Slot.own.injEq, List.cons.injEq, exists_eq_left, exists_eq_left', exists_eq_right, exists_eq_right', exists_eq, exists_eq', exists_and_left, exists_and_right, decide_eq_true_eq, decide_eq_false_iff_not, Bool.not_true, Bool.not_false, Bool.false_xor, Bool.true_xor, Bool.xor_true, Bool.xor_false, Bool.and_true, Bool.true_and, Bool.and_self, Bool.or_true, Bool.true_or, Bool.or_self, Bool.or_false, Bool.false_or, List.all_cons, List.all_nil, true_and, and_true, and_self, true_or, or_true, if_true, if_false, Bool.not_eq_true', not_false_eq_true, not_true_eq_false, Bool.false_eq_true, Bool.true_eq_false, reduceCtorEq, and_false, false_and, QL.ex_ite, QL.wipeE, QL.noOwn_eq, Option.toList, Int.reduceNeg, Int.reduceToNat, Int.reduceLT, Int.reduceLE, Int.reduceSub, Int.reduceAdd, Int.reduceMul, Int.toNat_zero, Int.cast_ofNat_Int, Int.reduceEq, ite_self, Option.ite_none_right_eq_some])
local macro_rules | `(tactic| walk_at "e") => `(tactic| try simp only [QL.optP_some, QL.optP_none, QL.optP_ite, ↓QL.wp_some, ↓QL.wp_none, ↓QL.wp_mr, ↓QL.wp_ml, ↓QL.wp_mb, QL.LIM_eq, QL.strip_int', QL.strip_bl, QL.strip_str', QL.strip_non, QL.strip_hd, QL.strip_lst, QL.strip_tup, QL.strip_brw, QL.plain_int, QL.plain_bl, QL.plain_str, QL.plain_non, QL.plain_hd, QL.plain_lst, QL.plain_tup, QL.plain_brw, QL.plO_eq, QL.scal0_int, QL.scal0_bl, QL.scal0_non, QL.addD_int, QL.subD_int, QL.mulD_int, QL.small64_eq, QL.fdivD_int, QL.modD_int, QL.negD_int, QL.ltD_int, QL.leD_int, QL.gtD_int, QL.geD_int, QL.isND_non, QL.isND_int, QL.isND_bl, QL.isND_str, QL.isND_tup, QL.isND_lst, QL.str2_str, QL.eqO_str, QL.eqO_int, QL.eqO_bl, QL.idxD_lst, QL.idxD_tup, QL.idxD_brw, QL.atI_zero, QL.atI_one, QL.atI_two, QL.atI_three, QL.atI_four, QL.atI_five, QL.addD_tup, QL.truD_bl, QL.truD_int, QL.truD_non, QL.truD_lst, QL.truD_tup, QL.rds_val, QL.rds_own, QL.rds_non, QL.rds_deep, ↓QL.wp_dVar, ↓QL.wp_dC, ↓QL.wp_dOp, ↓QL.wp_dU, ↓QL.wp_dNil, ↓QL.wp_dCons, ↓QL.wp_dTup, ↓QL.wp_dPl, ↓QL.wp_dFz, QL.blO_bl, ↓QL.wp_dTst, ↓QL.wp_dTru, ↓QL.wp_dAnd, ↓QL.wp_dOr, ↓QL.wp_dNot, ↓QL.wp_dAndV, ↓QL.wp_dOrV, ↓QL.wp_dNotV, ↓QL.wp_dIf, ↓QL.wp_dChn, ↓QL.wp_dCall, ↓QL.wp_dCallR, ↓QL.wp_dB, ↓QL.wp_dBN, QL.lenD_lst, QL.lenD_tup, QL.lenD_brw, QL.absD_int, QL.intD_int, QL.intD_bl, QL.max2D_int, QL.min2D_int, QL.lst1_lst, QL.lst1_brw, QL.listD_lst, QL.listD_tup, QL.listD_brw, ↓QL.wp_dIS, QL.seqO_lst, QL.seqO_tup, ↓QL.wp_dIR, QL.optP_rng1, QL.optP_rng2, QL.enuD_lst, QL.zipD_lst, ↓QL.wp_dNoP, QL.intO_int, ↓QL.wp_dPrt, QL.optP_lrg, ↓QL.wp_dLrg1, QL.sortD_lst, QL.sortD_brw, QL.slA_lst, QL.slA_brw, QL.slA_tup, ↓QL.wp_dSlA, QL.slO_lst, QL.slO_brw, ↓QL.wp_dSl, QL.seqP_nx, QL.seqP_rt, QL.seqP_bk, QL.seqP_ct, ↓QL.wp_dSeq, ↓QL.wp_dNx, ↓QL.wp_dPass, ↓QL.wp_dBrk, ↓QL.wp_dCnt, ↓QL.wp_dRetN, ↓QL.wp_dRet, ↓QL.wp_dExpr, ↓QL.wp_dIfS, ↓QL.wp_dAsg, QL.gN_eq, QL.gNil_nil, QL.gCons_cons, QL.gTp_tup, ↓QL.wp_dSetO, ↓QL.wp_dSetF, ↓QL.wp_dParNN, ↓QL.wp_dParNE, ↓QL.wp_dParEN, QL.parO_two, ↓QL.wp_dPar, QL.ownS_own, ↓QL.wp_dApp, ↓QL.wp_dStI, ↓QL.wp_dExt, QL.lstO_lst, ↓QL.wp_dFrz, QL.frzS_own, QL.frzS_val, QL.frzS_non, QL.frz_zero, QL.frz_succ, ↓QL.wp_dNEN, ↓QL.wp_dEEN, ↓QL.wp_dENE, ↓QL.wp_dCat, QL.catO_ll, QL.catO_bl, QL.catO_lb, QL.catO_bb, ↓QL.wp_dFor, ↓QL.wp_lcl_nil, ↓QL.wp_lcl_cons, QL.rngL_length, QL.rE_zero, ↓QL.wp_dLc, QL.notOwn_val, QL.notOwn_non, QL.notOwn_own, QL.notOwn_deep, QL.notOwn_jk, ↓QL.wp_lc1, ↓QL.wp_dYes, QL.fit_int, QL.fit_bl, QL.fit_non, QL.fit_lst, QL.fit_tup, QL.ex_and_eq, ↓QL.wp_dIdx, ↓QL.wp_dRev, QL.revO_lst, QL.revO_brw, QL.tupleD_lst, QL.tupleD_brw, QL.tupleD_tup, QL.sortSetD_lst, QL.sortG_brw, QL.maxG_brw, QL.minG_brw, QL.ltV_int, QL.leV_int, QL.gtV_int, QL.geV_int, QL.okE_int, QL.okE_non, QL.okE_lst, QL.okE_tup, QL.eqO_brwR, QL.eqO_brwL, ↓QL.wp_forl_nil, ↓QL.wp_forl_cons, QL.forP_nx, QL.forP_ct, QL.forP_bk, QL.forP_rt, QL.eqO_non_int, QL.eqO_int_non, QL.eqO_non_non, QL.eqO_non_tup, QL.eqO_tup_non, sumD_eq, QL.startE, List.map_cons, List.map_nil, List.isEmpty_cons, List.isEmpty_nil, List.append_nil, List.nil_append, List.cons_append, List.length_cons, List.length_nil, Nat.reduceAdd, Nat.reduceSub, Nat.reduceLeDiff, Nat.reduceLT, Nat.reduceMul, Nat.reduceEqDiff, List.replicate_succ, List.replicate_zero, List.getElem?_cons_zero, List.getElem?_cons_succ, List.set_cons_zero, List.set_cons_succ, Option.bind_some, Option.bind_none, Option.some.injEq, QL.D.bl.injEq, QL.D.int.injEq, QL.D.str.injEq, QL.D.lst.injEq, QL.D.tup.injEq, QL.Out.nx.injEq, QL.Out.rt.injEq, QL.Slot.val.injEq, QL.Slot.own.injEq, List.cons.injEq, exists_eq_left, exists_eq_left', exists_eq_right, exists_eq_right', exists_eq, exists_eq', exists_and_left, exists_and_right, decide_eq_true_eq, decide_eq_false_iff_not, Bool.not_true, Bool.not_false, Bool.false_xor, Bool.true_xor, Bool.xor_true, Bool.xor_false, Bool.and_true, Bool.true_and, Bool.and_self, Bool.or_true, Bool.true_or, Bool.or_self, Bool.or_false, Bool.false_or, List.all_cons, List.all_nil, true_and, and_true, and_self, true_or, or_true, if_true, if_false, Bool.not_eq_true', not_false_eq_true, not_true_eq_false, Bool.false_eq_true, Bool.true_eq_false, reduceCtorEq, and_false, false_and, QL.ex_ite, QL.wipeE, QL.noOwn_eq, Option.toList, Int.reduceNeg, Int.reduceToNat, Int.reduceLT, Int.reduceLE, Int.reduceSub, Int.reduceAdd, Int.reduceMul, Int.toNat_zero, Int.cast_ofNat_Int, Int.reduceEq, ite_self, Option.ite_none_right_eq_some])
abbrev eH (h : Hn) (d : Nat) : List D := [.int (h.t : Nat), .int (h.b : Nat), .int (h.l : Nat), .int (d : Nat)]
theorem blasts_ev {h : Hn} (o : okH h) (d : Nat) (hd : d ≤ 100000) : pureF v_blasts_up_to (eH h d) = some (.int (B h d : Nat)) := by
  obtain ⟨t1, t2⟩ := o.t
  obtain ⟨b1, b2⟩ := o.b
  obtain ⟨l1, l2⟩ := o.l
  refine pureF_eq rfl ?_
  unfold d_blasts_up_to
  walk_at "e"
  have e1 : (d : Int) * (h.l : Int) = ((d * h.l : Nat) : Int) := by push_cast; rfl
  have e2 : ((d * h.l : Nat) : Int) / (h.t : Int) = ((d * h.l / h.t : Nat) : Int) := rfl
  have e3 : ((d * h.l : Nat) : Int) % (h.t : Int) = ((d * h.l % h.t : Nat) : Int) := rfl
  refine ⟨.inl ⟨by omega, by omega⟩, ⟨by omega, by omega⟩, .inr ⟨by omega, by omega⟩, by omega, ?_⟩
  rw [e1, e2, e3, show B h d = d * h.l / h.t * h.b + min h.b (d * h.l % h.t) from cnt_eq t1 b2 _]
  generalize d * h.l / h.t = v
  have e4 : ((v : Nat) : Int) * (h.b : Int) = ((v * h.b : Nat) : Int) := by push_cast; rfl
  rw [e4]
  generalize d * h.l % h.t = r
  by_cases c : (r : Int) < (h.b : Int)
  · rw [if_pos c, show min h.b r = r by omega]; push_cast; rfl
  · rw [if_neg c, show min h.b r = h.b by omega]; push_cast; rfl
theorem lblasts_ev {h : Hn} (o : okH h) (d : Nat) (hd : d ≤ 1000) : pureF v__law_blasts (eH h d) = some (.int (B h d : Nat)) := by
  obtain ⟨t1, t2⟩ := o.t
  obtain ⟨b1, b2⟩ := o.b
  obtain ⟨l1, l2⟩ := o.l
  refine pureF_eq rfl ?_
  unfold d__law_blasts
  walk_at "e"
  have e1 : (d : Int) * (h.l : Int) = ((d * h.l : Nat) : Int) := by push_cast; rfl
  have hm : d * h.l ≤ 1000 * 12 := Nat.mul_le_mul hd l2
  rw [e1]
  refine ⟨.inl ⟨by omega, by omega⟩, rngOk_nat (by omega), by omega, ?_⟩
  rw [rngL_eq, Int.toNat_natCast]
  refine lcl_filter (rE 0) (fun k => decide (k % h.t < h.b)) (rE 0) (List.range (d * h.l)) (fun k _ s => ?_) ?_
  · rw [rE_int]
    walk_at "e"
    refine ⟨by omega, ?_⟩
    have e3 : ((k : Nat) : Int) % (h.t : Int) = ((k % h.t : Nat) : Int) := rfl
    rw [e3]
    by_cases c : k % h.t < h.b
    · rw [if_pos (by omega), if_pos c]
    · rw [if_neg (by omega), if_neg c]
  · rw [List.length_map, cnt_len]; rfl
end K_k44
end
section
set_option Elab.async false
set_option linter.all false
set_option maxRecDepth 100000
set_option maxHeartbeats 4000000
open QL
local macro_rules | `(tactic| walk_at "ev") => `(tactic| simp only [QL.optP_some, QL.optP_none, QL.optP_ite, ↓QL.wp_some, ↓QL.wp_none, ↓QL.wp_mr, ↓QL.wp_ml, ↓QL.wp_mb, QL.LIM_eq, QL.strip_int', QL.strip_bl, QL.strip_str', QL.strip_non, QL.strip_hd, QL.strip_lst, QL.strip_tup, QL.strip_brw, QL.plain_int, QL.plain_bl, QL.plain_str, QL.plain_non, QL.plain_hd, QL.plain_lst, QL.plain_tup, QL.plain_brw, QL.plO_eq, QL.scal0_int, QL.scal0_bl, QL.scal0_non, QL.addD_int, QL.subD_int, QL.mulD_int, QL.small64_eq, QL.fdivD_int, QL.modD_int, QL.negD_int, QL.ltD_int, QL.leD_int, QL.gtD_int, QL.geD_int, QL.isND_non, QL.isND_int, QL.isND_bl, QL.isND_str, QL.isND_tup, QL.isND_lst, QL.str2_str, QL.eqO_str, QL.eqO_int, QL.eqO_bl, QL.idxD_lst, QL.idxD_tup, QL.idxD_brw, QL.atI_zero, QL.atI_one, QL.atI_two, QL.atI_three, QL.atI_four, QL.atI_five, QL.addD_tup, QL.truD_bl, QL.truD_int, QL.truD_non, QL.truD_lst, QL.truD_tup, QL.rds_val, QL.rds_own, QL.rds_non, QL.rds_deep, ↓QL.wp_dVar, ↓QL.wp_dC, ↓QL.wp_dOp, ↓QL.wp_dU, ↓QL.wp_dNil, ↓QL.wp_dCons, ↓QL.wp_dTup, ↓QL.wp_dPl, ↓QL.wp_dFz, QL.blO_bl, ↓QL.wp_dTst, ↓QL.wp_dTru, ↓QL.wp_dAnd, ↓QL.wp_dOr, ↓QL.wp_dNot, ↓QL.wp_dAndV, ↓QL.wp_dOrV, ↓QL.wp_dNotV, ↓QL.wp_dIf, ↓QL.wp_dChn, ↓QL.wp_dCall, ↓QL.wp_dCallR, ↓QL.wp_dB, ↓QL.wp_dBN, QL.lenD_lst, QL.lenD_tup, QL.lenD_brw, QL.absD_int, QL.intD_int, QL.intD_bl, QL.max2D_int, QL.min2D_int, QL.lst1_lst, QL.lst1_brw, QL.listD_lst, QL.listD_tup, QL.listD_brw, ↓QL.wp_dIS, QL.seqO_lst, QL.seqO_tup, ↓QL.wp_dIR, QL.optP_rng1, QL.optP_rng2, QL.enuD_lst, QL.zipD_lst, ↓QL.wp_dNoP, QL.intO_int, ↓QL.wp_dPrt, QL.optP_lrg, ↓QL.wp_dLrg1, QL.sortD_lst, QL.sortD_brw, QL.slA_lst, QL.slA_brw, QL.slA_tup, ↓QL.wp_dSlA, QL.slO_lst, QL.slO_brw, ↓QL.wp_dSl, QL.seqP_nx, QL.seqP_rt, QL.seqP_bk, QL.seqP_ct, ↓QL.wp_dSeq, ↓QL.wp_dNx, ↓QL.wp_dPass, ↓QL.wp_dBrk, ↓QL.wp_dCnt, ↓QL.wp_dRetN, ↓QL.wp_dRet, ↓QL.wp_dExpr, ↓QL.wp_dIfS, ↓QL.wp_dAsg, QL.gN_eq, QL.gNil_nil, QL.gCons_cons, QL.gTp_tup, ↓QL.wp_dSetO, ↓QL.wp_dSetF, ↓QL.wp_dParNN, ↓QL.wp_dParNE, ↓QL.wp_dParEN, QL.parO_two, ↓QL.wp_dPar, QL.ownS_own, ↓QL.wp_dApp, ↓QL.wp_dStI, ↓QL.wp_dExt, QL.lstO_lst, ↓QL.wp_dFrz, QL.frzS_own, QL.frzS_val, QL.frzS_non, QL.frz_zero, QL.frz_succ, ↓QL.wp_dNEN, ↓QL.wp_dEEN, ↓QL.wp_dENE, ↓QL.wp_dCat, QL.catO_ll, QL.catO_bl, QL.catO_lb, QL.catO_bb, ↓QL.wp_dFor, ↓QL.wp_lcl_nil, ↓QL.wp_lcl_cons, QL.rngL_length, QL.rE_zero, ↓QL.wp_dLc, QL.notOwn_val, QL.notOwn_non, QL.notOwn_own, QL.notOwn_deep, QL.notOwn_jk, ↓QL.wp_lc1, ↓QL.wp_dYes, QL.fit_int, QL.fit_bl, QL.fit_non, QL.fit_lst, QL.fit_tup, QL.ex_and_eq, ↓QL.wp_dIdx, ↓QL.wp_dRev, QL.revO_lst, QL.revO_brw, QL.tupleD_lst, QL.tupleD_brw, QL.tupleD_tup, QL.sortSetD_lst, QL.sortG_brw, QL.maxG_brw, QL.minG_brw, QL.ltV_int, QL.leV_int, QL.gtV_int, QL.geV_int, QL.okE_int, QL.okE_non, QL.okE_lst, QL.okE_tup, QL.eqO_brwR, QL.eqO_brwL, ↓QL.wp_forl_nil, ↓QL.wp_forl_cons, QL.forP_nx, QL.forP_ct, QL.forP_bk, QL.forP_rt, QL.eqO_non_int, QL.eqO_int_non, QL.eqO_non_non, QL.eqO_non_tup, QL.eqO_tup_non, QL.startE, List.map_cons, List.map_nil, List.isEmpty_cons, List.isEmpty_nil, List.append_nil, List.nil_append, List.cons_append, List.length_cons, List.length_nil, Nat.reduceAdd, Nat.reduceSub, Nat.reduceLeDiff, Nat.reduceLT, Nat.reduceMul, Nat.reduceEqDiff, List.replicate_succ, List.replicate_zero, List.getElem?_cons_zero, List.getElem?_cons_succ, List.set_cons_zero, List.set_cons_succ, Option.bind_some, Option.bind_none, Option.some.injEq, QL.D.bl.injEq, QL.D.int.injEq, QL.D.str.injEq, QL.D.lst.injEq, QL.D.tup.injEq, QL.Out.nx.injEq, QL.Out.rt.injEq, QL.Slot.val.injEq, QL.Slot.own.injEq, List.cons.injEq, exists_eq_left, exists_eq_left', exists_eq_right, exists_eq_right', exists_eq, exists_eq', exists_and_left, exists_and_right, decide_eq_true_eq, decide_eq_false_iff_not, Bool.not_true, Bool.not_false, Bool.false_xor, Bool.true_xor, Bool.xor_true, Bool.xor_false, Bool.and_true, Bool.true_and, Bool.and_self, Bool.or_true, Bool.true_or, Bool.or_self, Bool.or_false, Bool.false_or, List.all_cons, List.all_nil, true_and, and_true, and_self, true_or, or_true, if_true, if_false, Bool.not_eq_true', not_false_eq_true, not_true_eq_false, Bool.false_eq_true, Bool.true_eq_false, reduceCtorEq, and_false, false_and, QL.ex_ite, QL.wipeE, QL.noOwn_eq, Option.toList, Int.reduceNeg, Int.reduceToNat, Int.reduceLT, Int.reduceLE, Int.reduceSub, Int.reduceAdd, Int.reduceMul, Int.toNat_zero, Int.cast_ofNat_Int, Int.reduceEq, ite_self, Option.ite_none_right_eq_some])
local macro_rules | `(tactic| walk_at "e") => `(tactic| try simp only [QL.optP_some, QL.optP_none, QL.optP_ite, ↓QL.wp_some, ↓QL.wp_none, ↓QL.wp_mr, ↓QL.wp_ml, ↓QL.wp_mb, QL.LIM_eq, QL.strip_int', QL.strip_bl, QL.strip_str', QL.strip_non, QL.strip_hd, QL.strip_lst, QL.strip_tup, QL.strip_brw, QL.plain_int, QL.plain_bl, QL.plain_str, QL.plain_non, QL.plain_hd, QL.plain_lst, QL.plain_tup, QL.plain_brw, QL.plO_eq, QL.scal0_int, QL.scal0_bl, QL.scal0_non, QL.addD_int, QL.subD_int, QL.mulD_int, QL.small64_eq, QL.fdivD_int, QL.modD_int, QL.negD_int, QL.ltD_int, QL.leD_int, QL.gtD_int, QL.geD_int, QL.isND_non, QL.isND_int, QL.isND_bl, QL.isND_str, QL.isND_tup, QL.isND_lst, QL.str2_str, QL.eqO_str, QL.eqO_int, QL.eqO_bl, QL.idxD_lst, QL.idxD_tup, QL.idxD_brw, QL.atI_zero, QL.atI_one, QL.atI_two, QL.atI_three, QL.atI_four, QL.atI_five, QL.addD_tup, QL.truD_bl, QL.truD_int, QL.truD_non, QL.truD_lst, QL.truD_tup, QL.rds_val, QL.rds_own, QL.rds_non, QL.rds_deep, ↓QL.wp_dVar, ↓QL.wp_dC, ↓QL.wp_dOp, ↓QL.wp_dU, ↓QL.wp_dNil, ↓QL.wp_dCons, ↓QL.wp_dTup, ↓QL.wp_dPl, ↓QL.wp_dFz, QL.blO_bl, ↓QL.wp_dTst, ↓QL.wp_dTru, ↓QL.wp_dAnd, ↓QL.wp_dOr, ↓QL.wp_dNot, ↓QL.wp_dAndV, ↓QL.wp_dOrV, ↓QL.wp_dNotV, ↓QL.wp_dIf, ↓QL.wp_dChn, ↓QL.wp_dCall, ↓QL.wp_dCallR, ↓QL.wp_dB, ↓QL.wp_dBN, QL.lenD_lst, QL.lenD_tup, QL.lenD_brw, QL.absD_int, QL.intD_int, QL.intD_bl, QL.max2D_int, QL.min2D_int, QL.lst1_lst, QL.lst1_brw, QL.listD_lst, QL.listD_tup, QL.listD_brw, ↓QL.wp_dIS, QL.seqO_lst, QL.seqO_tup, ↓QL.wp_dIR, QL.optP_rng1, QL.optP_rng2, QL.enuD_lst, QL.zipD_lst, ↓QL.wp_dNoP, QL.intO_int, ↓QL.wp_dPrt, QL.optP_lrg, ↓QL.wp_dLrg1, QL.sortD_lst, QL.sortD_brw, QL.slA_lst, QL.slA_brw, QL.slA_tup, ↓QL.wp_dSlA, QL.slO_lst, QL.slO_brw, ↓QL.wp_dSl, QL.seqP_nx, QL.seqP_rt, QL.seqP_bk, QL.seqP_ct, ↓QL.wp_dSeq, ↓QL.wp_dNx, ↓QL.wp_dPass, ↓QL.wp_dBrk, ↓QL.wp_dCnt, ↓QL.wp_dRetN, ↓QL.wp_dRet, ↓QL.wp_dExpr, ↓QL.wp_dIfS, ↓QL.wp_dAsg, QL.gN_eq, QL.gNil_nil, QL.gCons_cons, QL.gTp_tup, ↓QL.wp_dSetO, ↓QL.wp_dSetF, ↓QL.wp_dParNN, ↓QL.wp_dParNE, ↓QL.wp_dParEN, QL.parO_two, ↓QL.wp_dPar, QL.ownS_own, ↓QL.wp_dApp, ↓QL.wp_dStI, ↓QL.wp_dExt, QL.lstO_lst, ↓QL.wp_dFrz, QL.frzS_own, QL.frzS_val, QL.frzS_non, QL.frz_zero, QL.frz_succ, ↓QL.wp_dNEN, ↓QL.wp_dEEN, ↓QL.wp_dENE, ↓QL.wp_dCat, QL.catO_ll, QL.catO_bl, QL.catO_lb, QL.catO_bb, ↓QL.wp_dFor, ↓QL.wp_lcl_nil, ↓QL.wp_lcl_cons, QL.rngL_length, QL.rE_zero, ↓QL.wp_dLc, QL.notOwn_val, QL.notOwn_non, QL.notOwn_own, QL.notOwn_deep, QL.notOwn_jk, ↓QL.wp_lc1, ↓QL.wp_dYes, QL.fit_int, QL.fit_bl, QL.fit_non, QL.fit_lst, QL.fit_tup, QL.ex_and_eq, ↓QL.wp_dIdx, ↓QL.wp_dRev, QL.revO_lst, QL.revO_brw, QL.tupleD_lst, QL.tupleD_brw, QL.tupleD_tup, QL.sortSetD_lst, QL.sortG_brw, QL.maxG_brw, QL.minG_brw, QL.ltV_int, QL.leV_int, QL.gtV_int, QL.geV_int, QL.okE_int, QL.okE_non, QL.okE_lst, QL.okE_tup, QL.eqO_brwR, QL.eqO_brwL, ↓QL.wp_forl_nil, ↓QL.wp_forl_cons, QL.forP_nx, QL.forP_ct, QL.forP_bk, QL.forP_rt, QL.eqO_non_int, QL.eqO_int_non, QL.eqO_non_non, QL.eqO_non_tup, QL.eqO_tup_non, QL.startE, List.map_cons, List.map_nil, List.isEmpty_cons, List.isEmpty_nil, List.append_nil, List.nil_append, List.cons_append, List.length_cons, List.length_nil, Nat.reduceAdd, Nat.reduceSub, Nat.reduceLeDiff, Nat.reduceLT, Nat.reduceMul, Nat.reduceEqDiff, List.replicate_succ, List.replicate_zero, List.getElem?_cons_zero, List.getElem?_cons_succ, List.set_cons_zero, List.set_cons_succ, Option.bind_some, Option.bind_none, Option.some.injEq, QL.D.bl.injEq, QL.D.int.injEq, QL.D.str.injEq, QL.D.lst.injEq, QL.D.tup.injEq, QL.Out.nx.injEq, QL.Out.rt.injEq, QL.Slot.val.injEq, QL.Slot.own.injEq, List.cons.injEq, exists_eq_left, exists_eq_left', exists_eq_right, exists_eq_right', exists_eq, exists_eq', exists_and_left, exists_and_right, decide_eq_true_eq, decide_eq_false_iff_not, Bool.not_true, Bool.not_false, Bool.false_xor, Bool.true_xor, Bool.xor_true, Bool.xor_false, Bool.and_true, Bool.true_and, Bool.and_self, Bool.or_true, Bool.true_or, Bool.or_self, Bool.or_false, Bool.false_or, List.all_cons, List.all_nil, true_and, and_true, and_self, true_or, or_true, if_true, if_false, Bool.not_eq_true', not_false_eq_true, not_true_eq_false, Bool.false_eq_true, Bool.true_eq_false, reduceCtorEq, and_false, false_and, QL.ex_ite, QL.wipeE, QL.noOwn_eq, Option.toList, Int.reduceNeg, Int.reduceToNat, Int.reduceLT, Int.reduceLE, Int.reduceSub, Int.reduceAdd, Int.reduceMul, Int.toNat_zero, Int.cast_ofNat_Int, Int.reduceEq, ite_self, Option.ite_none_right_eq_some])
namespace K_k44
local macro_rules | `(tactic| walk_at "ev") => `(tactic| simp only [QL.optP_some, QL.optP_none, QL.optP_ite, ↓QL.wp_some, ↓QL.wp_none, ↓QL.wp_mr, ↓QL.wp_ml, ↓QL.wp_mb, QL.LIM_eq, QL.strip_int', QL.strip_bl, QL.strip_str', QL.strip_non, QL.strip_hd, QL.strip_lst, QL.strip_tup, QL.strip_brw, QL.plain_int, QL.plain_bl, QL.plain_str, QL.plain_non, QL.plain_hd, QL.plain_lst, QL.plain_tup, QL.plain_brw, QL.plO_eq, QL.scal0_int, QL.scal0_bl, QL.scal0_non, QL.addD_int, QL.subD_int, QL.mulD_int, QL.small64_eq, QL.fdivD_int, QL.modD_int, QL.negD_int, QL.ltD_int, QL.leD_int, QL.gtD_int, QL.geD_int, QL.isND_non, QL.isND_int, QL.isND_bl, QL.isND_str, QL.isND_tup, QL.isND_lst, QL.str2_str, QL.eqO_str, QL.eqO_int, QL.eqO_bl, QL.idxD_lst, QL.idxD_tup, QL.idxD_brw, QL.atI_zero, QL.atI_one, QL.atI_two, QL.atI_three, QL.atI_four, QL.atI_five, QL.addD_tup, QL.truD_bl, QL.truD_int, QL.truD_non, QL.truD_lst, QL.truD_tup, QL.rds_val, QL.rds_own, QL.rds_non, QL.rds_deep, ↓QL.wp_dVar, ↓QL.wp_dC, ↓QL.wp_dOp, ↓QL.wp_dU, ↓QL.wp_dNil, ↓QL.wp_dCons, ↓QL.wp_dTup, ↓QL.wp_dPl, ↓QL.wp_dFz, QL.blO_bl, ↓QL.wp_dTst, ↓QL.wp_dTru, ↓QL.wp_dAnd, ↓QL.wp_dOr, ↓QL.wp_dNot, ↓QL.wp_dAndV, ↓QL.wp_dOrV, ↓QL.wp_dNotV, ↓QL.wp_dIf, ↓QL.wp_dChn, ↓QL.wp_dCall, ↓QL.wp_dCallR, ↓QL.wp_dB, ↓QL.wp_dBN, QL.lenD_lst, QL.lenD_tup, QL.lenD_brw, QL.absD_int, QL.intD_int, QL.intD_bl, QL.max2D_int, QL.min2D_int, QL.lst1_lst, QL.lst1_brw, QL.listD_lst, QL.listD_tup, QL.listD_brw, ↓QL.wp_dIS, QL.seqO_lst, QL.seqO_tup, ↓QL.wp_dIR, QL.optP_rng1, QL.optP_rng2, QL.enuD_lst, QL.zipD_lst, ↓QL.wp_dNoP, QL.intO_int, ↓QL.wp_dPrt, QL.optP_lrg, ↓QL.wp_dLrg1, QL.sortD_lst, QL.sortD_brw, QL.slA_lst, QL.slA_brw, QL.slA_tup, ↓QL.wp_dSlA, QL.slO_lst, QL.slO_brw, ↓QL.wp_dSl, QL.seqP_nx, QL.seqP_rt, QL.seqP_bk, QL.seqP_ct, ↓QL.wp_dSeq, ↓QL.wp_dNx, ↓QL.wp_dPass, ↓QL.wp_dBrk, ↓QL.wp_dCnt, ↓QL.wp_dRetN, ↓QL.wp_dRet, ↓QL.wp_dExpr, ↓QL.wp_dIfS, ↓QL.wp_dAsg, QL.gN_eq, QL.gNil_nil, QL.gCons_cons, QL.gTp_tup, ↓QL.wp_dSetO, ↓QL.wp_dSetF, ↓QL.wp_dParNN, ↓QL.wp_dParNE, ↓QL.wp_dParEN, QL.parO_two, ↓QL.wp_dPar, QL.ownS_own, ↓QL.wp_dApp, ↓QL.wp_dStI, ↓QL.wp_dExt, QL.lstO_lst, ↓QL.wp_dFrz, QL.frzS_own, QL.frzS_val, QL.frzS_non, QL.frz_zero, QL.frz_succ, ↓QL.wp_dNEN, ↓QL.wp_dEEN, ↓QL.wp_dENE, ↓QL.wp_dCat, QL.catO_ll, QL.catO_bl, QL.catO_lb, QL.catO_bb, ↓QL.wp_dFor, ↓QL.wp_lcl_nil, ↓QL.wp_lcl_cons, QL.rngL_length, QL.rE_zero, ↓QL.wp_dLc, QL.notOwn_val, QL.notOwn_non, QL.notOwn_own, QL.notOwn_deep, QL.notOwn_jk, ↓QL.wp_lc1, ↓QL.wp_dYes, QL.fit_int, QL.fit_bl, QL.fit_non, QL.fit_lst, QL.fit_tup, QL.ex_and_eq, ↓QL.wp_dIdx, ↓QL.wp_dRev, QL.revO_lst, QL.revO_brw, QL.tupleD_lst, QL.tupleD_brw, QL.tupleD_tup, QL.sortSetD_lst, QL.sortG_brw, QL.maxG_brw, QL.minG_brw, QL.ltV_int, QL.leV_int, QL.gtV_int, QL.geV_int, QL.okE_int, QL.okE_non, QL.okE_lst, QL.okE_tup, QL.eqO_brwR, QL.eqO_brwL, ↓QL.wp_forl_nil, ↓QL.wp_forl_cons, QL.forP_nx, QL.forP_ct, QL.forP_bk, QL.forP_rt, QL.eqO_non_int, QL.eqO_int_non, QL.eqO_non_non, QL.eqO_non_tup, QL.eqO_tup_non, sumD_eq, QL.startE, List.map_cons, List.map_nil, List.isEmpty_cons, List.isEmpty_nil, List.append_nil, List.nil_append, List.cons_append, List.length_cons, List.length_nil, Nat.reduceAdd, Nat.reduceSub, Nat.reduceLeDiff, Nat.reduceLT, Nat.reduceMul, Nat.reduceEqDiff, List.replicate_succ, List.replicate_zero, List.getElem?_cons_zero, List.getElem?_cons_succ, List.set_cons_zero, List.set_cons_succ, Option.bind_some, Option.bind_none, Option.some.injEq, QL.D.bl.injEq, QL.D.int.injEq, QL.D.str.injEq, QL.D.lst.injEq, QL.D.tup.injEq, QL.Out.nx.injEq, QL.Out.rt.injEq, QL.Slot.val.injEq, QL.Slot.own.injEq, List.cons.injEq, exists_eq_left, exists_eq_left', exists_eq_right, exists_eq_right', exists_eq, exists_eq', exists_and_left, exists_and_right, decide_eq_true_eq, decide_eq_false_iff_not, Bool.not_true, Bool.not_false, Bool.false_xor, Bool.true_xor, Bool.xor_true, Bool.xor_false, Bool.and_true, Bool.true_and, Bool.and_self, Bool.or_true, Bool.true_or, Bool.or_self, Bool.or_false, Bool.false_or, List.all_cons, List.all_nil, true_and, and_true, and_self, true_or, or_true, if_true, if_false, Bool.not_eq_true', not_false_eq_true, not_true_eq_false, Bool.false_eq_true, Bool.true_eq_false, reduceCtorEq, and_false, false_and, QL.ex_ite, QL.wipeE, QL.noOwn_eq, Option.toList, Int.reduceNeg, Int.reduceToNat, Int.reduceLT, Int.reduceLE, Int.reduceSub, Int.reduceAdd, Int.reduceMul, Int.toNat_zero, Int.cast_ofNat_Int, Int.reduceEq, ite_self, Option.ite_none_right_eq_some])
local macro_rules | `(tactic| walk_at "e") => `(tactic| try simp only [QL.optP_some, QL.optP_none, QL.optP_ite, ↓QL.wp_some, ↓QL.wp_none, ↓QL.wp_mr, ↓QL.wp_ml, ↓QL.wp_mb, QL.LIM_eq, QL.strip_int', QL.strip_bl, QL.strip_str', QL.strip_non, QL.strip_hd, QL.strip_lst, QL.strip_tup, QL.strip_brw, QL.plain_int, QL.plain_bl, QL.plain_str, QL.plain_non, QL.plain_hd, QL.plain_lst, QL.plain_tup, QL.plain_brw, QL.plO_eq, QL.scal0_int, QL.scal0_bl, QL.scal0_non, QL.addD_int, QL.subD_int, QL.mulD_int, QL.small64_eq, QL.fdivD_int, QL.modD_int, QL.negD_int, QL.ltD_int, QL.leD_int, QL.gtD_int, QL.geD_int, QL.isND_non, QL.isND_int, QL.isND_bl, QL.isND_str, QL.isND_tup, QL.isND_lst, QL.str2_str, QL.eqO_str, QL.eqO_int, QL.eqO_bl, QL.idxD_lst, QL.idxD_tup, QL.idxD_brw, QL.atI_zero, QL.atI_one, QL.atI_two, QL.atI_three, QL.atI_four, QL.atI_five, QL.addD_tup, QL.truD_bl, QL.truD_int, QL.truD_non, QL.truD_lst, QL.truD_tup, QL.rds_val, QL.rds_own, QL.rds_non, QL.rds_deep, ↓QL.wp_dVar, ↓QL.wp_dC, ↓QL.wp_dOp, ↓QL.wp_dU, ↓QL.wp_dNil, ↓QL.wp_dCons, ↓QL.wp_dTup, ↓QL.wp_dPl, ↓QL.wp_dFz, QL.blO_bl, ↓QL.wp_dTst, ↓QL.wp_dTru, ↓QL.wp_dAnd, ↓QL.wp_dOr, ↓QL.wp_dNot, ↓QL.wp_dAndV, ↓QL.wp_dOrV, ↓QL.wp_dNotV, ↓QL.wp_dIf, ↓QL.wp_dChn, ↓QL.wp_dCall, ↓QL.wp_dCallR, ↓QL.wp_dB, ↓QL.wp_dBN, QL.lenD_lst, QL.lenD_tup, QL.lenD_brw, QL.absD_int, QL.intD_int, QL.intD_bl, QL.max2D_int, QL.min2D_int, QL.lst1_lst, QL.lst1_brw, QL.listD_lst, QL.listD_tup, QL.listD_brw, ↓QL.wp_dIS, QL.seqO_lst, QL.seqO_tup, ↓QL.wp_dIR, QL.optP_rng1, QL.optP_rng2, QL.enuD_lst, QL.zipD_lst, ↓QL.wp_dNoP, QL.intO_int, ↓QL.wp_dPrt, QL.optP_lrg, ↓QL.wp_dLrg1, QL.sortD_lst, QL.sortD_brw, QL.slA_lst, QL.slA_brw, QL.slA_tup, ↓QL.wp_dSlA, QL.slO_lst, QL.slO_brw, ↓QL.wp_dSl, QL.seqP_nx, QL.seqP_rt, QL.seqP_bk, QL.seqP_ct, ↓QL.wp_dSeq, ↓QL.wp_dNx, ↓QL.wp_dPass, ↓QL.wp_dBrk, ↓QL.wp_dCnt, ↓QL.wp_dRetN, ↓QL.wp_dRet, ↓QL.wp_dExpr, ↓QL.wp_dIfS, ↓QL.wp_dAsg, QL.gN_eq, QL.gNil_nil, QL.gCons_cons, QL.gTp_tup, ↓QL.wp_dSetO, ↓QL.wp_dSetF, ↓QL.wp_dParNN, ↓QL.wp_dParNE, ↓QL.wp_dParEN, QL.parO_two, ↓QL.wp_dPar, QL.ownS_own, ↓QL.wp_dApp, ↓QL.wp_dStI, ↓QL.wp_dExt, QL.lstO_lst, ↓QL.wp_dFrz, QL.frzS_own, QL.frzS_val, QL.frzS_non, QL.frz_zero, QL.frz_succ, ↓QL.wp_dNEN, ↓QL.wp_dEEN, ↓QL.wp_dENE, ↓QL.wp_dCat, QL.catO_ll, QL.catO_bl, QL.catO_lb, QL.catO_bb, ↓QL.wp_dFor, ↓QL.wp_lcl_nil, ↓QL.wp_lcl_cons, QL.rngL_length, QL.rE_zero, ↓QL.wp_dLc, QL.notOwn_val, QL.notOwn_non, QL.notOwn_own, QL.notOwn_deep, QL.notOwn_jk, ↓QL.wp_lc1, ↓QL.wp_dYes, QL.fit_int, QL.fit_bl, QL.fit_non, QL.fit_lst, QL.fit_tup, QL.ex_and_eq, ↓QL.wp_dIdx, ↓QL.wp_dRev, QL.revO_lst, QL.revO_brw, QL.tupleD_lst, QL.tupleD_brw, QL.tupleD_tup, QL.sortSetD_lst, QL.sortG_brw, QL.maxG_brw, QL.minG_brw, QL.ltV_int, QL.leV_int, QL.gtV_int, QL.geV_int, QL.okE_int, QL.okE_non, QL.okE_lst, QL.okE_tup, QL.eqO_brwR, QL.eqO_brwL, ↓QL.wp_forl_nil, ↓QL.wp_forl_cons, QL.forP_nx, QL.forP_ct, QL.forP_bk, QL.forP_rt, QL.eqO_non_int, QL.eqO_int_non, QL.eqO_non_non, QL.eqO_non_tup, QL.eqO_tup_non, sumD_eq, QL.startE, List.map_cons, List.map_nil, List.isEmpty_cons, List.isEmpty_nil, List.append_nil, List.nil_append, List.cons_append, List.length_cons, List.length_nil, Nat.reduceAdd, Nat.reduceSub, Nat.reduceLeDiff, Nat.reduceLT, Nat.reduceMul, Nat.reduceEqDiff, List.replicate_succ, List.replicate_zero, List.getElem?_cons_zero, List.getElem?_cons_succ, List.set_cons_zero, List.set_cons_succ, Option.bind_some, Option.bind_none, Option.some.injEq, QL.D.bl.injEq, QL.D.int.injEq, QL.D.str.injEq, QL.D.lst.injEq, QL.D.tup.injEq, QL.Out.nx.injEq, QL.Out.rt.injEq, QL.Slot.val.injEq, QL.Slot.own.injEq, List.cons.injEq, exists_eq_left, exists_eq_left', exists_eq_right, exists_eq_right', exists_eq, exists_eq', exists_and_left, exists_and_right, decide_eq_true_eq, decide_eq_false_iff_not, Bool.not_true, Bool.not_false, Bool.false_xor, Bool.true_xor, Bool.xor_true, Bool.xor_false, Bool.and_true, Bool.true_and, Bool.and_self, Bool.or_true, Bool.true_or, Bool.or_self, Bool.or_false, Bool.false_or, List.all_cons, List.all_nil, true_and, and_true, and_self, true_or, or_true, if_true, if_false, Bool.not_eq_true', not_false_eq_true, not_true_eq_false, Bool.false_eq_true, Bool.true_eq_false, reduceCtorEq, and_false, false_and, QL.ex_ite, QL.wipeE, QL.noOwn_eq, Option.toList, Int.reduceNeg, Int.reduceToNat, Int.reduceLT, Int.reduceLE, Int.reduceSub, Int.reduceAdd, Int.reduceMul, Int.toNat_zero, Int.cast_ofNat_Int, Int.reduceEq, ite_self, Option.ite_none_right_eq_some])
structure Least (h : Hn) (c : Nat) (r : Nat) : Prop where
  ge : c ≤ B h r
  lt : ∀ m, m < r → B h m < c
theorem least_uniq {h : Hn} {c r r' : Nat} (x : Least h c r) (y : Least h c r') : r = r' := by
  by_cases z : r < r'
  · have := y.lt r z; have := x.ge; omega
  · by_cases z2 : r' < r
    · have := x.lt r' z2; have := y.ge; omega
    · omega
def fdF (h : Hn) (c : Nat) : Nat := ((List.range 10000).find? fun r => decide (c ≤ B h r)).getD 0
theorem fd_least {h : Hn} (o : okH h) {c : Nat} (hc : c ≤ 1000) : Least h c (fdF h c) ∧ fdF h c ≤ 9000 := by
  have hex : c ≤ B h (c * h.t) := B_ge o c
  have hb : c * h.t ≤ 1000 * 9 := Nat.mul_le_mul hc o.t.2
  unfold fdF
  cases e : (List.range 10000).find? fun r => decide (c ≤ B h r) with
  | none =>
    have := List.find?_eq_none.mp e (c * h.t) (List.mem_range.mpr (by omega))
    exact absurd (decide_eq_true hex) this
  | some r =>
    obtain ⟨h1, h2, h3⟩ := find_some_range e
    simp only [Option.getD_some]
    refine ⟨⟨of_decide_eq_true h2, fun m hm => ?_⟩, ?_⟩
    · have := h3 m hm
      rw [decide_eq_true_eq] at this
      omega
    · by_cases z : r ≤ c * h.t
      · omega
      · exact absurd (decide_eq_true hex) (h3 _ (by omega))
theorem fd_ev {h : Hn} (o : okH h) (c : Nat) (hc : c ≤ 1000) : pureF v_first_day_with [.int (h.t : Nat), .int (h.b : Nat), .int (h.l : Nat), .int (c : Nat)] = some (.int (fdF h c : Nat)) := by
  obtain ⟨lst, lb⟩ := fd_least o hc
  refine pureF_eq rfl ?_
  suffices key : Wp (d_first_day_with (startE 7 [.int (h.t : Nat), .int (h.b : Nat), .int (h.l : Nat), .int (c : Nat)]) ()) fun o _ => ∃ r, Least h c r ∧ o = .rt (.int (r : Nat)) by
    obtain ⟨o', s', e, r, h1, rfl⟩ := key
    have := least_uniq h1 lst
    subst this
    exact ⟨_, _, e, rfl⟩
  unfold d_first_day_with
  walk_at "e"
  refine whl_inv (fun k ρ _ => ∃ (hi : Nat), k = 20000 - hi ∧ 1 ≤ hi ∧ hi ≤ 20000 ∧ ρ = [.val (.int (h.t : Nat)), .val (.int (h.b : Nat)), .val (.int (h.l : Nat)), .val (.int (c : Nat)), .val (.int (-1)), .val (.int (hi : Nat)), .non]) 19999 (by unfold FUEL; omega) ⟨1, rfl, by decide, by decide, rfl⟩ (fun k ρ s1 ⟨hi, e1, h1, h2, e2⟩ => ?_)
  subst e2
  walk_at "e"
  rw [blasts_ev o hi (by omega)]
  walk_at "e"
  refine ⟨fun cc => ?_, fun cc => ?_⟩
  · have cge : c ≤ B h hi := by omega
    refine whl_inv (fun k ρ _ => ∃ (lo1 hi : Nat) (j : Slot), k = hi - lo1 ∧ lo1 ≤ hi ∧ hi ≤ 20000 ∧ c ≤ B h hi ∧ (∀ m, m < lo1 → B h m < c) ∧ ρ = [.val (.int (h.t : Nat)), .val (.int (h.b : Nat)), .val (.int (h.l : Nat)), .val (.int (c : Nat)), .val (.int ((lo1 : Int) - 1)), .val (.int (hi : Nat)), j]) hi (by unfold FUEL; omega) ⟨0, hi, _, by omega, by omega, h2, cge, fun m hm => by omega, rfl⟩ (fun k ρ s2 ⟨lo, hi, j, e1, b1, b2, b3, b4, e2⟩ => ?_)
    subst e2
    walk_at "e"
    refine ⟨fun cc => ⟨hi, ⟨b3, fun m hm => b4 m (by omega)⟩, rfl⟩, fun cc => ?_⟩
    unfold d_first_day_with_b2
    walk_at "e"
    obtain ⟨mid, hmid⟩ : ∃ mid : Nat, ((lo : Int) - 1 + (hi : Int)) / 2 = (mid : Int) := ⟨(((lo : Int) - 1 + (hi : Int)) / 2).toNat, by omega⟩
    have m1 : lo ≤ mid := by omega
    have m2 : mid < hi := by omega
    rw [hmid, blasts_ev o mid (by omega)]
    walk_at "e"
    by_cases c3 : c ≤ B h mid
    · rw [if_pos (by omega)]
      exact .inl ⟨_, .inl rfl, mid - lo, by omega, lo, mid, rfl, m1, by omega, c3, b4, _, rfl⟩
    · rw [if_neg (by omega)]
      refine .inl ⟨_, .inl rfl, hi - (mid + 1), by omega, mid + 1, hi, rfl, by omega, b2, b3, fun m hm => ?_, .val (.int (mid : Nat)), ?_⟩
      · have := B_mono (h := h) (show m ≤ mid by omega)
        omega
      · rw [show ((mid + 1 : Nat) : Int) - 1 = (mid : Int) by omega]
  · have hlt : hi ≤ 9000 := by
      by_cases z : hi ≤ 9000
      · exact z
      · have := B_mono (h := h) (show fdF h c ≤ hi by omega)
        have := lst.ge
        omega
    unfold d_first_day_with_b1
    walk_at "e"
    refine .inl ⟨_, .inl rfl, 20000 - 2 * hi, by omega, 2 * hi, rfl, by omega, by omega, ?_⟩
    rw [show (2 : Int) * (hi : Int) = ((2 * hi : Nat) : Int) by omega]
end K_k44
end
section
set_option Elab.async false
set_option linter.all false
set_option maxRecDepth 100000
set_option maxHeartbeats 4000000
open QL
local macro_rules | `(tactic| walk_at "ev") => `(tactic| simp only [QL.optP_some, QL.optP_none, QL.optP_ite, ↓QL.wp_some, ↓QL.wp_none, ↓QL.wp_mr, ↓QL.wp_ml, ↓QL.wp_mb, QL.LIM_eq, QL.strip_int', QL.strip_bl, QL.strip_str', QL.strip_non, QL.strip_hd, QL.strip_lst, QL.strip_tup, QL.strip_brw, QL.plain_int, QL.plain_bl, QL.plain_str, QL.plain_non, QL.plain_hd, QL.plain_lst, QL.plain_tup, QL.plain_brw, QL.plO_eq, QL.scal0_int, QL.scal0_bl, QL.scal0_non, QL.addD_int, QL.subD_int, QL.mulD_int, QL.small64_eq, QL.fdivD_int, QL.modD_int, QL.negD_int, QL.ltD_int, QL.leD_int, QL.gtD_int, QL.geD_int, QL.isND_non, QL.isND_int, QL.isND_bl, QL.isND_str, QL.isND_tup, QL.isND_lst, QL.str2_str, QL.eqO_str, QL.eqO_int, QL.eqO_bl, QL.idxD_lst, QL.idxD_tup, QL.idxD_brw, QL.atI_zero, QL.atI_one, QL.atI_two, QL.atI_three, QL.atI_four, QL.atI_five, QL.addD_tup, QL.truD_bl, QL.truD_int, QL.truD_non, QL.truD_lst, QL.truD_tup, QL.rds_val, QL.rds_own, QL.rds_non, QL.rds_deep, ↓QL.wp_dVar, ↓QL.wp_dC, ↓QL.wp_dOp, ↓QL.wp_dU, ↓QL.wp_dNil, ↓QL.wp_dCons, ↓QL.wp_dTup, ↓QL.wp_dPl, ↓QL.wp_dFz, QL.blO_bl, ↓QL.wp_dTst, ↓QL.wp_dTru, ↓QL.wp_dAnd, ↓QL.wp_dOr, ↓QL.wp_dNot, ↓QL.wp_dAndV, ↓QL.wp_dOrV, ↓QL.wp_dNotV, ↓QL.wp_dIf, ↓QL.wp_dChn, ↓QL.wp_dCall, ↓QL.wp_dCallR, ↓QL.wp_dB, ↓QL.wp_dBN, QL.lenD_lst, QL.lenD_tup, QL.lenD_brw, QL.absD_int, QL.intD_int, QL.intD_bl, QL.max2D_int, QL.min2D_int, QL.lst1_lst, QL.lst1_brw, QL.listD_lst, QL.listD_tup, QL.listD_brw, ↓QL.wp_dIS, QL.seqO_lst, QL.seqO_tup, ↓QL.wp_dIR, QL.optP_rng1, QL.optP_rng2, QL.enuD_lst, QL.zipD_lst, ↓QL.wp_dNoP, QL.intO_int, ↓QL.wp_dPrt, QL.optP_lrg, ↓QL.wp_dLrg1, QL.sortD_lst, QL.sortD_brw, QL.slA_lst, QL.slA_brw, QL.slA_tup, ↓QL.wp_dSlA, QL.slO_lst, QL.slO_brw, ↓QL.wp_dSl, QL.seqP_nx, QL.seqP_rt, QL.seqP_bk, QL.seqP_ct, ↓QL.wp_dSeq, ↓QL.wp_dNx, ↓QL.wp_dPass, ↓QL.wp_dBrk, ↓QL.wp_dCnt, ↓QL.wp_dRetN, ↓QL.wp_dRet, ↓QL.wp_dExpr, ↓QL.wp_dIfS, ↓QL.wp_dAsg, QL.gN_eq, QL.gNil_nil, QL.gCons_cons, QL.gTp_tup, ↓QL.wp_dSetO, ↓QL.wp_dSetF, ↓QL.wp_dParNN, ↓QL.wp_dParNE, ↓QL.wp_dParEN, QL.parO_two, ↓QL.wp_dPar, QL.ownS_own, ↓QL.wp_dApp, ↓QL.wp_dStI, ↓QL.wp_dExt, QL.lstO_lst, ↓QL.wp_dFrz, QL.frzS_own, QL.frzS_val, QL.frzS_non, QL.frz_zero, QL.frz_succ, ↓QL.wp_dNEN, ↓QL.wp_dEEN, ↓QL.wp_dENE, ↓QL.wp_dCat, QL.catO_ll, QL.catO_bl, QL.catO_lb, QL.catO_bb, ↓QL.wp_dFor, ↓QL.wp_lcl_nil, ↓QL.wp_lcl_cons, QL.rngL_length, QL.rE_zero, ↓QL.wp_dLc, QL.notOwn_val, QL.notOwn_non, QL.notOwn_own, QL.notOwn_deep, QL.notOwn_jk, ↓QL.wp_lc1, ↓QL.wp_dYes, QL.fit_int, QL.fit_bl, QL.fit_non, QL.fit_lst, QL.fit_tup, QL.ex_and_eq, ↓QL.wp_dIdx, ↓QL.wp_dRev, QL.revO_lst, QL.revO_brw, QL.tupleD_lst, QL.tupleD_brw, QL.tupleD_tup, QL.sortSetD_lst, QL.sortG_brw, QL.maxG_brw, QL.minG_brw, QL.ltV_int, QL.leV_int, QL.gtV_int, QL.geV_int, QL.okE_int, QL.okE_non, QL.okE_lst, QL.okE_tup, QL.eqO_brwR, QL.eqO_brwL, ↓QL.wp_forl_nil, ↓QL.wp_forl_cons, QL.forP_nx, QL.forP_ct, QL.forP_bk, QL.forP_rt, QL.eqO_non_int, QL.eqO_int_non, QL.eqO_non_non, QL.eqO_non_tup, QL.eqO_tup_non, QL.startE, List.map_cons, List.map_nil, List.isEmpty_cons, List.isEmpty_nil, List.append_nil, List.nil_append, List.cons_append, List.length_cons, List.length_nil, Nat.reduceAdd, Nat.reduceSub, Nat.reduceLeDiff, Nat.reduceLT, Nat.reduceMul, Nat.reduceEqDiff, List.replicate_succ, List.replicate_zero, List.getElem?_cons_zero, List.getElem?_cons_succ, List.set_cons_zero, List.set_cons_succ, Option.bind_some, Option.bind_none, Option.some.injEq, QL.D.bl.injEq, QL.D.int.injEq, QL.D.str.injEq, QL.D.lst.injEq, QL.D.tup.injEq, QL.Out.nx.injEq, QL.Out.rt.injEq, QL.Slot.val.injEq, QL.Slot.own.injEq, List.cons.injEq, exists_eq_left, exists_eq_left', exists_eq_right, exists_eq_right', exists_eq, exists_eq', exists_and_left, exists_and_right, decide_eq_true_eq, decide_eq_false_iff_not, Bool.not_true, Bool.not_false, Bool.false_xor, Bool.true_xor, Bool.xor_true, Bool.xor_false, Bool.and_true, Bool.true_and, Bool.and_self, Bool.or_true, Bool.true_or, Bool.or_self, Bool.or_false, Bool.false_or, List.all_cons, List.all_nil, true_and, and_true, and_self, true_or, or_true, if_true, if_false, Bool.not_eq_true', not_false_eq_true, not_true_eq_false, Bool.false_eq_true, Bool.true_eq_false, reduceCtorEq, and_false, false_and, QL.ex_ite, QL.wipeE, QL.noOwn_eq, Option.toList, Int.reduceNeg, Int.reduceToNat, Int.reduceLT, Int.reduceLE, Int.reduceSub, Int.reduceAdd, Int.reduceMul, Int.toNat_zero, Int.cast_ofNat_Int, Int.reduceEq, ite_self, Option.ite_none_right_eq_some])
local macro_rules | `(tactic| walk_at "e") => `(tactic| try simp only [QL.optP_some, QL.optP_none, QL.optP_ite, ↓QL.wp_some, ↓QL.wp_none, ↓QL.wp_mr, ↓QL.wp_ml, ↓QL.wp_mb, QL.LIM_eq, QL.strip_int', QL.strip_bl, QL.strip_str', QL.strip_non, QL.strip_hd, QL.strip_lst, QL.strip_tup, QL.strip_brw, QL.plain_int, QL.plain_bl, QL.plain_str, QL.plain_non, QL.plain_hd, QL.plain_lst, QL.plain_tup, QL.plain_brw, QL.plO_eq, QL.scal0_int, QL.scal0_bl, QL.scal0_non, QL.addD_int, QL.subD_int, QL.mulD_int, QL.small64_eq, QL.fdivD_int, QL.modD_int, QL.negD_int, QL.ltD_int, QL.leD_int, QL.gtD_int, QL.geD_int, QL.isND_non, QL.isND_int, QL.isND_bl, QL.isND_str, QL.isND_tup, QL.isND_lst, QL.str2_str, QL.eqO_str, QL.eqO_int, QL.eqO_bl, QL.idxD_lst, QL.idxD_tup, QL.idxD_brw, QL.atI_zero, QL.atI_one, QL.atI_two, QL.atI_three, QL.atI_four, QL.atI_five, QL.addD_tup, QL.truD_bl, QL.truD_int, QL.truD_non, QL.truD_lst, QL.truD_tup, QL.rds_val, QL.rds_own, QL.rds_non, QL.rds_deep, ↓QL.wp_dVar, ↓QL.wp_dC, ↓QL.wp_dOp, ↓QL.wp_dU, ↓QL.wp_dNil, ↓QL.wp_dCons, ↓QL.wp_dTup, ↓QL.wp_dPl, ↓QL.wp_dFz, QL.blO_bl, ↓QL.wp_dTst, ↓QL.wp_dTru, ↓QL.wp_dAnd, ↓QL.wp_dOr, ↓QL.wp_dNot, ↓QL.wp_dAndV, ↓QL.wp_dOrV, ↓QL.wp_dNotV, ↓QL.wp_dIf, ↓QL.wp_dChn, ↓QL.wp_dCall, ↓QL.wp_dCallR, ↓QL.wp_dB, ↓QL.wp_dBN, QL.lenD_lst, QL.lenD_tup, QL.lenD_brw, QL.absD_int, QL.intD_int, QL.intD_bl, QL.max2D_int, QL.min2D_int, QL.lst1_lst, QL.lst1_brw, QL.listD_lst, QL.listD_tup, QL.listD_brw, ↓QL.wp_dIS, QL.seqO_lst, QL.seqO_tup, ↓QL.wp_dIR, QL.optP_rng1, QL.optP_rng2, QL.enuD_lst, QL.zipD_lst, ↓QL.wp_dNoP, QL.intO_int, ↓QL.wp_dPrt, QL.optP_lrg, ↓QL.wp_dLrg1, QL.sortD_lst, QL.sortD_brw, QL.slA_lst, QL.slA_brw, QL.slA_tup, ↓QL.wp_dSlA, QL.slO_lst, QL.slO_brw, ↓QL.wp_dSl, QL.seqP_nx, QL.seqP_rt, QL.seqP_bk, QL.seqP_ct, ↓QL.wp_dSeq, ↓QL.wp_dNx, ↓QL.wp_dPass, ↓QL.wp_dBrk, ↓QL.wp_dCnt, ↓QL.wp_dRetN, ↓QL.wp_dRet, ↓QL.wp_dExpr, ↓QL.wp_dIfS, ↓QL.wp_dAsg, QL.gN_eq, QL.gNil_nil, QL.gCons_cons, QL.gTp_tup, ↓QL.wp_dSetO, ↓QL.wp_dSetF, ↓QL.wp_dParNN, ↓QL.wp_dParNE, ↓QL.wp_dParEN, QL.parO_two, ↓QL.wp_dPar, QL.ownS_own, ↓QL.wp_dApp, ↓QL.wp_dStI, ↓QL.wp_dExt, QL.lstO_lst, ↓QL.wp_dFrz, QL.frzS_own, QL.frzS_val, QL.frzS_non, QL.frz_zero, QL.frz_succ, ↓QL.wp_dNEN, ↓QL.wp_dEEN, ↓QL.wp_dENE, ↓QL.wp_dCat, QL.catO_ll, QL.catO_bl, QL.catO_lb, QL.catO_bb, ↓QL.wp_dFor, ↓QL.wp_lcl_nil, ↓QL.wp_lcl_cons, QL.rngL_length, QL.rE_zero, ↓QL.wp_dLc, QL.notOwn_val, QL.notOwn_non, QL.notOwn_own, QL.notOwn_deep, QL.notOwn_jk, ↓QL.wp_lc1, ↓QL.wp_dYes, QL.fit_int, QL.fit_bl, QL.fit_non, QL.fit_lst, QL.fit_tup, QL.ex_and_eq, ↓QL.wp_dIdx, ↓QL.wp_dRev, QL.revO_lst, QL.revO_brw, QL.tupleD_lst, QL.tupleD_brw, QL.tupleD_tup, QL.sortSetD_lst, QL.sortG_brw, QL.maxG_brw, QL.minG_brw, QL.ltV_int, QL.leV_int, QL.gtV_int, QL.geV_int, QL.okE_int, QL.okE_non, QL.okE_lst, QL.okE_tup, QL.eqO_brwR, QL.eqO_brwL, ↓QL.wp_forl_nil, ↓QL.wp_forl_cons, QL.forP_nx, QL.forP_ct, QL.forP_bk, QL.forP_rt, QL.eqO_non_int, QL.eqO_int_non, QL.eqO_non_non, QL.eqO_non_tup, QL.eqO_tup_non, QL.startE, List.map_cons, List.map_nil, List.isEmpty_cons, List.isEmpty_nil, List.append_nil, List.nil_append, List.cons_append, List.length_cons, List.length_nil, Nat.reduceAdd, Nat.reduceSub, Nat.reduceLeDiff, Nat.reduceLT, Nat.reduceMul, Nat.reduceEqDiff, List.replicate_succ, List.replicate_zero, List.getElem?_cons_zero, List.getElem?_cons_succ, List.set_cons_zero, List.set_cons_succ, Option.bind_some, Option.bind_none, Option.some.injEq, QL.D.bl.injEq, QL.D.int.injEq, QL.D.str.injEq, QL.D.lst.injEq, QL.D.tup.injEq, QL.Out.nx.injEq, QL.Out.rt.injEq, QL.Slot.val.injEq, QL.Slot.own.injEq, List.cons.injEq, exists_eq_left, exists_eq_left', exists_eq_right, exists_eq_right', exists_eq, exists_eq', exists_and_left, exists_and_right, decide_eq_true_eq, decide_eq_false_iff_not, Bool.not_true, Bool.not_false, Bool.false_xor, Bool.true_xor, Bool.xor_true, Bool.xor_false, Bool.and_true, Bool.true_and, Bool.and_self, Bool.or_true, Bool.true_or, Bool.or_self, Bool.or_false, Bool.false_or, List.all_cons, List.all_nil, true_and, and_true, and_self, true_or, or_true, if_true, if_false, Bool.not_eq_true', not_false_eq_true, not_true_eq_false, Bool.false_eq_true, Bool.true_eq_false, reduceCtorEq, and_false, false_and, QL.ex_ite, QL.wipeE, QL.noOwn_eq, Option.toList, Int.reduceNeg, Int.reduceToNat, Int.reduceLT, Int.reduceLE, Int.reduceSub, Int.reduceAdd, Int.reduceMul, Int.toNat_zero, Int.cast_ofNat_Int, Int.reduceEq, ite_self, Option.ite_none_right_eq_some])
namespace K_k44
local macro_rules | `(tactic| walk_at "ev") => `(tactic| simp only [QL.optP_some, QL.optP_none, QL.optP_ite, ↓QL.wp_some, ↓QL.wp_none, ↓QL.wp_mr, ↓QL.wp_ml, ↓QL.wp_mb, QL.LIM_eq, QL.strip_int', QL.strip_bl, QL.strip_str', QL.strip_non, QL.strip_hd, QL.strip_lst, QL.strip_tup, QL.strip_brw, QL.plain_int, QL.plain_bl, QL.plain_str, QL.plain_non, QL.plain_hd, QL.plain_lst, QL.plain_tup, QL.plain_brw, QL.plO_eq, QL.scal0_int, QL.scal0_bl, QL.scal0_non, QL.addD_int, QL.subD_int, QL.mulD_int, QL.small64_eq, QL.fdivD_int, QL.modD_int, QL.negD_int, QL.ltD_int, QL.leD_int, QL.gtD_int, QL.geD_int, QL.isND_non, QL.isND_int, QL.isND_bl, QL.isND_str, QL.isND_tup, QL.isND_lst, QL.str2_str, QL.eqO_str, QL.eqO_int, QL.eqO_bl, QL.idxD_lst, QL.idxD_tup, QL.idxD_brw, QL.atI_zero, QL.atI_one, QL.atI_two, QL.atI_three, QL.atI_four, QL.atI_five, QL.addD_tup, QL.truD_bl, QL.truD_int, QL.truD_non, QL.truD_lst, QL.truD_tup, QL.rds_val, QL.rds_own, QL.rds_non, QL.rds_deep, ↓QL.wp_dVar, ↓QL.wp_dC, ↓QL.wp_dOp, ↓QL.wp_dU, ↓QL.wp_dNil, ↓QL.wp_dCons, ↓QL.wp_dTup, ↓QL.wp_dPl, ↓QL.wp_dFz, QL.blO_bl, ↓QL.wp_dTst, ↓QL.wp_dTru, ↓QL.wp_dAnd, ↓QL.wp_dOr, ↓QL.wp_dNot, ↓QL.wp_dAndV, ↓QL.wp_dOrV, ↓QL.wp_dNotV, ↓QL.wp_dIf, ↓QL.wp_dChn, ↓QL.wp_dCall, ↓QL.wp_dCallR, ↓QL.wp_dB, ↓QL.wp_dBN, QL.lenD_lst, QL.lenD_tup, QL.lenD_brw, QL.absD_int, QL.intD_int, QL.intD_bl, QL.max2D_int, QL.min2D_int, QL.lst1_lst, QL.lst1_brw, QL.listD_lst, QL.listD_tup, QL.listD_brw, ↓QL.wp_dIS, QL.seqO_lst, QL.seqO_tup, ↓QL.wp_dIR, QL.optP_rng1, QL.optP_rng2, QL.enuD_lst, QL.zipD_lst, ↓QL.wp_dNoP, QL.intO_int, ↓QL.wp_dPrt, QL.optP_lrg, ↓QL.wp_dLrg1, QL.sortD_lst, QL.sortD_brw, QL.slA_lst, QL.slA_brw, QL.slA_tup, ↓QL.wp_dSlA, QL.slO_lst, QL.slO_brw, ↓QL.wp_dSl, QL.seqP_nx, QL.seqP_rt, QL.seqP_bk, QL.seqP_ct, ↓QL.wp_dSeq, ↓QL.wp_dNx, ↓QL.wp_dPass, ↓QL.wp_dBrk, ↓QL.wp_dCnt, ↓QL.wp_dRetN, ↓QL.wp_dRet, ↓QL.wp_dExpr, ↓QL.wp_dIfS, ↓QL.wp_dAsg, QL.gN_eq, QL.gNil_nil, QL.gCons_cons, QL.gTp_tup, ↓QL.wp_dSetO, ↓QL.wp_dSetF, ↓QL.wp_dParNN, ↓QL.wp_dParNE, ↓QL.wp_dParEN, QL.parO_two, ↓QL.wp_dPar, QL.ownS_own, ↓QL.wp_dApp, ↓QL.wp_dStI, ↓QL.wp_dExt, QL.lstO_lst, ↓QL.wp_dFrz, QL.frzS_own, QL.frzS_val, QL.frzS_non, QL.frz_zero, QL.frz_succ, ↓QL.wp_dNEN, ↓QL.wp_dEEN, ↓QL.wp_dENE, ↓QL.wp_dCat, QL.catO_ll, QL.catO_bl, QL.catO_lb, QL.catO_bb, ↓QL.wp_dFor, ↓QL.wp_lcl_nil, ↓QL.wp_lcl_cons, QL.rngL_length, QL.rE_zero, ↓QL.wp_dLc, QL.notOwn_val, QL.notOwn_non, QL.notOwn_own, QL.notOwn_deep, QL.notOwn_jk, ↓QL.wp_lc1, ↓QL.wp_dYes, QL.fit_int, QL.fit_bl, QL.fit_non, QL.fit_lst, QL.fit_tup, QL.ex_and_eq, ↓QL.wp_dIdx, ↓QL.wp_dRev, QL.revO_lst, QL.revO_brw, QL.tupleD_lst, QL.tupleD_brw, QL.tupleD_tup, QL.sortSetD_lst, QL.sortG_brw, QL.maxG_brw, QL.minG_brw, QL.ltV_int, QL.leV_int, QL.gtV_int, QL.geV_int, QL.okE_int, QL.okE_non, QL.okE_lst, QL.okE_tup, QL.eqO_brwR, QL.eqO_brwL, ↓QL.wp_forl_nil, ↓QL.wp_forl_cons, QL.forP_nx, QL.forP_ct, QL.forP_bk, QL.forP_rt, QL.eqO_non_int, QL.eqO_int_non, QL.eqO_non_non, QL.eqO_non_tup, QL.eqO_tup_non, sumD_eq, QL.startE, List.map_cons, List.map_nil, List.isEmpty_cons, List.isEmpty_nil, List.append_nil, List.nil_append, List.cons_append, List.length_cons, List.length_nil, Nat.reduceAdd, Nat.reduceSub, Nat.reduceLeDiff, Nat.reduceLT, Nat.reduceMul, Nat.reduceEqDiff, List.replicate_succ, List.replicate_zero, List.getElem?_cons_zero, List.getElem?_cons_succ, List.set_cons_zero, List.set_cons_succ, Option.bind_some, Option.bind_none, Option.some.injEq, QL.D.bl.injEq, QL.D.int.injEq, QL.D.str.injEq, QL.D.lst.injEq, QL.D.tup.injEq, QL.Out.nx.injEq, QL.Out.rt.injEq, QL.Slot.val.injEq, QL.Slot.own.injEq, List.cons.injEq, exists_eq_left, exists_eq_left', exists_eq_right, exists_eq_right', exists_eq, exists_eq', exists_and_left, exists_and_right, decide_eq_true_eq, decide_eq_false_iff_not, Bool.not_true, Bool.not_false, Bool.false_xor, Bool.true_xor, Bool.xor_true, Bool.xor_false, Bool.and_true, Bool.true_and, Bool.and_self, Bool.or_true, Bool.true_or, Bool.or_self, Bool.or_false, Bool.false_or, List.all_cons, List.all_nil, true_and, and_true, and_self, true_or, or_true, if_true, if_false, Bool.not_eq_true', not_false_eq_true, not_true_eq_false, Bool.false_eq_true, Bool.true_eq_false, reduceCtorEq, and_false, false_and, QL.ex_ite, QL.wipeE, QL.noOwn_eq, Option.toList, Int.reduceNeg, Int.reduceToNat, Int.reduceLT, Int.reduceLE, Int.reduceSub, Int.reduceAdd, Int.reduceMul, Int.toNat_zero, Int.cast_ofNat_Int, Int.reduceEq, ite_self, Option.ite_none_right_eq_some])
local macro_rules | `(tactic| walk_at "e") => `(tactic| try simp only [QL.optP_some, QL.optP_none, QL.optP_ite, ↓QL.wp_some, ↓QL.wp_none, ↓QL.wp_mr, ↓QL.wp_ml, ↓QL.wp_mb, QL.LIM_eq, QL.strip_int', QL.strip_bl, QL.strip_str', QL.strip_non, QL.strip_hd, QL.strip_lst, QL.strip_tup, QL.strip_brw, QL.plain_int, QL.plain_bl, QL.plain_str, QL.plain_non, QL.plain_hd, QL.plain_lst, QL.plain_tup, QL.plain_brw, QL.plO_eq, QL.scal0_int, QL.scal0_bl, QL.scal0_non, QL.addD_int, QL.subD_int, QL.mulD_int, QL.small64_eq, QL.fdivD_int, QL.modD_int, QL.negD_int, QL.ltD_int, QL.leD_int, QL.gtD_int, QL.geD_int, QL.isND_non, QL.isND_int, QL.isND_bl, QL.isND_str, QL.isND_tup, QL.isND_lst, QL.str2_str, QL.eqO_str, QL.eqO_int, QL.eqO_bl, QL.idxD_lst, QL.idxD_tup, QL.idxD_brw, QL.atI_zero, QL.atI_one, QL.atI_two, QL.atI_three, QL.atI_four, QL.atI_five, QL.addD_tup, QL.truD_bl, QL.truD_int, QL.truD_non, QL.truD_lst, QL.truD_tup, QL.rds_val, QL.rds_own, QL.rds_non, QL.rds_deep, ↓QL.wp_dVar, ↓QL.wp_dC, ↓QL.wp_dOp, ↓QL.wp_dU, ↓QL.wp_dNil, ↓QL.wp_dCons, ↓QL.wp_dTup, ↓QL.wp_dPl, ↓QL.wp_dFz, QL.blO_bl, ↓QL.wp_dTst, ↓QL.wp_dTru, ↓QL.wp_dAnd, ↓QL.wp_dOr, ↓QL.wp_dNot, ↓QL.wp_dAndV, ↓QL.wp_dOrV, ↓QL.wp_dNotV, ↓QL.wp_dIf, ↓QL.wp_dChn, ↓QL.wp_dCall, ↓QL.wp_dCallR, ↓QL.wp_dB, ↓QL.wp_dBN, QL.lenD_lst, QL.lenD_tup, QL.lenD_brw, QL.absD_int, QL.intD_int, QL.intD_bl, QL.max2D_int, QL.min2D_int, QL.lst1_lst, QL.lst1_brw, QL.listD_lst, QL.listD_tup, QL.listD_brw, ↓QL.wp_dIS, QL.seqO_lst, QL.seqO_tup, ↓QL.wp_dIR, QL.optP_rng1, QL.optP_rng2, QL.enuD_lst, QL.zipD_lst, ↓QL.wp_dNoP, QL.intO_int, ↓QL.wp_dPrt, QL.optP_lrg, ↓QL.wp_dLrg1, QL.sortD_lst, QL.sortD_brw, QL.slA_lst, QL.slA_brw, QL.slA_tup, ↓QL.wp_dSlA, QL.slO_lst, QL.slO_brw, ↓QL.wp_dSl, QL.seqP_nx, QL.seqP_rt, QL.seqP_bk, QL.seqP_ct, ↓QL.wp_dSeq, ↓QL.wp_dNx, ↓QL.wp_dPass, ↓QL.wp_dBrk, ↓QL.wp_dCnt, ↓QL.wp_dRetN, ↓QL.wp_dRet, ↓QL.wp_dExpr, ↓QL.wp_dIfS, ↓QL.wp_dAsg, QL.gN_eq, QL.gNil_nil, QL.gCons_cons, QL.gTp_tup, ↓QL.wp_dSetO, ↓QL.wp_dSetF, ↓QL.wp_dParNN, ↓QL.wp_dParNE, ↓QL.wp_dParEN, QL.parO_two, ↓QL.wp_dPar, QL.ownS_own, ↓QL.wp_dApp, ↓QL.wp_dStI, ↓QL.wp_dExt, QL.lstO_lst, ↓QL.wp_dFrz, QL.frzS_own, QL.frzS_val, QL.frzS_non, QL.frz_zero, QL.frz_succ, ↓QL.wp_dNEN, ↓QL.wp_dEEN, ↓QL.wp_dENE, ↓QL.wp_dCat, QL.catO_ll, QL.catO_bl, QL.catO_lb, QL.catO_bb, ↓QL.wp_dFor, ↓QL.wp_lcl_nil, ↓QL.wp_lcl_cons, QL.rngL_length, QL.rE_zero, ↓QL.wp_dLc, QL.notOwn_val, QL.notOwn_non, QL.notOwn_own, QL.notOwn_deep, QL.notOwn_jk, ↓QL.wp_lc1, ↓QL.wp_dYes, QL.fit_int, QL.fit_bl, QL.fit_non, QL.fit_lst, QL.fit_tup, QL.ex_and_eq, ↓QL.wp_dIdx, ↓QL.wp_dRev, QL.revO_lst, QL.revO_brw, QL.tupleD_lst, QL.tupleD_brw, QL.tupleD_tup, QL.sortSetD_lst, QL.sortG_brw, QL.maxG_brw, QL.minG_brw, QL.ltV_int, QL.leV_int, QL.gtV_int, QL.geV_int, QL.okE_int, QL.okE_non, QL.okE_lst, QL.okE_tup, QL.eqO_brwR, QL.eqO_brwL, ↓QL.wp_forl_nil, ↓QL.wp_forl_cons, QL.forP_nx, QL.forP_ct, QL.forP_bk, QL.forP_rt, QL.eqO_non_int, QL.eqO_int_non, QL.eqO_non_non, QL.eqO_non_tup, QL.eqO_tup_non, sumD_eq, QL.startE, List.map_cons, List.map_nil, List.isEmpty_cons, List.isEmpty_nil, List.append_nil, List.nil_append, List.cons_append, List.length_cons, List.length_nil, Nat.reduceAdd, Nat.reduceSub, Nat.reduceLeDiff, Nat.reduceLT, Nat.reduceMul, Nat.reduceEqDiff, List.replicate_succ, List.replicate_zero, List.getElem?_cons_zero, List.getElem?_cons_succ, List.set_cons_zero, List.set_cons_succ, Option.bind_some, Option.bind_none, Option.some.injEq, QL.D.bl.injEq, QL.D.int.injEq, QL.D.str.injEq, QL.D.lst.injEq, QL.D.tup.injEq, QL.Out.nx.injEq, QL.Out.rt.injEq, QL.Slot.val.injEq, QL.Slot.own.injEq, List.cons.injEq, exists_eq_left, exists_eq_left', exists_eq_right, exists_eq_right', exists_eq, exists_eq', exists_and_left, exists_and_right, decide_eq_true_eq, decide_eq_false_iff_not, Bool.not_true, Bool.not_false, Bool.false_xor, Bool.true_xor, Bool.xor_true, Bool.xor_false, Bool.and_true, Bool.true_and, Bool.and_self, Bool.or_true, Bool.true_or, Bool.or_self, Bool.or_false, Bool.false_or, List.all_cons, List.all_nil, true_and, and_true, and_self, true_or, or_true, if_true, if_false, Bool.not_eq_true', not_false_eq_true, not_true_eq_false, Bool.false_eq_true, Bool.true_eq_false, reduceCtorEq, and_false, false_and, QL.ex_ite, QL.wipeE, QL.noOwn_eq, Option.toList, Int.reduceNeg, Int.reduceToNat, Int.reduceLT, Int.reduceLE, Int.reduceSub, Int.reduceAdd, Int.reduceMul, Int.toNat_zero, Int.cast_ofNat_Int, Int.reduceEq, ite_self, Option.ite_none_right_eq_some])
def cond (h : Hn) (y z last d : Nat) : Prop := B h last + y ≤ B h d ∨ last + z ≤ d
def nx (h : Hn) (y z last : Nat) : Nat := max (min (fdF h (B h last + y)) (last + z)) (last + 1)
theorem nx_spec {h : Hn} (o : okH h) {y z last : Nat} (hy : 1 ≤ y) (hz : 1 ≤ z) (hc : B h last + y ≤ 1000) : last < nx h y z last ∧ nx h y z last ≤ last + z ∧ cond h y z last (nx h y z last) ∧ ∀ m, last < m → m < nx h y z last → ¬ cond h y z last m := by
  obtain ⟨l1, l2⟩ := (fd_least o hc).1
  have hgt : last < fdF h (B h last + y) := by
    by_cases c : fdF h (B h last + y) ≤ last
    · have := B_mono (h := h) c; omega
    · omega
  have e : nx h y z last = min (fdF h (B h last + y)) (last + z) := by unfold nx; omega
  rw [e]
  refine ⟨by omega, by omega, ?_, fun m h1 h2 => ?_⟩
  · unfold cond
    by_cases c : fdF h (B h last + y) ≤ last + z
    · rw [Nat.min_eq_left c]; exact .inl l1
    · rw [Nat.min_eq_right (by omega)]; exact .inr (Nat.le_refl _)
  · unfold cond
    have := l2 m (by omega)
    omega
structure Hr where
  h : Hn
  y : Nat
  z : Nat
structure okR (r : Hr) : Prop where
  h : okH r.h
  y : 1 ≤ r.y ∧ r.y ≤ 20
  z : 1 ≤ r.z ∧ r.z ≤ 6
def sq (r : Hr) : Nat → Nat
  | 0 => 0
  | k + 1 => nx r.h r.y r.z (sq r k)
theorem B_le {h : Hn} (o : okH h) (d : Nat) : B h d ≤ d * 12 := Nat.le_trans (cnt_le _ _ _) (Nat.mul_le_mul_left _ o.l.2)
theorem sq_le {r : Hr} (o : okR r) : ∀ k, k ≤ 5 → sq r k ≤ 6 * k
  | 0, _ => Nat.le_refl _
  | k + 1, h => by
    have ih := sq_le o k (by omega)
    have := B_le o.h (sq r k)
    have hy := o.y
    have := (nx_spec o.h o.y.1 o.z.1 (last := sq r k) (y := r.y) (by omega)).2.1
    have hz := o.z
    show nx r.h r.y r.z (sq r k) ≤ _
    omega
def dl (r : Hr) (k : Nat) : List Nat := (List.range k).map fun i => sq r (i + 1)
theorem dl_succ (r : Hr) (k : Nat) : dl r (k + 1) = dl r k ++ [sq r (k + 1)] := by unfold dl; rw [List.range_succ, List.map_append]; rfl
theorem dl_len (r : Hr) (k : Nat) : (dl r k).length = k := by unfold dl; rw [List.length_map, List.length_range]
theorem atI_last {α : Type} (l : List α) (x : α) : L2.atI (l ++ [x]) (-1) = some x := by
  rw [atI_neg1 (by simp)]; simp
def encN (i : Nat) : D := .int (i : Int)
theorem encN_eq (k : Nat) : encN k = .int (k : Int) := rfl
abbrev eR (r : Hr) : D := .tup [.int (r.h.t : Nat), .int (r.h.b : Nat), .int (r.y : Nat), .int (r.z : Nat)]
local macro_rules | `(tactic| walk_at "ev") => `(tactic| simp only [QL.optP_some, QL.optP_none, QL.optP_ite, ↓QL.wp_some, ↓QL.wp_none, ↓QL.wp_mr, ↓QL.wp_ml, ↓QL.wp_mb, QL.LIM_eq, QL.strip_int', QL.strip_bl, QL.strip_str', QL.strip_non, QL.strip_hd, QL.strip_lst, QL.strip_tup, QL.strip_brw, QL.plain_int, QL.plain_bl, QL.plain_str, QL.plain_non, QL.plain_hd, QL.plain_lst, QL.plain_tup, QL.plain_brw, QL.plO_eq, QL.scal0_int, QL.scal0_bl, QL.scal0_non, QL.addD_int, QL.subD_int, QL.mulD_int, QL.small64_eq, QL.fdivD_int, QL.modD_int, QL.negD_int, QL.ltD_int, QL.leD_int, QL.gtD_int, QL.geD_int, QL.isND_non, QL.isND_int, QL.isND_bl, QL.isND_str, QL.isND_tup, QL.isND_lst, QL.str2_str, QL.eqO_str, QL.eqO_int, QL.eqO_bl, QL.idxD_lst, QL.idxD_tup, QL.idxD_brw, QL.atI_zero, QL.atI_one, QL.atI_two, QL.atI_three, QL.atI_four, QL.atI_five, QL.addD_tup, QL.truD_bl, QL.truD_int, QL.truD_non, QL.truD_lst, QL.truD_tup, QL.rds_val, QL.rds_own, QL.rds_non, QL.rds_deep, ↓QL.wp_dVar, ↓QL.wp_dC, ↓QL.wp_dOp, ↓QL.wp_dU, ↓QL.wp_dNil, ↓QL.wp_dCons, ↓QL.wp_dTup, ↓QL.wp_dPl, ↓QL.wp_dFz, QL.blO_bl, ↓QL.wp_dTst, ↓QL.wp_dTru, ↓QL.wp_dAnd, ↓QL.wp_dOr, ↓QL.wp_dNot, ↓QL.wp_dAndV, ↓QL.wp_dOrV, ↓QL.wp_dNotV, ↓QL.wp_dIf, ↓QL.wp_dChn, ↓QL.wp_dCall, ↓QL.wp_dCallR, ↓QL.wp_dB, ↓QL.wp_dBN, QL.lenD_lst, QL.lenD_tup, QL.lenD_brw, QL.absD_int, QL.intD_int, QL.intD_bl, QL.max2D_int, QL.min2D_int, QL.lst1_lst, QL.lst1_brw, QL.listD_lst, QL.listD_tup, QL.listD_brw, ↓QL.wp_dIS, QL.seqO_lst, QL.seqO_tup, ↓QL.wp_dIR, QL.optP_rng1, QL.optP_rng2, QL.enuD_lst, QL.zipD_lst, ↓QL.wp_dNoP, QL.intO_int, ↓QL.wp_dPrt, QL.optP_lrg, ↓QL.wp_dLrg1, QL.sortD_lst, QL.sortD_brw, QL.slA_lst, QL.slA_brw, QL.slA_tup, ↓QL.wp_dSlA, QL.slO_lst, QL.slO_brw, ↓QL.wp_dSl, QL.seqP_nx, QL.seqP_rt, QL.seqP_bk, QL.seqP_ct, ↓QL.wp_dSeq, ↓QL.wp_dNx, ↓QL.wp_dPass, ↓QL.wp_dBrk, ↓QL.wp_dCnt, ↓QL.wp_dRetN, ↓QL.wp_dRet, ↓QL.wp_dExpr, ↓QL.wp_dIfS, ↓QL.wp_dAsg, QL.gN_eq, QL.gNil_nil, QL.gCons_cons, QL.gTp_tup, ↓QL.wp_dSetO, ↓QL.wp_dSetF, ↓QL.wp_dParNN, ↓QL.wp_dParNE, ↓QL.wp_dParEN, QL.parO_two, ↓QL.wp_dPar, QL.ownS_own, ↓QL.wp_dApp, ↓QL.wp_dStI, ↓QL.wp_dExt, QL.lstO_lst, ↓QL.wp_dFrz, QL.frzS_own, QL.frzS_val, QL.frzS_non, QL.frz_zero, QL.frz_succ, ↓QL.wp_dNEN, ↓QL.wp_dEEN, ↓QL.wp_dENE, ↓QL.wp_dCat, QL.catO_ll, QL.catO_bl, QL.catO_lb, QL.catO_bb, ↓QL.wp_dFor, ↓QL.wp_lcl_nil, ↓QL.wp_lcl_cons, QL.rngL_length, QL.rE_zero, ↓QL.wp_dLc, QL.notOwn_val, QL.notOwn_non, QL.notOwn_own, QL.notOwn_deep, QL.notOwn_jk, ↓QL.wp_lc1, ↓QL.wp_dYes, QL.fit_int, QL.fit_bl, QL.fit_non, QL.fit_lst, QL.fit_tup, QL.ex_and_eq, ↓QL.wp_dIdx, ↓QL.wp_dRev, QL.revO_lst, QL.revO_brw, QL.tupleD_lst, QL.tupleD_brw, QL.tupleD_tup, QL.sortSetD_lst, QL.sortG_brw, QL.maxG_brw, QL.minG_brw, QL.ltV_int, QL.leV_int, QL.gtV_int, QL.geV_int, QL.okE_int, QL.okE_non, QL.okE_lst, QL.okE_tup, QL.eqO_brwR, QL.eqO_brwL, ↓QL.wp_forl_nil, ↓QL.wp_forl_cons, QL.forP_nx, QL.forP_ct, QL.forP_bk, QL.forP_rt, QL.eqO_non_int, QL.eqO_int_non, QL.eqO_non_non, QL.eqO_non_tup, QL.eqO_tup_non, sumD_eq, encN_eq, QL.startE, List.map_cons, List.map_nil, List.isEmpty_cons, List.isEmpty_nil, List.append_nil, List.nil_append, List.cons_append, List.length_cons, List.length_nil, Nat.reduceAdd, Nat.reduceSub, Nat.reduceLeDiff, Nat.reduceLT, Nat.reduceMul, Nat.reduceEqDiff, List.replicate_succ, List.replicate_zero, List.getElem?_cons_zero, List.getElem?_cons_succ, List.set_cons_zero, List.set_cons_succ, Option.bind_some, Option.bind_none, Option.some.injEq, QL.D.bl.injEq, QL.D.int.injEq, QL.D.str.injEq, QL.D.lst.injEq, QL.D.tup.injEq, QL.Out.nx.injEq, QL.Out.rt.injEq, QL.Slot.val.injEq, QL.Slot.own.injEq, List.cons.injEq, exists_eq_left, exists_eq_left', exists_eq_right, exists_eq_right', exists_eq, exists_eq', exists_and_left, exists_and_right, decide_eq_true_eq, decide_eq_false_iff_not, Bool.not_true, Bool.not_false, Bool.false_xor, Bool.true_xor, Bool.xor_true, Bool.xor_false, Bool.and_true, Bool.true_and, Bool.and_self, Bool.or_true, Bool.true_or, Bool.or_self, Bool.or_false, Bool.false_or, List.all_cons, List.all_nil, true_and, and_true, and_self, true_or, or_true, if_true, if_false, Bool.not_eq_true', not_false_eq_true, not_true_eq_false, Bool.false_eq_true, Bool.true_eq_false, reduceCtorEq, and_false, false_and, QL.ex_ite, QL.wipeE, QL.noOwn_eq, Option.toList, Int.reduceNeg, Int.reduceToNat, Int.reduceLT, Int.reduceLE, Int.reduceSub, Int.reduceAdd, Int.reduceMul, Int.toNat_zero, Int.cast_ofNat_Int, Int.reduceEq, ite_self, Option.ite_none_right_eq_some])
local macro_rules | `(tactic| walk_at "e") => `(tactic| try simp only [QL.optP_some, QL.optP_none, QL.optP_ite, ↓QL.wp_some, ↓QL.wp_none, ↓QL.wp_mr, ↓QL.wp_ml, ↓QL.wp_mb, QL.LIM_eq, QL.strip_int', QL.strip_bl, QL.strip_str', QL.strip_non, QL.strip_hd, QL.strip_lst, QL.strip_tup, QL.strip_brw, QL.plain_int, QL.plain_bl, QL.plain_str, QL.plain_non, QL.plain_hd, QL.plain_lst, QL.plain_tup, QL.plain_brw, QL.plO_eq, QL.scal0_int, QL.scal0_bl, QL.scal0_non, QL.addD_int, QL.subD_int, QL.mulD_int, QL.small64_eq, QL.fdivD_int, QL.modD_int, QL.negD_int, QL.ltD_int, QL.leD_int, QL.gtD_int, QL.geD_int, QL.isND_non, QL.isND_int, QL.isND_bl, QL.isND_str, QL.isND_tup, QL.isND_lst, QL.str2_str, QL.eqO_str, QL.eqO_int, QL.eqO_bl, QL.idxD_lst, QL.idxD_tup, QL.idxD_brw, QL.atI_zero, QL.atI_one, QL.atI_two, QL.atI_three, QL.atI_four, QL.atI_five, QL.addD_tup, QL.truD_bl, QL.truD_int, QL.truD_non, QL.truD_lst, QL.truD_tup, QL.rds_val, QL.rds_own, QL.rds_non, QL.rds_deep, ↓QL.wp_dVar, ↓QL.wp_dC, ↓QL.wp_dOp, ↓QL.wp_dU, ↓QL.wp_dNil, ↓QL.wp_dCons, ↓QL.wp_dTup, ↓QL.wp_dPl, ↓QL.wp_dFz, QL.blO_bl, ↓QL.wp_dTst, ↓QL.wp_dTru, ↓QL.wp_dAnd, ↓QL.wp_dOr, ↓QL.wp_dNot, ↓QL.wp_dAndV, ↓QL.wp_dOrV, ↓QL.wp_dNotV, ↓QL.wp_dIf, ↓QL.wp_dChn, ↓QL.wp_dCall, ↓QL.wp_dCallR, ↓QL.wp_dB, ↓QL.wp_dBN, QL.lenD_lst, QL.lenD_tup, QL.lenD_brw, QL.absD_int, QL.intD_int, QL.intD_bl, QL.max2D_int, QL.min2D_int, QL.lst1_lst, QL.lst1_brw, QL.listD_lst, QL.listD_tup, QL.listD_brw, ↓QL.wp_dIS, QL.seqO_lst, QL.seqO_tup, ↓QL.wp_dIR, QL.optP_rng1, QL.optP_rng2, QL.enuD_lst, QL.zipD_lst, ↓QL.wp_dNoP, QL.intO_int, ↓QL.wp_dPrt, QL.optP_lrg, ↓QL.wp_dLrg1, QL.sortD_lst, QL.sortD_brw, QL.slA_lst, QL.slA_brw, QL.slA_tup, ↓QL.wp_dSlA, QL.slO_lst, QL.slO_brw, ↓QL.wp_dSl, QL.seqP_nx, QL.seqP_rt, QL.seqP_bk, QL.seqP_ct, ↓QL.wp_dSeq, ↓QL.wp_dNx, ↓QL.wp_dPass, ↓QL.wp_dBrk, ↓QL.wp_dCnt, ↓QL.wp_dRetN, ↓QL.wp_dRet, ↓QL.wp_dExpr, ↓QL.wp_dIfS, ↓QL.wp_dAsg, QL.gN_eq, QL.gNil_nil, QL.gCons_cons, QL.gTp_tup, ↓QL.wp_dSetO, ↓QL.wp_dSetF, ↓QL.wp_dParNN, ↓QL.wp_dParNE, ↓QL.wp_dParEN, QL.parO_two, ↓QL.wp_dPar, QL.ownS_own, ↓QL.wp_dApp, ↓QL.wp_dStI, ↓QL.wp_dExt, QL.lstO_lst, ↓QL.wp_dFrz, QL.frzS_own, QL.frzS_val, QL.frzS_non, QL.frz_zero, QL.frz_succ, ↓QL.wp_dNEN, ↓QL.wp_dEEN, ↓QL.wp_dENE, ↓QL.wp_dCat, QL.catO_ll, QL.catO_bl, QL.catO_lb, QL.catO_bb, ↓QL.wp_dFor, ↓QL.wp_lcl_nil, ↓QL.wp_lcl_cons, QL.rngL_length, QL.rE_zero, ↓QL.wp_dLc, QL.notOwn_val, QL.notOwn_non, QL.notOwn_own, QL.notOwn_deep, QL.notOwn_jk, ↓QL.wp_lc1, ↓QL.wp_dYes, QL.fit_int, QL.fit_bl, QL.fit_non, QL.fit_lst, QL.fit_tup, QL.ex_and_eq, ↓QL.wp_dIdx, ↓QL.wp_dRev, QL.revO_lst, QL.revO_brw, QL.tupleD_lst, QL.tupleD_brw, QL.tupleD_tup, QL.sortSetD_lst, QL.sortG_brw, QL.maxG_brw, QL.minG_brw, QL.ltV_int, QL.leV_int, QL.gtV_int, QL.geV_int, QL.okE_int, QL.okE_non, QL.okE_lst, QL.okE_tup, QL.eqO_brwR, QL.eqO_brwL, ↓QL.wp_forl_nil, ↓QL.wp_forl_cons, QL.forP_nx, QL.forP_ct, QL.forP_bk, QL.forP_rt, QL.eqO_non_int, QL.eqO_int_non, QL.eqO_non_non, QL.eqO_non_tup, QL.eqO_tup_non, sumD_eq, encN_eq, QL.startE, List.map_cons, List.map_nil, List.isEmpty_cons, List.isEmpty_nil, List.append_nil, List.nil_append, List.cons_append, List.length_cons, List.length_nil, Nat.reduceAdd, Nat.reduceSub, Nat.reduceLeDiff, Nat.reduceLT, Nat.reduceMul, Nat.reduceEqDiff, List.replicate_succ, List.replicate_zero, List.getElem?_cons_zero, List.getElem?_cons_succ, List.set_cons_zero, List.set_cons_succ, Option.bind_some, Option.bind_none, Option.some.injEq, QL.D.bl.injEq, QL.D.int.injEq, QL.D.str.injEq, QL.D.lst.injEq, QL.D.tup.injEq, QL.Out.nx.injEq, QL.Out.rt.injEq, QL.Slot.val.injEq, QL.Slot.own.injEq, List.cons.injEq, exists_eq_left, exists_eq_left', exists_eq_right, exists_eq_right', exists_eq, exists_eq', exists_and_left, exists_and_right, decide_eq_true_eq, decide_eq_false_iff_not, Bool.not_true, Bool.not_false, Bool.false_xor, Bool.true_xor, Bool.xor_true, Bool.xor_false, Bool.and_true, Bool.true_and, Bool.and_self, Bool.or_true, Bool.true_or, Bool.or_self, Bool.or_false, Bool.false_or, List.all_cons, List.all_nil, true_and, and_true, and_self, true_or, or_true, if_true, if_false, Bool.not_eq_true', not_false_eq_true, not_true_eq_false, Bool.false_eq_true, Bool.true_eq_false, reduceCtorEq, and_false, false_and, QL.ex_ite, QL.wipeE, QL.noOwn_eq, Option.toList, Int.reduceNeg, Int.reduceToNat, Int.reduceLT, Int.reduceLE, Int.reduceSub, Int.reduceAdd, Int.reduceMul, Int.toNat_zero, Int.cast_ofNat_Int, Int.reduceEq, ite_self, Option.ite_none_right_eq_some])
theorem due_ev {r : Hr} (o : okR r) : pureF v_due_days [eR r, .int (r.h.l : Nat), .int 5] = some (.lst ((dl r 5).map encN)) := by
  have hy := o.y
  have hz := o.z
  refine pureF_eq rfl ?_
  unfold d_due_days
  walk_at "e"
  refine ⟨rngOk_of (by decide) (by decide), ?_⟩
  rw [rngL_eq]
  refine (show D.lst [] = D.lst ((dl r 0).map encN) from rfl) ▸ (show D.int 0 = .int (sq r 0 : Nat) from rfl) ▸ forl_rng (J := Slot × Slot × Slot) 0 5 (fun i j => [.val (eR r), .val (.int (r.h.l : Nat)), .val (.int 5), .val (.int (r.h.t : Nat)), .val (.int (r.h.b : Nat)), .val (.int (r.y : Nat)), .val (.int (r.z : Nat)), .own (.lst ((dl r i).map encN)), .val (.int (sq r i : Nat)), j.1, j.2.1, j.2.2]) (_, _, _) () (fun k hk j => ?_) (fun j => ?_)
  · rw [rE_int]
    have hs := sq_le o k (by omega)
    have hB := B_le o.h (sq r k)
    have hl := dl_len r k
    walk_at "e"
    unfold d_due_days_b1
    walk_at "e"
    rw [blasts_ev o.h _ (by omega)]
    walk_at "e"
    rw [show ((B r.h (sq r k) : Nat) : Int) + (r.y : Int) = ((B r.h (sq r k) + r.y : Nat) : Int) by omega, fd_ev o.h _ (by omega)]
    walk_at "e"
    have e : (if ((sq r k : Nat) : Int) + 1 > (if ((sq r k : Nat) : Int) + (r.z : Int) < ((fdF r.h (B r.h (sq r k) + r.y) : Nat) : Int) then ((sq r k : Nat) : Int) + (r.z : Int) else ((fdF r.h (B r.h (sq r k) + r.y) : Nat) : Int)) then ((sq r k : Nat) : Int) + 1 else (if ((sq r k : Nat) : Int) + (r.z : Int) < ((fdF r.h (B r.h (sq r k) + r.y) : Nat) : Int) then ((sq r k : Nat) : Int) + (r.z : Int) else ((fdF r.h (B r.h (sq r k) + r.y) : Nat) : Int))) = ((sq r (k + 1) : Nat) : Int) := by
      show _ = ((max (min (fdF r.h (B r.h (sq r k) + r.y)) (sq r k + r.z)) (sq r k + 1) : Nat) : Int)
      split <;> split at * <;> omega
    rw [e, atI_last]
    walk_at "e"
    have e5 : (dl r k).map encN ++ [.int (sq r (k + 1) : Nat)] = (dl r (k + 1)).map encN := by rw [dl_succ, List.map_append]; rfl
    rw [e5]
    exact ⟨by rw [List.length_map]; omega, fr_nx (_, _, _) id rfl⟩
  · walk_at "e"
theorem ldues_ev {r : Hr} (o : okR r) : pureF v__law_dues [eR r, .int (r.h.l : Nat), .int 5] = some (.lst ((dl r 5).map encN)) := by
  have hy := o.y
  have hz := o.z
  refine pureF_eq rfl ?_
  unfold d__law_dues
  walk_at "e"
  refine whl_inv (fun n ρ _ => ∃ (k day : Nat) (j : Slot), n = 31 - day ∧ k ≤ 5 ∧ sq r k ≤ day ∧ (k < 5 → day < sq r (k + 1)) ∧ day ≤ 30 ∧ ρ = [.val (eR r), .val (.int (r.h.l : Nat)), .val (.int 5), .val (.int (r.h.t : Nat)), .val (.int (r.h.b : Nat)), .val (.int (r.y : Nat)), .val (.int (r.z : Nat)), .own (.lst ((dl r k).map encN)), .val (.int (sq r k : Nat)), .val (.int (day : Nat)), j]) 31 (by unfold FUEL; omega) ⟨0, 0, _, rfl, by decide, Nat.le_refl _, fun _ => ?_, by decide, rfl⟩ (fun n ρ s ⟨k, day, j, e1, h1, h2, h3, h4, e2⟩ => ?_)
  · exact (nx_spec o.h o.y.1 o.z.1 (last := 0) (by rw [B_zero]; omega)).1
  subst e2
  have hl := dl_len r k
  walk_at "e"
  refine ⟨fun cc => ?_, fun cc => ?_⟩
  · rw [List.length_map, hl] at cc
    rw [show k = 5 by omega]
  · rw [List.length_map, hl] at cc
    have hk : k < 5 := by omega
    have hs := sq_le o k h1
    have hB := B_le o.h (sq r k)
    obtain ⟨n1, n2, n3, n4⟩ := nx_spec o.h o.y.1 o.z.1 (last := sq r k) (y := r.y) (by omega)
    have es : sq r (k + 1) = nx r.h r.y r.z (sq r k) := rfl
    rw [← es] at n1 n2 n3 n4
    have h3' := h3 hk
    have key : cond r.h r.y r.z (sq r k) (day + 1) → day + 1 = sq r (k + 1) := fun c => by
      by_cases z : day + 1 < sq r (k + 1)
      · exact absurd c (n4 _ (by omega) z)
      · omega
    have key2 : ¬ cond r.h r.y r.z (sq r k) (day + 1) → day + 1 < sq r (k + 1) := fun c => by
      by_cases z : day + 1 = sq r (k + 1)
      · rw [z] at c; exact absurd n3 c
      · omega
    unfold d__law_dues_b1
    walk_at "e"
    rw [show ((day : Int) + 1) = ((day + 1 : Nat) : Int) by omega, lblasts_ev o.h (day + 1) (by omega)]
    walk_at "e"
    rw [lblasts_ev o.h (sq r k) (by omega)]
    walk_at "e"
    have yes : day + 1 = sq r (k + 1) → k + 1 < 5 → day + 1 < sq r (k + 1 + 1) := fun e hk5 => by
      have hs5 := sq_le o (k + 1) (by omega)
      have hB5 := B_le o.h (sq r (k + 1))
      have := (nx_spec o.h o.y.1 o.z.1 (last := sq r (k + 1)) (y := r.y) (by omega)).1
      show _ < nx r.h r.y r.z (sq r (k + 1))
      omega
    by_cases c1 : (r.y : Int) ≤ ((B r.h (day + 1) : Nat) : Int) - ((B r.h (sq r k) : Nat) : Int)
    · have e := key (.inl (by omega))
      rw [if_pos c1]
      have e5 : (dl r k).map encN ++ [.int (day + 1 : Nat)] = (dl r (k + 1)).map encN := by rw [dl_succ, List.map_append, e]; rfl
      rw [e5]
      refine ⟨by rw [List.length_map]; omega, .inl ⟨_, .inl rfl, 31 - (day + 1), by omega, k + 1, day + 1, rfl, by omega, by omega, yes e, by omega, _, by rw [← e]⟩⟩
    · rw [if_neg c1]
      by_cases c2 : (r.z : Int) ≤ ((day + 1 : Nat) : Int) - ((sq r k : Nat) : Int)
      · have e := key (.inr (by omega))
        rw [if_pos c2]
        have e5 : (dl r k).map encN ++ [.int (day + 1 : Nat)] = (dl r (k + 1)).map encN := by rw [dl_succ, List.map_append, e]; rfl
        rw [e5]
        refine ⟨by rw [List.length_map]; omega, .inl ⟨_, .inl rfl, 31 - (day + 1), by omega, k + 1, day + 1, rfl, by omega, by omega, yes e, by omega, _, by rw [← e]⟩⟩
      · have e := key2 (fun c => c.elim (fun z => c1 (by omega)) fun z => c2 (by omega))
        rw [if_neg c2]
        exact .inl ⟨_, .inl rfl, 31 - (day + 1), by omega, k, day + 1, rfl, h1, by omega, fun _ => e, by omega, _, rfl⟩
end K_k44
end
section
set_option Elab.async false
set_option linter.all false
set_option maxRecDepth 100000
set_option maxHeartbeats 4000000
open QL
local macro_rules | `(tactic| walk_at "ev") => `(tactic| simp only [QL.optP_some, QL.optP_none, QL.optP_ite, ↓QL.wp_some, ↓QL.wp_none, ↓QL.wp_mr, ↓QL.wp_ml, ↓QL.wp_mb, QL.LIM_eq, QL.strip_int', QL.strip_bl, QL.strip_str', QL.strip_non, QL.strip_hd, QL.strip_lst, QL.strip_tup, QL.strip_brw, QL.plain_int, QL.plain_bl, QL.plain_str, QL.plain_non, QL.plain_hd, QL.plain_lst, QL.plain_tup, QL.plain_brw, QL.plO_eq, QL.scal0_int, QL.scal0_bl, QL.scal0_non, QL.addD_int, QL.subD_int, QL.mulD_int, QL.small64_eq, QL.fdivD_int, QL.modD_int, QL.negD_int, QL.ltD_int, QL.leD_int, QL.gtD_int, QL.geD_int, QL.isND_non, QL.isND_int, QL.isND_bl, QL.isND_str, QL.isND_tup, QL.isND_lst, QL.str2_str, QL.eqO_str, QL.eqO_int, QL.eqO_bl, QL.idxD_lst, QL.idxD_tup, QL.idxD_brw, QL.atI_zero, QL.atI_one, QL.atI_two, QL.atI_three, QL.atI_four, QL.atI_five, QL.addD_tup, QL.truD_bl, QL.truD_int, QL.truD_non, QL.truD_lst, QL.truD_tup, QL.rds_val, QL.rds_own, QL.rds_non, QL.rds_deep, ↓QL.wp_dVar, ↓QL.wp_dC, ↓QL.wp_dOp, ↓QL.wp_dU, ↓QL.wp_dNil, ↓QL.wp_dCons, ↓QL.wp_dTup, ↓QL.wp_dPl, ↓QL.wp_dFz, QL.blO_bl, ↓QL.wp_dTst, ↓QL.wp_dTru, ↓QL.wp_dAnd, ↓QL.wp_dOr, ↓QL.wp_dNot, ↓QL.wp_dAndV, ↓QL.wp_dOrV, ↓QL.wp_dNotV, ↓QL.wp_dIf, ↓QL.wp_dChn, ↓QL.wp_dCall, ↓QL.wp_dCallR, ↓QL.wp_dB, ↓QL.wp_dBN, QL.lenD_lst, QL.lenD_tup, QL.lenD_brw, QL.absD_int, QL.intD_int, QL.intD_bl, QL.max2D_int, QL.min2D_int, QL.lst1_lst, QL.lst1_brw, QL.listD_lst, QL.listD_tup, QL.listD_brw, ↓QL.wp_dIS, QL.seqO_lst, QL.seqO_tup, ↓QL.wp_dIR, QL.optP_rng1, QL.optP_rng2, QL.enuD_lst, QL.zipD_lst, ↓QL.wp_dNoP, QL.intO_int, ↓QL.wp_dPrt, QL.optP_lrg, ↓QL.wp_dLrg1, QL.sortD_lst, QL.sortD_brw, QL.slA_lst, QL.slA_brw, QL.slA_tup, ↓QL.wp_dSlA, QL.slO_lst, QL.slO_brw, ↓QL.wp_dSl, QL.seqP_nx, QL.seqP_rt, QL.seqP_bk, QL.seqP_ct, ↓QL.wp_dSeq, ↓QL.wp_dNx, ↓QL.wp_dPass, ↓QL.wp_dBrk, ↓QL.wp_dCnt, ↓QL.wp_dRetN, ↓QL.wp_dRet, ↓QL.wp_dExpr, ↓QL.wp_dIfS, ↓QL.wp_dAsg, QL.gN_eq, QL.gNil_nil, QL.gCons_cons, QL.gTp_tup, ↓QL.wp_dSetO, ↓QL.wp_dSetF, ↓QL.wp_dParNN, ↓QL.wp_dParNE, ↓QL.wp_dParEN, QL.parO_two, ↓QL.wp_dPar, QL.ownS_own, ↓QL.wp_dApp, ↓QL.wp_dStI, ↓QL.wp_dExt, QL.lstO_lst, ↓QL.wp_dFrz, QL.frzS_own, QL.frzS_val, QL.frzS_non, QL.frz_zero, QL.frz_succ, ↓QL.wp_dNEN, ↓QL.wp_dEEN, ↓QL.wp_dENE, ↓QL.wp_dCat, QL.catO_ll, QL.catO_bl, QL.catO_lb, QL.catO_bb, ↓QL.wp_dFor, ↓QL.wp_lcl_nil, ↓QL.wp_lcl_cons, QL.rngL_length, QL.rE_zero, ↓QL.wp_dLc, QL.notOwn_val, QL.notOwn_non, QL.notOwn_own, QL.notOwn_deep, QL.notOwn_jk, ↓QL.wp_lc1, ↓QL.wp_dYes, QL.fit_int, QL.fit_bl, QL.fit_non, QL.fit_lst, QL.fit_tup, QL.ex_and_eq, ↓QL.wp_dIdx, ↓QL.wp_dRev, QL.revO_lst, QL.revO_brw, QL.tupleD_lst, QL.tupleD_brw, QL.tupleD_tup, QL.sortSetD_lst, QL.sortG_brw, QL.maxG_brw, QL.minG_brw, QL.ltV_int, QL.leV_int, QL.gtV_int, QL.geV_int, QL.okE_int, QL.okE_non, QL.okE_lst, QL.okE_tup, QL.eqO_brwR, QL.eqO_brwL, ↓QL.wp_forl_nil, ↓QL.wp_forl_cons, QL.forP_nx, QL.forP_ct, QL.forP_bk, QL.forP_rt, QL.eqO_non_int, QL.eqO_int_non, QL.eqO_non_non, QL.eqO_non_tup, QL.eqO_tup_non, QL.startE, List.map_cons, List.map_nil, List.isEmpty_cons, List.isEmpty_nil, List.append_nil, List.nil_append, List.cons_append, List.length_cons, List.length_nil, Nat.reduceAdd, Nat.reduceSub, Nat.reduceLeDiff, Nat.reduceLT, Nat.reduceMul, Nat.reduceEqDiff, List.replicate_succ, List.replicate_zero, List.getElem?_cons_zero, List.getElem?_cons_succ, List.set_cons_zero, List.set_cons_succ, Option.bind_some, Option.bind_none, Option.some.injEq, QL.D.bl.injEq, QL.D.int.injEq, QL.D.str.injEq, QL.D.lst.injEq, QL.D.tup.injEq, QL.Out.nx.injEq, QL.Out.rt.injEq, QL.Slot.val.injEq, QL.Slot.own.injEq, List.cons.injEq, exists_eq_left, exists_eq_left', exists_eq_right, exists_eq_right', exists_eq, exists_eq', exists_and_left, exists_and_right, decide_eq_true_eq, decide_eq_false_iff_not, Bool.not_true, Bool.not_false, Bool.false_xor, Bool.true_xor, Bool.xor_true, Bool.xor_false, Bool.and_true, Bool.true_and, Bool.and_self, Bool.or_true, Bool.true_or, Bool.or_self, Bool.or_false, Bool.false_or, List.all_cons, List.all_nil, true_and, and_true, and_self, true_or, or_true, if_true, if_false, Bool.not_eq_true', not_false_eq_true, not_true_eq_false, Bool.false_eq_true, Bool.true_eq_false, reduceCtorEq, and_false, false_and, QL.ex_ite, QL.wipeE, QL.noOwn_eq, Option.toList, Int.reduceNeg, Int.reduceToNat, Int.reduceLT, Int.reduceLE, Int.reduceSub, Int.reduceAdd, Int.reduceMul, Int.toNat_zero, Int.cast_ofNat_Int, Int.reduceEq, ite_self, Option.ite_none_right_eq_some])
local macro_rules | `(tactic| walk_at "e") => `(tactic| try simp only [QL.optP_some, QL.optP_none, QL.optP_ite, ↓QL.wp_some, ↓QL.wp_none, ↓QL.wp_mr, ↓QL.wp_ml, ↓QL.wp_mb, QL.LIM_eq, QL.strip_int', QL.strip_bl, QL.strip_str', QL.strip_non, QL.strip_hd, QL.strip_lst, QL.strip_tup, QL.strip_brw, QL.plain_int, QL.plain_bl, QL.plain_str, QL.plain_non, QL.plain_hd, QL.plain_lst, QL.plain_tup, QL.plain_brw, QL.plO_eq, QL.scal0_int, QL.scal0_bl, QL.scal0_non, QL.addD_int, QL.subD_int, QL.mulD_int, QL.small64_eq, QL.fdivD_int, QL.modD_int, QL.negD_int, QL.ltD_int, QL.leD_int, QL.gtD_int, QL.geD_int, QL.isND_non, QL.isND_int, QL.isND_bl, QL.isND_str, QL.isND_tup, QL.isND_lst, QL.str2_str, QL.eqO_str, QL.eqO_int, QL.eqO_bl, QL.idxD_lst, QL.idxD_tup, QL.idxD_brw, QL.atI_zero, QL.atI_one, QL.atI_two, QL.atI_three, QL.atI_four, QL.atI_five, QL.addD_tup, QL.truD_bl, QL.truD_int, QL.truD_non, QL.truD_lst, QL.truD_tup, QL.rds_val, QL.rds_own, QL.rds_non, QL.rds_deep, ↓QL.wp_dVar, ↓QL.wp_dC, ↓QL.wp_dOp, ↓QL.wp_dU, ↓QL.wp_dNil, ↓QL.wp_dCons, ↓QL.wp_dTup, ↓QL.wp_dPl, ↓QL.wp_dFz, QL.blO_bl, ↓QL.wp_dTst, ↓QL.wp_dTru, ↓QL.wp_dAnd, ↓QL.wp_dOr, ↓QL.wp_dNot, ↓QL.wp_dAndV, ↓QL.wp_dOrV, ↓QL.wp_dNotV, ↓QL.wp_dIf, ↓QL.wp_dChn, ↓QL.wp_dCall, ↓QL.wp_dCallR, ↓QL.wp_dB, ↓QL.wp_dBN, QL.lenD_lst, QL.lenD_tup, QL.lenD_brw, QL.absD_int, QL.intD_int, QL.intD_bl, QL.max2D_int, QL.min2D_int, QL.lst1_lst, QL.lst1_brw, QL.listD_lst, QL.listD_tup, QL.listD_brw, ↓QL.wp_dIS, QL.seqO_lst, QL.seqO_tup, ↓QL.wp_dIR, QL.optP_rng1, QL.optP_rng2, QL.enuD_lst, QL.zipD_lst, ↓QL.wp_dNoP, QL.intO_int, ↓QL.wp_dPrt, QL.optP_lrg, ↓QL.wp_dLrg1, QL.sortD_lst, QL.sortD_brw, QL.slA_lst, QL.slA_brw, QL.slA_tup, ↓QL.wp_dSlA, QL.slO_lst, QL.slO_brw, ↓QL.wp_dSl, QL.seqP_nx, QL.seqP_rt, QL.seqP_bk, QL.seqP_ct, ↓QL.wp_dSeq, ↓QL.wp_dNx, ↓QL.wp_dPass, ↓QL.wp_dBrk, ↓QL.wp_dCnt, ↓QL.wp_dRetN, ↓QL.wp_dRet, ↓QL.wp_dExpr, ↓QL.wp_dIfS, ↓QL.wp_dAsg, QL.gN_eq, QL.gNil_nil, QL.gCons_cons, QL.gTp_tup, ↓QL.wp_dSetO, ↓QL.wp_dSetF, ↓QL.wp_dParNN, ↓QL.wp_dParNE, ↓QL.wp_dParEN, QL.parO_two, ↓QL.wp_dPar, QL.ownS_own, ↓QL.wp_dApp, ↓QL.wp_dStI, ↓QL.wp_dExt, QL.lstO_lst, ↓QL.wp_dFrz, QL.frzS_own, QL.frzS_val, QL.frzS_non, QL.frz_zero, QL.frz_succ, ↓QL.wp_dNEN, ↓QL.wp_dEEN, ↓QL.wp_dENE, ↓QL.wp_dCat, QL.catO_ll, QL.catO_bl, QL.catO_lb, QL.catO_bb, ↓QL.wp_dFor, ↓QL.wp_lcl_nil, ↓QL.wp_lcl_cons, QL.rngL_length, QL.rE_zero, ↓QL.wp_dLc, QL.notOwn_val, QL.notOwn_non, QL.notOwn_own, QL.notOwn_deep, QL.notOwn_jk, ↓QL.wp_lc1, ↓QL.wp_dYes, QL.fit_int, QL.fit_bl, QL.fit_non, QL.fit_lst, QL.fit_tup, QL.ex_and_eq, ↓QL.wp_dIdx, ↓QL.wp_dRev, QL.revO_lst, QL.revO_brw, QL.tupleD_lst, QL.tupleD_brw, QL.tupleD_tup, QL.sortSetD_lst, QL.sortG_brw, QL.maxG_brw, QL.minG_brw, QL.ltV_int, QL.leV_int, QL.gtV_int, QL.geV_int, QL.okE_int, QL.okE_non, QL.okE_lst, QL.okE_tup, QL.eqO_brwR, QL.eqO_brwL, ↓QL.wp_forl_nil, ↓QL.wp_forl_cons, QL.forP_nx, QL.forP_ct, QL.forP_bk, QL.forP_rt, QL.eqO_non_int, QL.eqO_int_non, QL.eqO_non_non, QL.eqO_non_tup, QL.eqO_tup_non, QL.startE, List.map_cons, List.map_nil, List.isEmpty_cons, List.isEmpty_nil, List.append_nil, List.nil_append, List.cons_append, List.length_cons, List.length_nil, Nat.reduceAdd, Nat.reduceSub, Nat.reduceLeDiff, Nat.reduceLT, Nat.reduceMul, Nat.reduceEqDiff, List.replicate_succ, List.replicate_zero, List.getElem?_cons_zero, List.getElem?_cons_succ, List.set_cons_zero, List.set_cons_succ, Option.bind_some, Option.bind_none, Option.some.injEq, QL.D.bl.injEq, QL.D.int.injEq, QL.D.str.injEq, QL.D.lst.injEq, QL.D.tup.injEq, QL.Out.nx.injEq, QL.Out.rt.injEq, QL.Slot.val.injEq, QL.Slot.own.injEq, List.cons.injEq, exists_eq_left, exists_eq_left', exists_eq_right, exists_eq_right', exists_eq, exists_eq', exists_and_left, exists_and_right, decide_eq_true_eq, decide_eq_false_iff_not, Bool.not_true, Bool.not_false, Bool.false_xor, Bool.true_xor, Bool.xor_true, Bool.xor_false, Bool.and_true, Bool.true_and, Bool.and_self, Bool.or_true, Bool.true_or, Bool.or_self, Bool.or_false, Bool.false_or, List.all_cons, List.all_nil, true_and, and_true, and_self, true_or, or_true, if_true, if_false, Bool.not_eq_true', not_false_eq_true, not_true_eq_false, Bool.false_eq_true, Bool.true_eq_false, reduceCtorEq, and_false, false_and, QL.ex_ite, QL.wipeE, QL.noOwn_eq, Option.toList, Int.reduceNeg, Int.reduceToNat, Int.reduceLT, Int.reduceLE, Int.reduceSub, Int.reduceAdd, Int.reduceMul, Int.toNat_zero, Int.cast_ofNat_Int, Int.reduceEq, ite_self, Option.ite_none_right_eq_some])
namespace K_k44
/-! greedy days -/
def gd (e : Int) : Option Int → List Int → List Int
  | _, [] => []
  | none, x :: xs => x :: gd e (some x) xs
  | some l, x :: xs => if l < x - e then x :: gd e (some x) xs else gd e (some l) xs
def stepD (e : Int) (ds : List Int) (x : Int) : List Int := match ds.getLast? with
  | none => ds ++ [x]
  | some l => if l < x - e then ds ++ [x] else ds
theorem fold_gd (e : Int) : ∀ (xs ds : List Int), xs.foldl (stepD e) ds = ds ++ gd e ds.getLast? xs
  | [], ds => by simp [gd]
  | x :: xs, ds => by
    rw [List.foldl_cons, fold_gd e xs]
    unfold stepD
    cases h : ds.getLast? with
    | none => simp [gd]
    | some l =>
      dsimp only
      by_cases c : l < x - e
      · rw [if_pos c]; simp [gd, c]
      · rw [if_neg c, h]; simp [gd, c]
def days (e : Int) (L : List Int) : List Int := gd e none (sortI L)
theorem days_fold (e : Int) (L : List Int) : (sortI L).foldl (stepD e) [] = days e L := by rw [fold_gd]; rfl
theorem gd_sub (e : Int) : ∀ (l : Option Int) (xs : List Int), (gd e l xs).Sublist xs
  | _, [] => by simp [gd]
  | none, x :: xs => by unfold gd; exact (gd_sub e (some x) xs).cons₂ x
  | some l, x :: xs => by
    unfold gd
    split
    · exact (gd_sub e (some x) xs).cons₂ x
    · exact (gd_sub e (some l) xs).cons x
theorem gd_far {e : Int} (he : 0 ≤ e) : ∀ (l : Option Int) (xs : List Int), xs.Pairwise (· ≤ ·) → (∀ d, l = some d → ∀ y ∈ gd e l xs, d < y - e) ∧ (gd e l xs).Pairwise fun a b => a < b - e
  | _, [], _ => ⟨fun _ _ y h => by simp [gd] at h, by simp [gd]⟩
  | none, x :: xs, h => by
    unfold gd
    obtain ⟨h1, h2⟩ := gd_far he (some x) xs h.of_cons
    exact ⟨fun _ z => (by cases z), List.pairwise_cons.mpr ⟨fun y hy => h1 x rfl y hy, h2⟩⟩
  | some l, x :: xs, h => by
    unfold gd
    by_cases c : l < x - e
    · rw [if_pos c]
      obtain ⟨h1, h2⟩ := gd_far he (some x) xs h.of_cons
      refine ⟨fun d hd y hy => ?_, List.pairwise_cons.mpr ⟨fun y hy => h1 x rfl y hy, h2⟩⟩
      cases hd
      rcases List.mem_cons.mp hy with rfl | hy
      · exact c
      · have := h1 x rfl y hy; omega
    · rw [if_neg c]
      exact gd_far he (some l) xs h.of_cons
theorem gd_cov {e : Int} (he : 0 ≤ e) : ∀ (l : Option Int) (xs : List Int), xs.Pairwise (· ≤ ·) → (∀ d, l = some d → ∀ x ∈ xs, d ≤ x) → ∀ x ∈ xs, ∃ d, (d ∈ gd e l xs ∨ l = some d) ∧ x - e ≤ d ∧ d ≤ x
  | _, [], _, _, x, h => by cases h
  | none, y :: xs, h, _, x, hx => by
    unfold gd
    have hy := (List.pairwise_cons.mp h).1
    rcases List.mem_cons.mp hx with rfl | hx
    · exact ⟨x, .inl List.mem_cons_self, by omega, by omega⟩
    · obtain ⟨d, h1, h2⟩ := gd_cov he (some y) xs h.of_cons (fun d hd z hz => by cases hd; exact hy z hz) x hx
      rcases h1 with h1 | h1
      · exact ⟨d, .inl (List.mem_cons_of_mem _ h1), h2⟩
      · cases h1; exact ⟨y, .inl List.mem_cons_self, h2⟩
  | some l, y :: xs, h, hl, x, hx => by
    unfold gd
    have hy := (List.pairwise_cons.mp h).1
    by_cases c : l < y - e
    · rw [if_pos c]
      rcases List.mem_cons.mp hx with rfl | hx
      · exact ⟨x, .inl List.mem_cons_self, by omega, by omega⟩
      · obtain ⟨d, h1, h2⟩ := gd_cov he (some y) xs h.of_cons (fun d hd z hz => by cases hd; exact hy z hz) x hx
        rcases h1 with h1 | h1
        · exact ⟨d, .inl (List.mem_cons_of_mem _ h1), h2⟩
        · cases h1; exact ⟨y, .inl List.mem_cons_self, h2⟩
    · rw [if_neg c]
      rcases List.mem_cons.mp hx with rfl | hx
      · exact ⟨l, .inr rfl, by omega, hl l rfl x List.mem_cons_self⟩
      · exact gd_cov he (some l) xs h.of_cons (fun d hd z hz => hl d hd z (List.mem_cons_of_mem _ hz)) x hx
def enough (L : List Int) (e : Int) (lot : List Int) : Prop := ∀ x ∈ L, ∃ d ∈ lot, x - e ≤ d ∧ d ≤ x
theorem days_enough {e : Int} (he : 0 ≤ e) (L : List Int) : enough L e (days e L) := fun x hx => by
  obtain ⟨d, h1, h2⟩ := gd_cov he none (sortI L) (sortI_sorted L) (fun d z => by cases z) x ((sortI_perm L).mem_iff.mpr hx)
  rcases h1 with h1 | h1
  · exact ⟨d, h1, h2⟩
  · cases h1
theorem days_far {e : Int} (he : 0 ≤ e) (L : List Int) : (days e L).Pairwise fun a b => a < b - e := (gd_far he none (sortI L) (sortI_sorted L)).2
theorem days_mem {e : Int} {L : List Int} {d : Int} (h : d ∈ days e L) : d ∈ L := (sortI_perm L).mem_iff.mp ((gd_sub e none (sortI L)).mem h)
theorem days_lt {e : Int} (he : 0 ≤ e) (L : List Int) : (days e L).Pairwise (· < ·) := (days_far he L).imp fun h => by omega
/-- a lot that is enough holds one day for each -/
theorem far_le {e : Int} (he : 0 ≤ e) : ∀ (ds lot : List Int), ds.Pairwise (fun a b => a < b - e) → lot.Pairwise (· < ·) → (∀ x ∈ ds, ∃ d ∈ lot, x - e ≤ d ∧ d ≤ x) → ds.length ≤ lot.length
  | [], _, _, _, _ => Nat.zero_le _
  | x :: ds, lot, h, hl, hx => by
    have h1 := List.pairwise_cons.mp h
    -- what is later than x
    have hf : (lot.filter fun d => decide (x < d)).length < lot.length := by
      obtain ⟨d, hd, h3⟩ := hx x List.mem_cons_self
      by_cases c : (lot.filter fun d => decide (x < d)).length = lot.length
      · have := List.filter_eq_self.mp (List.filter_sublist.eq_of_length c) d hd
        have := of_decide_eq_true this
        omega
      · have := List.length_filter_le (fun d => decide (x < d)) lot
        omega
    have ih := far_le he ds (lot.filter fun d => decide (x < d)) h1.2 (hl.sublist List.filter_sublist) fun y hy => by
      obtain ⟨d, hd, h3⟩ := hx y (List.mem_cons_of_mem _ hy)
      have := h1.1 y hy
      exact ⟨d, List.mem_filter.mpr ⟨hd, decide_eq_true (by omega)⟩, h3⟩
    rw [List.length_cons]; omega
/-! lots -/
def lotsF (rows : List Int) : List (List Int) := rows.foldl (fun f x => f ++ f.map (· ++ [x])) [[]]
theorem lots_snoc (rows : List Int) (x : Int) : lotsF (rows ++ [x]) = lotsF rows ++ (lotsF rows).map (· ++ [x]) := by
  unfold lotsF; rw [List.foldl_append]; rfl
theorem lots_mem : ∀ (n : Nat) (rows : List Int), rows.length = n → ∀ lot, lot ∈ lotsF rows ↔ lot.Sublist rows := by
  intro n
  induction n with
  | zero =>
    intro rows h lot
    rw [List.length_eq_zero_iff.mp h]
    unfold lotsF
    simp
  | succ n ih =>
    intro rows h lot
    have hne : rows ≠ [] := fun z => by rw [z] at h; cases h
    obtain ⟨l', y, rfl⟩ : ∃ l' y, rows = l' ++ [y] := ⟨rows.dropLast, rows.getLast hne, (List.dropLast_concat_getLast hne).symm⟩
    have hl : l'.length = n := by rw [List.length_append] at h; simpa using h
    rw [lots_snoc, List.mem_append, ih l' hl, List.mem_map]
    constructor
    · rintro (h | ⟨k, hk, rfl⟩)
      · exact h.trans (List.sublist_append_left _ _)
      · exact List.Sublist.append ((ih l' hl k).mp hk) (List.Sublist.refl _)
    · intro h
      obtain ⟨a, b, rfl, h1, h2⟩ := List.sublist_append_iff.mp h
      have hb : b = [] ∨ b = [y] := by
        cases h2 with
        | cons _ h => exact .inl (List.sublist_nil.mp h)
        | cons_cons _ h => right; rw [List.sublist_nil.mp h]
      rcases hb with rfl | rfl
      · left; rw [List.append_nil]; exact h1
      · right; exact ⟨a, (ih l' hl a).mpr h1, rfl⟩
theorem lots_len (rows : List Int) : (lotsF rows).length = 2 ^ rows.length := by
  have key : ∀ (rows : List Int) (f : List (List Int)), (rows.foldl (fun f x => f ++ f.map (· ++ [x])) f).length = f.length * 2 ^ rows.length := by
    intro rows
    induction rows with
    | nil => intro f; simp
    | cons x rows ih =>
      intro f
      rw [List.foldl_cons, ih, List.length_append, List.length_map, List.length_cons, Nat.pow_succ, ← Nat.mul_two, Nat.mul_assoc, Nat.mul_comm 2]
  unfold lotsF
  rw [key]; simp
theorem uniq_sorted_sub {ds L : List Int} (h : ds.Pairwise (· < ·)) (hs : ∀ x ∈ ds, x ∈ L) : ds.Sublist (uniqI L) := by
  have : ds = (uniqI L).filter fun x => decide (x ∈ ds) := uniq_eq h ((pw_uniqI L).sublist List.filter_sublist) fun a => by
    rw [List.mem_filter, mem_uniqI, decide_eq_true_eq]
    exact ⟨fun z => ⟨hs a z, z⟩, fun z => z.2⟩
  rw [this]
  exact List.filter_sublist
end K_k44
end
section
set_option Elab.async false
set_option linter.all false
set_option maxRecDepth 100000
set_option maxHeartbeats 4000000
open QL
local macro_rules | `(tactic| walk_at "ev") => `(tactic| simp only [QL.optP_some, QL.optP_none, QL.optP_ite, ↓QL.wp_some, ↓QL.wp_none, ↓QL.wp_mr, ↓QL.wp_ml, ↓QL.wp_mb, QL.LIM_eq, QL.strip_int', QL.strip_bl, QL.strip_str', QL.strip_non, QL.strip_hd, QL.strip_lst, QL.strip_tup, QL.strip_brw, QL.plain_int, QL.plain_bl, QL.plain_str, QL.plain_non, QL.plain_hd, QL.plain_lst, QL.plain_tup, QL.plain_brw, QL.plO_eq, QL.scal0_int, QL.scal0_bl, QL.scal0_non, QL.addD_int, QL.subD_int, QL.mulD_int, QL.small64_eq, QL.fdivD_int, QL.modD_int, QL.negD_int, QL.ltD_int, QL.leD_int, QL.gtD_int, QL.geD_int, QL.isND_non, QL.isND_int, QL.isND_bl, QL.isND_str, QL.isND_tup, QL.isND_lst, QL.str2_str, QL.eqO_str, QL.eqO_int, QL.eqO_bl, QL.idxD_lst, QL.idxD_tup, QL.idxD_brw, QL.atI_zero, QL.atI_one, QL.atI_two, QL.atI_three, QL.atI_four, QL.atI_five, QL.addD_tup, QL.truD_bl, QL.truD_int, QL.truD_non, QL.truD_lst, QL.truD_tup, QL.rds_val, QL.rds_own, QL.rds_non, QL.rds_deep, ↓QL.wp_dVar, ↓QL.wp_dC, ↓QL.wp_dOp, ↓QL.wp_dU, ↓QL.wp_dNil, ↓QL.wp_dCons, ↓QL.wp_dTup, ↓QL.wp_dPl, ↓QL.wp_dFz, QL.blO_bl, ↓QL.wp_dTst, ↓QL.wp_dTru, ↓QL.wp_dAnd, ↓QL.wp_dOr, ↓QL.wp_dNot, ↓QL.wp_dAndV, ↓QL.wp_dOrV, ↓QL.wp_dNotV, ↓QL.wp_dIf, ↓QL.wp_dChn, ↓QL.wp_dCall, ↓QL.wp_dCallR, ↓QL.wp_dB, ↓QL.wp_dBN, QL.lenD_lst, QL.lenD_tup, QL.lenD_brw, QL.absD_int, QL.intD_int, QL.intD_bl, QL.max2D_int, QL.min2D_int, QL.lst1_lst, QL.lst1_brw, QL.listD_lst, QL.listD_tup, QL.listD_brw, ↓QL.wp_dIS, QL.seqO_lst, QL.seqO_tup, ↓QL.wp_dIR, QL.optP_rng1, QL.optP_rng2, QL.enuD_lst, QL.zipD_lst, ↓QL.wp_dNoP, QL.intO_int, ↓QL.wp_dPrt, QL.optP_lrg, ↓QL.wp_dLrg1, QL.sortD_lst, QL.sortD_brw, QL.slA_lst, QL.slA_brw, QL.slA_tup, ↓QL.wp_dSlA, QL.slO_lst, QL.slO_brw, ↓QL.wp_dSl, QL.seqP_nx, QL.seqP_rt, QL.seqP_bk, QL.seqP_ct, ↓QL.wp_dSeq, ↓QL.wp_dNx, ↓QL.wp_dPass, ↓QL.wp_dBrk, ↓QL.wp_dCnt, ↓QL.wp_dRetN, ↓QL.wp_dRet, ↓QL.wp_dExpr, ↓QL.wp_dIfS, ↓QL.wp_dAsg, QL.gN_eq, QL.gNil_nil, QL.gCons_cons, QL.gTp_tup, ↓QL.wp_dSetO, ↓QL.wp_dSetF, ↓QL.wp_dParNN, ↓QL.wp_dParNE, ↓QL.wp_dParEN, QL.parO_two, ↓QL.wp_dPar, QL.ownS_own, ↓QL.wp_dApp, ↓QL.wp_dStI, ↓QL.wp_dExt, QL.lstO_lst, ↓QL.wp_dFrz, QL.frzS_own, QL.frzS_val, QL.frzS_non, QL.frz_zero, QL.frz_succ, ↓QL.wp_dNEN, ↓QL.wp_dEEN, ↓QL.wp_dENE, ↓QL.wp_dCat, QL.catO_ll, QL.catO_bl, QL.catO_lb, QL.catO_bb, ↓QL.wp_dFor, ↓QL.wp_lcl_nil, ↓QL.wp_lcl_cons, QL.rngL_length, QL.rE_zero, ↓QL.wp_dLc, QL.notOwn_val, QL.notOwn_non, QL.notOwn_own, QL.notOwn_deep, QL.notOwn_jk, ↓QL.wp_lc1, ↓QL.wp_dYes, QL.fit_int, QL.fit_bl, QL.fit_non, QL.fit_lst, QL.fit_tup, QL.ex_and_eq, ↓QL.wp_dIdx, ↓QL.wp_dRev, QL.revO_lst, QL.revO_brw, QL.tupleD_lst, QL.tupleD_brw, QL.tupleD_tup, QL.sortSetD_lst, QL.sortG_brw, QL.maxG_brw, QL.minG_brw, QL.ltV_int, QL.leV_int, QL.gtV_int, QL.geV_int, QL.okE_int, QL.okE_non, QL.okE_lst, QL.okE_tup, QL.eqO_brwR, QL.eqO_brwL, ↓QL.wp_forl_nil, ↓QL.wp_forl_cons, QL.forP_nx, QL.forP_ct, QL.forP_bk, QL.forP_rt, QL.eqO_non_int, QL.eqO_int_non, QL.eqO_non_non, QL.eqO_non_tup, QL.eqO_tup_non, QL.startE, List.map_cons, List.map_nil, List.isEmpty_cons, List.isEmpty_nil, List.append_nil, List.nil_append, List.cons_append, List.length_cons, List.length_nil, Nat.reduceAdd, Nat.reduceSub, Nat.reduceLeDiff, Nat.reduceLT, Nat.reduceMul, Nat.reduceEqDiff, List.replicate_succ, List.replicate_zero, List.getElem?_cons_zero, List.getElem?_cons_succ, List.set_cons_zero, List.set_cons_succ, Option.bind_some, Option.bind_none, Option.some.injEq, QL.D.bl.injEq, QL.D.int.injEq, QL.D.str.injEq, QL.D.lst.injEq, QL.D.tup.injEq, QL.Out.nx.injEq, QL.Out.rt.injEq, QL.Slot.val.injEq, QL.Slot.own.injEq, List.cons.injEq, exists_eq_left, exists_eq_left', exists_eq_right, exists_eq_right', exists_eq, exists_eq', exists_and_left, exists_and_right, decide_eq_true_eq, decide_eq_false_iff_not, Bool.not_true, Bool.not_false, Bool.false_xor, Bool.true_xor, Bool.xor_true, Bool.xor_false, Bool.and_true, Bool.true_and, Bool.and_self, Bool.or_true, Bool.true_or, Bool.or_self, Bool.or_false, Bool.false_or, List.all_cons, List.all_nil, true_and, and_true, and_self, true_or, or_true, if_true, if_false, Bool.not_eq_true', not_false_eq_true, not_true_eq_false, Bool.false_eq_true, Bool.true_eq_false, reduceCtorEq, and_false, false_and, QL.ex_ite, QL.wipeE, QL.noOwn_eq, Option.toList, Int.reduceNeg, Int.reduceToNat, Int.reduceLT, Int.reduceLE, Int.reduceSub, Int.reduceAdd, Int.reduceMul, Int.toNat_zero, Int.cast_ofNat_Int, Int.reduceEq, ite_self, Option.ite_none_right_eq_some])
local macro_rules | `(tactic| walk_at "e") => `(tactic| try simp only [QL.optP_some, QL.optP_none, QL.optP_ite, ↓QL.wp_some, ↓QL.wp_none, ↓QL.wp_mr, ↓QL.wp_ml, ↓QL.wp_mb, QL.LIM_eq, QL.strip_int', QL.strip_bl, QL.strip_str', QL.strip_non, QL.strip_hd, QL.strip_lst, QL.strip_tup, QL.strip_brw, QL.plain_int, QL.plain_bl, QL.plain_str, QL.plain_non, QL.plain_hd, QL.plain_lst, QL.plain_tup, QL.plain_brw, QL.plO_eq, QL.scal0_int, QL.scal0_bl, QL.scal0_non, QL.addD_int, QL.subD_int, QL.mulD_int, QL.small64_eq, QL.fdivD_int, QL.modD_int, QL.negD_int, QL.ltD_int, QL.leD_int, QL.gtD_int, QL.geD_int, QL.isND_non, QL.isND_int, QL.isND_bl, QL.isND_str, QL.isND_tup, QL.isND_lst, QL.str2_str, QL.eqO_str, QL.eqO_int, QL.eqO_bl, QL.idxD_lst, QL.idxD_tup, QL.idxD_brw, QL.atI_zero, QL.atI_one, QL.atI_two, QL.atI_three, QL.atI_four, QL.atI_five, QL.addD_tup, QL.truD_bl, QL.truD_int, QL.truD_non, QL.truD_lst, QL.truD_tup, QL.rds_val, QL.rds_own, QL.rds_non, QL.rds_deep, ↓QL.wp_dVar, ↓QL.wp_dC, ↓QL.wp_dOp, ↓QL.wp_dU, ↓QL.wp_dNil, ↓QL.wp_dCons, ↓QL.wp_dTup, ↓QL.wp_dPl, ↓QL.wp_dFz, QL.blO_bl, ↓QL.wp_dTst, ↓QL.wp_dTru, ↓QL.wp_dAnd, ↓QL.wp_dOr, ↓QL.wp_dNot, ↓QL.wp_dAndV, ↓QL.wp_dOrV, ↓QL.wp_dNotV, ↓QL.wp_dIf, ↓QL.wp_dChn, ↓QL.wp_dCall, ↓QL.wp_dCallR, ↓QL.wp_dB, ↓QL.wp_dBN, QL.lenD_lst, QL.lenD_tup, QL.lenD_brw, QL.absD_int, QL.intD_int, QL.intD_bl, QL.max2D_int, QL.min2D_int, QL.lst1_lst, QL.lst1_brw, QL.listD_lst, QL.listD_tup, QL.listD_brw, ↓QL.wp_dIS, QL.seqO_lst, QL.seqO_tup, ↓QL.wp_dIR, QL.optP_rng1, QL.optP_rng2, QL.enuD_lst, QL.zipD_lst, ↓QL.wp_dNoP, QL.intO_int, ↓QL.wp_dPrt, QL.optP_lrg, ↓QL.wp_dLrg1, QL.sortD_lst, QL.sortD_brw, QL.slA_lst, QL.slA_brw, QL.slA_tup, ↓QL.wp_dSlA, QL.slO_lst, QL.slO_brw, ↓QL.wp_dSl, QL.seqP_nx, QL.seqP_rt, QL.seqP_bk, QL.seqP_ct, ↓QL.wp_dSeq, ↓QL.wp_dNx, ↓QL.wp_dPass, ↓QL.wp_dBrk, ↓QL.wp_dCnt, ↓QL.wp_dRetN, ↓QL.wp_dRet, ↓QL.wp_dExpr, ↓QL.wp_dIfS, ↓QL.wp_dAsg, QL.gN_eq, QL.gNil_nil, QL.gCons_cons, QL.gTp_tup, ↓QL.wp_dSetO, ↓QL.wp_dSetF, ↓QL.wp_dParNN, ↓QL.wp_dParNE, ↓QL.wp_dParEN, QL.parO_two, ↓QL.wp_dPar, QL.ownS_own, ↓QL.wp_dApp, ↓QL.wp_dStI, ↓QL.wp_dExt, QL.lstO_lst, ↓QL.wp_dFrz, QL.frzS_own, QL.frzS_val, QL.frzS_non, QL.frz_zero, QL.frz_succ, ↓QL.wp_dNEN, ↓QL.wp_dEEN, ↓QL.wp_dENE, ↓QL.wp_dCat, QL.catO_ll, QL.catO_bl, QL.catO_lb, QL.catO_bb, ↓QL.wp_dFor, ↓QL.wp_lcl_nil, ↓QL.wp_lcl_cons, QL.rngL_length, QL.rE_zero, ↓QL.wp_dLc, QL.notOwn_val, QL.notOwn_non, QL.notOwn_own, QL.notOwn_deep, QL.notOwn_jk, ↓QL.wp_lc1, ↓QL.wp_dYes, QL.fit_int, QL.fit_bl, QL.fit_non, QL.fit_lst, QL.fit_tup, QL.ex_and_eq, ↓QL.wp_dIdx, ↓QL.wp_dRev, QL.revO_lst, QL.revO_brw, QL.tupleD_lst, QL.tupleD_brw, QL.tupleD_tup, QL.sortSetD_lst, QL.sortG_brw, QL.maxG_brw, QL.minG_brw, QL.ltV_int, QL.leV_int, QL.gtV_int, QL.geV_int, QL.okE_int, QL.okE_non, QL.okE_lst, QL.okE_tup, QL.eqO_brwR, QL.eqO_brwL, ↓QL.wp_forl_nil, ↓QL.wp_forl_cons, QL.forP_nx, QL.forP_ct, QL.forP_bk, QL.forP_rt, QL.eqO_non_int, QL.eqO_int_non, QL.eqO_non_non, QL.eqO_non_tup, QL.eqO_tup_non, QL.startE, List.map_cons, List.map_nil, List.isEmpty_cons, List.isEmpty_nil, List.append_nil, List.nil_append, List.cons_append, List.length_cons, List.length_nil, Nat.reduceAdd, Nat.reduceSub, Nat.reduceLeDiff, Nat.reduceLT, Nat.reduceMul, Nat.reduceEqDiff, List.replicate_succ, List.replicate_zero, List.getElem?_cons_zero, List.getElem?_cons_succ, List.set_cons_zero, List.set_cons_succ, Option.bind_some, Option.bind_none, Option.some.injEq, QL.D.bl.injEq, QL.D.int.injEq, QL.D.str.injEq, QL.D.lst.injEq, QL.D.tup.injEq, QL.Out.nx.injEq, QL.Out.rt.injEq, QL.Slot.val.injEq, QL.Slot.own.injEq, List.cons.injEq, exists_eq_left, exists_eq_left', exists_eq_right, exists_eq_right', exists_eq, exists_eq', exists_and_left, exists_and_right, decide_eq_true_eq, decide_eq_false_iff_not, Bool.not_true, Bool.not_false, Bool.false_xor, Bool.true_xor, Bool.xor_true, Bool.xor_false, Bool.and_true, Bool.true_and, Bool.and_self, Bool.or_true, Bool.true_or, Bool.or_self, Bool.or_false, Bool.false_or, List.all_cons, List.all_nil, true_and, and_true, and_self, true_or, or_true, if_true, if_false, Bool.not_eq_true', not_false_eq_true, not_true_eq_false, Bool.false_eq_true, Bool.true_eq_false, reduceCtorEq, and_false, false_and, QL.ex_ite, QL.wipeE, QL.noOwn_eq, Option.toList, Int.reduceNeg, Int.reduceToNat, Int.reduceLT, Int.reduceLE, Int.reduceSub, Int.reduceAdd, Int.reduceMul, Int.toNat_zero, Int.cast_ofNat_Int, Int.reduceEq, ite_self, Option.ite_none_right_eq_some])
namespace K_k44
local macro_rules | `(tactic| walk_at "ev") => `(tactic| simp only [QL.optP_some, QL.optP_none, QL.optP_ite, ↓QL.wp_some, ↓QL.wp_none, ↓QL.wp_mr, ↓QL.wp_ml, ↓QL.wp_mb, QL.LIM_eq, QL.strip_int', QL.strip_bl, QL.strip_str', QL.strip_non, QL.strip_hd, QL.strip_lst, QL.strip_tup, QL.strip_brw, QL.plain_int, QL.plain_bl, QL.plain_str, QL.plain_non, QL.plain_hd, QL.plain_lst, QL.plain_tup, QL.plain_brw, QL.plO_eq, QL.scal0_int, QL.scal0_bl, QL.scal0_non, QL.addD_int, QL.subD_int, QL.mulD_int, QL.small64_eq, QL.fdivD_int, QL.modD_int, QL.negD_int, QL.ltD_int, QL.leD_int, QL.gtD_int, QL.geD_int, QL.isND_non, QL.isND_int, QL.isND_bl, QL.isND_str, QL.isND_tup, QL.isND_lst, QL.str2_str, QL.eqO_str, QL.eqO_int, QL.eqO_bl, QL.idxD_lst, QL.idxD_tup, QL.idxD_brw, QL.atI_zero, QL.atI_one, QL.atI_two, QL.atI_three, QL.atI_four, QL.atI_five, QL.addD_tup, QL.truD_bl, QL.truD_int, QL.truD_non, QL.truD_lst, QL.truD_tup, QL.rds_val, QL.rds_own, QL.rds_non, QL.rds_deep, ↓QL.wp_dVar, ↓QL.wp_dC, ↓QL.wp_dOp, ↓QL.wp_dU, ↓QL.wp_dNil, ↓QL.wp_dCons, ↓QL.wp_dTup, ↓QL.wp_dPl, ↓QL.wp_dFz, QL.blO_bl, ↓QL.wp_dTst, ↓QL.wp_dTru, ↓QL.wp_dAnd, ↓QL.wp_dOr, ↓QL.wp_dNot, ↓QL.wp_dAndV, ↓QL.wp_dOrV, ↓QL.wp_dNotV, ↓QL.wp_dIf, ↓QL.wp_dChn, ↓QL.wp_dCall, ↓QL.wp_dCallR, ↓QL.wp_dB, ↓QL.wp_dBN, QL.lenD_lst, QL.lenD_tup, QL.lenD_brw, QL.absD_int, QL.intD_int, QL.intD_bl, QL.max2D_int, QL.min2D_int, QL.lst1_lst, QL.lst1_brw, QL.listD_lst, QL.listD_tup, QL.listD_brw, ↓QL.wp_dIS, QL.seqO_lst, QL.seqO_tup, ↓QL.wp_dIR, QL.optP_rng1, QL.optP_rng2, QL.enuD_lst, QL.zipD_lst, ↓QL.wp_dNoP, QL.intO_int, ↓QL.wp_dPrt, QL.optP_lrg, ↓QL.wp_dLrg1, QL.sortD_lst, QL.sortD_brw, QL.slA_lst, QL.slA_brw, QL.slA_tup, ↓QL.wp_dSlA, QL.slO_lst, QL.slO_brw, ↓QL.wp_dSl, QL.seqP_nx, QL.seqP_rt, QL.seqP_bk, QL.seqP_ct, ↓QL.wp_dSeq, ↓QL.wp_dNx, ↓QL.wp_dPass, ↓QL.wp_dBrk, ↓QL.wp_dCnt, ↓QL.wp_dRetN, ↓QL.wp_dRet, ↓QL.wp_dExpr, ↓QL.wp_dIfS, ↓QL.wp_dAsg, QL.gN_eq, QL.gNil_nil, QL.gCons_cons, QL.gTp_tup, ↓QL.wp_dSetO, ↓QL.wp_dSetF, ↓QL.wp_dParNN, ↓QL.wp_dParNE, ↓QL.wp_dParEN, QL.parO_two, ↓QL.wp_dPar, QL.ownS_own, ↓QL.wp_dApp, ↓QL.wp_dStI, ↓QL.wp_dExt, QL.lstO_lst, ↓QL.wp_dFrz, QL.frzS_own, QL.frzS_val, QL.frzS_non, QL.frz_zero, QL.frz_succ, ↓QL.wp_dNEN, ↓QL.wp_dEEN, ↓QL.wp_dENE, ↓QL.wp_dCat, QL.catO_ll, QL.catO_bl, QL.catO_lb, QL.catO_bb, ↓QL.wp_dFor, ↓QL.wp_lcl_nil, ↓QL.wp_lcl_cons, QL.rngL_length, QL.rE_zero, ↓QL.wp_dLc, QL.notOwn_val, QL.notOwn_non, QL.notOwn_own, QL.notOwn_deep, QL.notOwn_jk, ↓QL.wp_lc1, ↓QL.wp_dYes, QL.fit_int, QL.fit_bl, QL.fit_non, QL.fit_lst, QL.fit_tup, QL.ex_and_eq, ↓QL.wp_dIdx, ↓QL.wp_dRev, QL.revO_lst, QL.revO_brw, QL.tupleD_lst, QL.tupleD_brw, QL.tupleD_tup, QL.sortSetD_lst, QL.sortG_brw, QL.maxG_brw, QL.minG_brw, QL.ltV_int, QL.leV_int, QL.gtV_int, QL.geV_int, QL.okE_int, QL.okE_non, QL.okE_lst, QL.okE_tup, QL.eqO_brwR, QL.eqO_brwL, ↓QL.wp_forl_nil, ↓QL.wp_forl_cons, QL.forP_nx, QL.forP_ct, QL.forP_bk, QL.forP_rt, QL.eqO_non_int, QL.eqO_int_non, QL.eqO_non_non, QL.eqO_non_tup, QL.eqO_tup_non, sumD_eq, encN_eq, QL.startE, List.map_cons, List.map_nil, List.isEmpty_cons, List.isEmpty_nil, List.append_nil, List.nil_append, List.cons_append, List.length_cons, List.length_nil, Nat.reduceAdd, Nat.reduceSub, Nat.reduceLeDiff, Nat.reduceLT, Nat.reduceMul, Nat.reduceEqDiff, List.replicate_succ, List.replicate_zero, List.getElem?_cons_zero, List.getElem?_cons_succ, List.set_cons_zero, List.set_cons_succ, Option.bind_some, Option.bind_none, Option.some.injEq, QL.D.bl.injEq, QL.D.int.injEq, QL.D.str.injEq, QL.D.lst.injEq, QL.D.tup.injEq, QL.Out.nx.injEq, QL.Out.rt.injEq, QL.Slot.val.injEq, QL.Slot.own.injEq, List.cons.injEq, exists_eq_left, exists_eq_left', exists_eq_right, exists_eq_right', exists_eq, exists_eq', exists_and_left, exists_and_right, decide_eq_true_eq, decide_eq_false_iff_not, Bool.not_true, Bool.not_false, Bool.false_xor, Bool.true_xor, Bool.xor_true, Bool.xor_false, Bool.and_true, Bool.true_and, Bool.and_self, Bool.or_true, Bool.true_or, Bool.or_self, Bool.or_false, Bool.false_or, List.all_cons, List.all_nil, true_and, and_true, and_self, true_or, or_true, if_true, if_false, Bool.not_eq_true', not_false_eq_true, not_true_eq_false, Bool.false_eq_true, Bool.true_eq_false, reduceCtorEq, and_false, false_and, QL.ex_ite, QL.wipeE, QL.noOwn_eq, Option.toList, Int.reduceNeg, Int.reduceToNat, Int.reduceLT, Int.reduceLE, Int.reduceSub, Int.reduceAdd, Int.reduceMul, Int.toNat_zero, Int.cast_ofNat_Int, Int.reduceEq, ite_self, Option.ite_none_right_eq_some])
local macro_rules | `(tactic| walk_at "e") => `(tactic| try simp only [QL.optP_some, QL.optP_none, QL.optP_ite, ↓QL.wp_some, ↓QL.wp_none, ↓QL.wp_mr, ↓QL.wp_ml, ↓QL.wp_mb, QL.LIM_eq, QL.strip_int', QL.strip_bl, QL.strip_str', QL.strip_non, QL.strip_hd, QL.strip_lst, QL.strip_tup, QL.strip_brw, QL.plain_int, QL.plain_bl, QL.plain_str, QL.plain_non, QL.plain_hd, QL.plain_lst, QL.plain_tup, QL.plain_brw, QL.plO_eq, QL.scal0_int, QL.scal0_bl, QL.scal0_non, QL.addD_int, QL.subD_int, QL.mulD_int, QL.small64_eq, QL.fdivD_int, QL.modD_int, QL.negD_int, QL.ltD_int, QL.leD_int, QL.gtD_int, QL.geD_int, QL.isND_non, QL.isND_int, QL.isND_bl, QL.isND_str, QL.isND_tup, QL.isND_lst, QL.str2_str, QL.eqO_str, QL.eqO_int, QL.eqO_bl, QL.idxD_lst, QL.idxD_tup, QL.idxD_brw, QL.atI_zero, QL.atI_one, QL.atI_two, QL.atI_three, QL.atI_four, QL.atI_five, QL.addD_tup, QL.truD_bl, QL.truD_int, QL.truD_non, QL.truD_lst, QL.truD_tup, QL.rds_val, QL.rds_own, QL.rds_non, QL.rds_deep, ↓QL.wp_dVar, ↓QL.wp_dC, ↓QL.wp_dOp, ↓QL.wp_dU, ↓QL.wp_dNil, ↓QL.wp_dCons, ↓QL.wp_dTup, ↓QL.wp_dPl, ↓QL.wp_dFz, QL.blO_bl, ↓QL.wp_dTst, ↓QL.wp_dTru, ↓QL.wp_dAnd, ↓QL.wp_dOr, ↓QL.wp_dNot, ↓QL.wp_dAndV, ↓QL.wp_dOrV, ↓QL.wp_dNotV, ↓QL.wp_dIf, ↓QL.wp_dChn, ↓QL.wp_dCall, ↓QL.wp_dCallR, ↓QL.wp_dB, ↓QL.wp_dBN, QL.lenD_lst, QL.lenD_tup, QL.lenD_brw, QL.absD_int, QL.intD_int, QL.intD_bl, QL.max2D_int, QL.min2D_int, QL.lst1_lst, QL.lst1_brw, QL.listD_lst, QL.listD_tup, QL.listD_brw, ↓QL.wp_dIS, QL.seqO_lst, QL.seqO_tup, ↓QL.wp_dIR, QL.optP_rng1, QL.optP_rng2, QL.enuD_lst, QL.zipD_lst, ↓QL.wp_dNoP, QL.intO_int, ↓QL.wp_dPrt, QL.optP_lrg, ↓QL.wp_dLrg1, QL.sortD_lst, QL.sortD_brw, QL.slA_lst, QL.slA_brw, QL.slA_tup, ↓QL.wp_dSlA, QL.slO_lst, QL.slO_brw, ↓QL.wp_dSl, QL.seqP_nx, QL.seqP_rt, QL.seqP_bk, QL.seqP_ct, ↓QL.wp_dSeq, ↓QL.wp_dNx, ↓QL.wp_dPass, ↓QL.wp_dBrk, ↓QL.wp_dCnt, ↓QL.wp_dRetN, ↓QL.wp_dRet, ↓QL.wp_dExpr, ↓QL.wp_dIfS, ↓QL.wp_dAsg, QL.gN_eq, QL.gNil_nil, QL.gCons_cons, QL.gTp_tup, ↓QL.wp_dSetO, ↓QL.wp_dSetF, ↓QL.wp_dParNN, ↓QL.wp_dParNE, ↓QL.wp_dParEN, QL.parO_two, ↓QL.wp_dPar, QL.ownS_own, ↓QL.wp_dApp, ↓QL.wp_dStI, ↓QL.wp_dExt, QL.lstO_lst, ↓QL.wp_dFrz, QL.frzS_own, QL.frzS_val, QL.frzS_non, QL.frz_zero, QL.frz_succ, ↓QL.wp_dNEN, ↓QL.wp_dEEN, ↓QL.wp_dENE, ↓QL.wp_dCat, QL.catO_ll, QL.catO_bl, QL.catO_lb, QL.catO_bb, ↓QL.wp_dFor, ↓QL.wp_lcl_nil, ↓QL.wp_lcl_cons, QL.rngL_length, QL.rE_zero, ↓QL.wp_dLc, QL.notOwn_val, QL.notOwn_non, QL.notOwn_own, QL.notOwn_deep, QL.notOwn_jk, ↓QL.wp_lc1, ↓QL.wp_dYes, QL.fit_int, QL.fit_bl, QL.fit_non, QL.fit_lst, QL.fit_tup, QL.ex_and_eq, ↓QL.wp_dIdx, ↓QL.wp_dRev, QL.revO_lst, QL.revO_brw, QL.tupleD_lst, QL.tupleD_brw, QL.tupleD_tup, QL.sortSetD_lst, QL.sortG_brw, QL.maxG_brw, QL.minG_brw, QL.ltV_int, QL.leV_int, QL.gtV_int, QL.geV_int, QL.okE_int, QL.okE_non, QL.okE_lst, QL.okE_tup, QL.eqO_brwR, QL.eqO_brwL, ↓QL.wp_forl_nil, ↓QL.wp_forl_cons, QL.forP_nx, QL.forP_ct, QL.forP_bk, QL.forP_rt, QL.eqO_non_int, QL.eqO_int_non, QL.eqO_non_non, QL.eqO_non_tup, QL.eqO_tup_non, sumD_eq, encN_eq, QL.startE, List.map_cons, List.map_nil, List.isEmpty_cons, List.isEmpty_nil, List.append_nil, List.nil_append, List.cons_append, List.length_cons, List.length_nil, Nat.reduceAdd, Nat.reduceSub, Nat.reduceLeDiff, Nat.reduceLT, Nat.reduceMul, Nat.reduceEqDiff, List.replicate_succ, List.replicate_zero, List.getElem?_cons_zero, List.getElem?_cons_succ, List.set_cons_zero, List.set_cons_succ, Option.bind_some, Option.bind_none, Option.some.injEq, QL.D.bl.injEq, QL.D.int.injEq, QL.D.str.injEq, QL.D.lst.injEq, QL.D.tup.injEq, QL.Out.nx.injEq, QL.Out.rt.injEq, QL.Slot.val.injEq, QL.Slot.own.injEq, List.cons.injEq, exists_eq_left, exists_eq_left', exists_eq_right, exists_eq_right', exists_eq, exists_eq', exists_and_left, exists_and_right, decide_eq_true_eq, decide_eq_false_iff_not, Bool.not_true, Bool.not_false, Bool.false_xor, Bool.true_xor, Bool.xor_true, Bool.xor_false, Bool.and_true, Bool.true_and, Bool.and_self, Bool.or_true, Bool.true_or, Bool.or_self, Bool.or_false, Bool.false_or, List.all_cons, List.all_nil, true_and, and_true, and_self, true_or, or_true, if_true, if_false, Bool.not_eq_true', not_false_eq_true, not_true_eq_false, Bool.false_eq_true, Bool.true_eq_false, reduceCtorEq, and_false, false_and, QL.ex_ite, QL.wipeE, QL.noOwn_eq, Option.toList, Int.reduceNeg, Int.reduceToNat, Int.reduceLT, Int.reduceLE, Int.reduceSub, Int.reduceAdd, Int.reduceMul, Int.toNat_zero, Int.cast_ofNat_Int, Int.reduceEq, ite_self, Option.ite_none_right_eq_some])
theorem opt_at {α : Type} {x : Option α} {a : α} (e : x = some a) {P : α → Prop} (h : P a) : OptP x P := ⟨a, e, h⟩
theorem ite_i {c : Prop} [Decidable c] {A B : Prop} (h1 : c → A) (h2 : ¬ c → B) : if c then A else B := by
  split
  · rename_i h; exact h1 h
  · rename_i h; exact h2 h
abbrev eI (l : List Int) : D := .lst (l.map .int)
def rowsG (e : Int) : List Int → List Int → List Int
  | _, [] => []
  | ds, x :: xs => (stepD e ds x).getLastD 0 :: rowsG e (stepD e ds x) xs
abbrev TS := List Int × List Int
def stepT (e : Int) (s : TS) (x : Int) : TS := (stepD e s.1 x, s.2 ++ [(stepD e s.1 x).getLastD 0])
theorem fold_T (e : Int) : ∀ (xs : List Int) (s : TS), xs.foldl (stepT e) s = (xs.foldl (stepD e) s.1, s.2 ++ rowsG e s.1 xs)
  | [], s => by simp [rowsG]
  | x :: xs, s => by
    rw [List.foldl_cons, fold_T e xs]
    simp [stepT, rowsG]
def rowsF (e : Int) (L : List Int) : List Int := rowsG e [] (sortI L)
theorem stepD_len (e : Int) (ds : List Int) (x : Int) : (stepD e ds x).length ≤ ds.length + 1 := by
  unfold stepD
  split
  · simp
  · split <;> simp
theorem stepD_ne (e : Int) (ds : List Int) (x : Int) : stepD e ds x ≠ [] := by
  unfold stepD
  cases h : ds.getLast? with
  | none => simp
  | some l =>
    dsimp only
    split
    · simp
    · intro z; rw [z] at h; simp at h
theorem last_at {ds : List Int} (h : ds ≠ []) : L2.atI (ds.map D.int) (-1) = some (.int (ds.getLastD 0)) := by
  rw [atI_neg1 (by simpa using h), List.getLast?_map]
  cases e : ds.getLast? with
  | none => exact absurd (List.getLast?_eq_none_iff.mp e) h
  | some l =>
    rw [List.getLastD_eq_getLast?, e]; rfl
theorem step_none {e : Int} {ds : List Int} (h : ds = []) (x : Int) : stepD e ds x = [x] := by subst h; rfl
theorem step_some {e : Int} {ds : List Int} (h : ds ≠ []) (x : Int) : stepD e ds x = if ds.getLastD 0 < x - e then ds ++ [x] else ds := by
  unfold stepD
  cases h2 : ds.getLast? with
  | none => exact absurd (List.getLast?_eq_none_iff.mp h2) h
  | some l =>
    rw [List.getLastD_eq_getLast?, h2]; rfl
theorem far_ev {L : List Int} (hL : L.length ≤ 50) (e : Int) : pureF v_far_apart [eI L, .int e] = some (eI (days e L)) := by
  have hs : (sortI L).length = L.length := (sortI_perm L).length_eq
  refine pureF_eq rfl ?_
  unfold d_far_apart
  walk_at "e"
  rw [sortG_ints]
  walk_at "e"
  refine (show D.lst [] = eI [] from rfl) ▸ forl_fold (J := Slot) D.int (fun (ds : List Int) j => [.val (eI L), .val (.int e), .own (eI ds), j]) (stepD e) (fun n ds => ds.length ≤ n) (sortI L) 0 [] .non () (Nat.le_refl _) (fun i x hi ds j p => ?_) (fun p j => ?_)
  · have hi := (List.getElem?_eq_some_iff.mp hi).1
    walk_at "e"
    unfold d_far_apart_b1
    walk_at "e"
    have hl : (stepD e ds x).length ≤ 0 + i + 1 := by have := stepD_len e ds x; omega
    refine ite_i (fun c => ?_) (fun c => ?_)
    · have h0 : ds = [] := by rw [List.length_map] at c; exact List.length_eq_zero_iff.mp (by omega)
      refine ⟨by rw [List.length_map]; omega, ?_⟩
      exact fe_nx _ (by rw [step_none h0, h0]; rfl) hl
    · have h0 : ds ≠ [] := fun z => c (by rw [z]; rfl)
      rw [last_at h0]
      walk_at "e"
      have h2 := step_some (e := e) h0 x
      refine ite_i (fun c => ?_) (fun c => ?_)
      · refine ⟨by rw [List.length_map]; omega, ?_⟩
        exact fe_nx _ (by rw [h2, if_pos (by simpa using c), show eI (ds ++ [x]) = .lst (ds.map D.int ++ [D.int x]) by rw [eI, List.map_append]; rfl]) hl
      · exact fe_nx _ (by rw [h2, if_neg (by simpa using c)]) hl
  · rw [days_fold]
    walk_at "e"
theorem rowsG_len (e : Int) : ∀ (ds xs : List Int), (rowsG e ds xs).length = xs.length
  | _, [] => rfl
  | ds, x :: xs => by rw [rowsG, List.length_cons, List.length_cons, rowsG_len e _ xs]
theorem rowsF_len (e : Int) (L : List Int) : (rowsF e L).length = L.length := by unfold rowsF; rw [rowsG_len, (sortI_perm L).length_eq]
theorem trips_ev {L : List Int} (hL : L.length ≤ 50) (e : Int) : pureF v_trips [eI L, .int e] = some (.tup [eI (days e L), eI (rowsF e L)]) := by
  have hs : (sortI L).length = L.length := (sortI_perm L).length_eq
  refine pureF_eq rfl ?_
  unfold d_trips
  walk_at "e"
  rw [sortG_ints]
  walk_at "e"
  refine (show D.lst [] = eI [] from rfl) ▸ forl_fold (J := Slot) D.int (fun (s : TS) j => [.val (eI L), .val (.int e), .own (eI s.1), .own (eI s.2), j]) (stepT e) (fun n s => s.1.length ≤ n ∧ s.2.length ≤ n) (sortI L) 0 ([], []) .non () ⟨Nat.le_refl _, Nat.le_refl _⟩ (fun i x hi s j p => ?_) (fun j p => ?_)
  · obtain ⟨ds, rs⟩ := s
    obtain ⟨p1, p2⟩ := p
    have p1 : ds.length ≤ 0 + i := p1
    have p2 : rs.length ≤ 0 + i := p2
    have hi := (List.getElem?_eq_some_iff.mp hi).1
    walk_at "e"
    unfold d_trips_b1
    walk_at "e"
    have hl : (stepT e (ds, rs) x).1.length ≤ 0 + i + 1 ∧ (stepT e (ds, rs) x).2.length ≤ 0 + i + 1 := by
      have := stepD_len e ds x
      refine ⟨by show (stepD e ds x).length ≤ _; omega, ?_⟩
      show (rs ++ [_]).length ≤ _
      rw [List.length_append]; simp only [List.length_cons, List.length_nil]; omega
    have fin : ∀ (ds' : List Int) (j : Slot), stepD e ds x = ds' → OptP (L2.atI (ds'.map D.int) (-1)) fun z => plain z = true ∧ (rs.map D.int).length < 16000000 ∧ FE (fun (s : TS) j => [.val (eI L), .val (.int e), .own (eI s.1), .own (eI s.2), j]) (stepT e (ds, rs) x) (fun s => s.1.length ≤ 0 + i + 1 ∧ s.2.length ≤ 0 + i + 1) () (Out.nx [.val (eI L), .val (.int e), .own (eI ds'), .own (.lst (rs.map D.int ++ [z])), j]) () := fun ds' j h => by
      subst h
      refine opt_at (last_at (stepD_ne e ds x)) ⟨rfl, by rw [List.length_map]; omega, ?_⟩
      exact fe_nx _ (by unfold stepT; dsimp only; rw [show eI (rs ++ [(stepD e ds x).getLastD 0]) = .lst (rs.map D.int ++ [D.int ((stepD e ds x).getLastD 0)]) by rw [eI, List.map_append]; rfl]) hl
    refine ite_i (fun c => ?_) (fun c => ?_)
    · have h0 : ds = [] := by rw [List.length_map] at c; exact List.length_eq_zero_iff.mp (by omega)
      refine ⟨by rw [List.length_map]; omega, ?_⟩
      have := fin [x] (.val (.int x)) (step_none h0 x)
      subst h0
      exact this
    · have h0 : ds ≠ [] := fun z => c (by rw [z]; rfl)
      have h2 := step_some (e := e) h0 x
      refine opt_at (last_at h0) ?_
      walk_at "e"
      refine ite_i (fun c => ?_) (fun c => ?_)
      · refine ⟨by rw [List.length_map]; omega, ?_⟩
        have := fin (ds ++ [x]) (.val (.int x)) (by rw [h2, if_pos (by simpa using c)])
        rw [show (ds ++ [x]).map D.int = ds.map D.int ++ [D.int x] by rw [List.map_append]; rfl, show eI (ds ++ [x]) = .lst (ds.map D.int ++ [D.int x]) by rw [eI, List.map_append]; rfl] at this
        exact this
      · exact fin ds (.val (.int x)) (by rw [h2, if_neg (by simpa using c)])
  · have := fold_T e (sortI L) ([], [])
    rw [this, days_fold] at *
    walk_at "e"
    rfl
end K_k44
end
section
set_option Elab.async false
set_option linter.all false
set_option maxRecDepth 100000
set_option maxHeartbeats 4000000
open QL
local macro_rules | `(tactic| walk_at "ev") => `(tactic| simp only [QL.optP_some, QL.optP_none, QL.optP_ite, ↓QL.wp_some, ↓QL.wp_none, ↓QL.wp_mr, ↓QL.wp_ml, ↓QL.wp_mb, QL.LIM_eq, QL.strip_int', QL.strip_bl, QL.strip_str', QL.strip_non, QL.strip_hd, QL.strip_lst, QL.strip_tup, QL.strip_brw, QL.plain_int, QL.plain_bl, QL.plain_str, QL.plain_non, QL.plain_hd, QL.plain_lst, QL.plain_tup, QL.plain_brw, QL.plO_eq, QL.scal0_int, QL.scal0_bl, QL.scal0_non, QL.addD_int, QL.subD_int, QL.mulD_int, QL.small64_eq, QL.fdivD_int, QL.modD_int, QL.negD_int, QL.ltD_int, QL.leD_int, QL.gtD_int, QL.geD_int, QL.isND_non, QL.isND_int, QL.isND_bl, QL.isND_str, QL.isND_tup, QL.isND_lst, QL.str2_str, QL.eqO_str, QL.eqO_int, QL.eqO_bl, QL.idxD_lst, QL.idxD_tup, QL.idxD_brw, QL.atI_zero, QL.atI_one, QL.atI_two, QL.atI_three, QL.atI_four, QL.atI_five, QL.addD_tup, QL.truD_bl, QL.truD_int, QL.truD_non, QL.truD_lst, QL.truD_tup, QL.rds_val, QL.rds_own, QL.rds_non, QL.rds_deep, ↓QL.wp_dVar, ↓QL.wp_dC, ↓QL.wp_dOp, ↓QL.wp_dU, ↓QL.wp_dNil, ↓QL.wp_dCons, ↓QL.wp_dTup, ↓QL.wp_dPl, ↓QL.wp_dFz, QL.blO_bl, ↓QL.wp_dTst, ↓QL.wp_dTru, ↓QL.wp_dAnd, ↓QL.wp_dOr, ↓QL.wp_dNot, ↓QL.wp_dAndV, ↓QL.wp_dOrV, ↓QL.wp_dNotV, ↓QL.wp_dIf, ↓QL.wp_dChn, ↓QL.wp_dCall, ↓QL.wp_dCallR, ↓QL.wp_dB, ↓QL.wp_dBN, QL.lenD_lst, QL.lenD_tup, QL.lenD_brw, QL.absD_int, QL.intD_int, QL.intD_bl, QL.max2D_int, QL.min2D_int, QL.lst1_lst, QL.lst1_brw, QL.listD_lst, QL.listD_tup, QL.listD_brw, ↓QL.wp_dIS, QL.seqO_lst, QL.seqO_tup, ↓QL.wp_dIR, QL.optP_rng1, QL.optP_rng2, QL.enuD_lst, QL.zipD_lst, ↓QL.wp_dNoP, QL.intO_int, ↓QL.wp_dPrt, QL.optP_lrg, ↓QL.wp_dLrg1, QL.sortD_lst, QL.sortD_brw, QL.slA_lst, QL.slA_brw, QL.slA_tup, ↓QL.wp_dSlA, QL.slO_lst, QL.slO_brw, ↓QL.wp_dSl, QL.seqP_nx, QL.seqP_rt, QL.seqP_bk, QL.seqP_ct, ↓QL.wp_dSeq, ↓QL.wp_dNx, ↓QL.wp_dPass, ↓QL.wp_dBrk, ↓QL.wp_dCnt, ↓QL.wp_dRetN, ↓QL.wp_dRet, ↓QL.wp_dExpr, ↓QL.wp_dIfS, ↓QL.wp_dAsg, QL.gN_eq, QL.gNil_nil, QL.gCons_cons, QL.gTp_tup, ↓QL.wp_dSetO, ↓QL.wp_dSetF, ↓QL.wp_dParNN, ↓QL.wp_dParNE, ↓QL.wp_dParEN, QL.parO_two, ↓QL.wp_dPar, QL.ownS_own, ↓QL.wp_dApp, ↓QL.wp_dStI, ↓QL.wp_dExt, QL.lstO_lst, ↓QL.wp_dFrz, QL.frzS_own, QL.frzS_val, QL.frzS_non, QL.frz_zero, QL.frz_succ, ↓QL.wp_dNEN, ↓QL.wp_dEEN, ↓QL.wp_dENE, ↓QL.wp_dCat, QL.catO_ll, QL.catO_bl, QL.catO_lb, QL.catO_bb, ↓QL.wp_dFor, ↓QL.wp_lcl_nil, ↓QL.wp_lcl_cons, QL.rngL_length, QL.rE_zero, ↓QL.wp_dLc, QL.notOwn_val, QL.notOwn_non, QL.notOwn_own, QL.notOwn_deep, QL.notOwn_jk, ↓QL.wp_lc1, ↓QL.wp_dYes, QL.fit_int, QL.fit_bl, QL.fit_non, QL.fit_lst, QL.fit_tup, QL.ex_and_eq, ↓QL.wp_dIdx, ↓QL.wp_dRev, QL.revO_lst, QL.revO_brw, QL.tupleD_lst, QL.tupleD_brw, QL.tupleD_tup, QL.sortSetD_lst, QL.sortG_brw, QL.maxG_brw, QL.minG_brw, QL.ltV_int, QL.leV_int, QL.gtV_int, QL.geV_int, QL.okE_int, QL.okE_non, QL.okE_lst, QL.okE_tup, QL.eqO_brwR, QL.eqO_brwL, ↓QL.wp_forl_nil, ↓QL.wp_forl_cons, QL.forP_nx, QL.forP_ct, QL.forP_bk, QL.forP_rt, QL.eqO_non_int, QL.eqO_int_non, QL.eqO_non_non, QL.eqO_non_tup, QL.eqO_tup_non, QL.startE, List.map_cons, List.map_nil, List.isEmpty_cons, List.isEmpty_nil, List.append_nil, List.nil_append, List.cons_append, List.length_cons, List.length_nil, Nat.reduceAdd, Nat.reduceSub, Nat.reduceLeDiff, Nat.reduceLT, Nat.reduceMul, Nat.reduceEqDiff, List.replicate_succ, List.replicate_zero, List.getElem?_cons_zero, List.getElem?_cons_succ, List.set_cons_zero, List.set_cons_succ, Option.bind_some, Option.bind_none, Option.some.injEq, QL.D.bl.injEq, QL.D.int.injEq, QL.D.str.injEq, QL.D.lst.injEq, QL.D.tup.injEq, QL.Out.nx.injEq, QL.Out.rt.injEq, QL.Slot.val.injEq, QL.Slot.own.injEq, List.cons.injEq, exists_eq_left, exists_eq_left', exists_eq_right, exists_eq_right', exists_eq, exists_eq', exists_and_left, exists_and_right, decide_eq_true_eq, decide_eq_false_iff_not, Bool.not_true, Bool.not_false, Bool.false_xor, Bool.true_xor, Bool.xor_true, Bool.xor_false, Bool.and_true, Bool.true_and, Bool.and_self, Bool.or_true, Bool.true_or, Bool.or_self, Bool.or_false, Bool.false_or, List.all_cons, List.all_nil, true_and, and_true, and_self, true_or, or_true, if_true, if_false, Bool.not_eq_true', not_false_eq_true, not_true_eq_false, Bool.false_eq_true, Bool.true_eq_false, reduceCtorEq, and_false, false_and, QL.ex_ite, QL.wipeE, QL.noOwn_eq, Option.toList, Int.reduceNeg, Int.reduceToNat, Int.reduceLT, Int.reduceLE, Int.reduceSub, Int.reduceAdd, Int.reduceMul, Int.toNat_zero, Int.cast_ofNat_Int, Int.reduceEq, ite_self, Option.ite_none_right_eq_some])
local macro_rules | `(tactic| walk_at "e") => `(tactic| try simp only [QL.optP_some, QL.optP_none, QL.optP_ite, ↓QL.wp_some, ↓QL.wp_none, ↓QL.wp_mr, ↓QL.wp_ml, ↓QL.wp_mb, QL.LIM_eq, QL.strip_int', QL.strip_bl, QL.strip_str', QL.strip_non, QL.strip_hd, QL.strip_lst, QL.strip_tup, QL.strip_brw, QL.plain_int, QL.plain_bl, QL.plain_str, QL.plain_non, QL.plain_hd, QL.plain_lst, QL.plain_tup, QL.plain_brw, QL.plO_eq, QL.scal0_int, QL.scal0_bl, QL.scal0_non, QL.addD_int, QL.subD_int, QL.mulD_int, QL.small64_eq, QL.fdivD_int, QL.modD_int, QL.negD_int, QL.ltD_int, QL.leD_int, QL.gtD_int, QL.geD_int, QL.isND_non, QL.isND_int, QL.isND_bl, QL.isND_str, QL.isND_tup, QL.isND_lst, QL.str2_str, QL.eqO_str, QL.eqO_int, QL.eqO_bl, QL.idxD_lst, QL.idxD_tup, QL.idxD_brw, QL.atI_zero, QL.atI_one, QL.atI_two, QL.atI_three, QL.atI_four, QL.atI_five, QL.addD_tup, QL.truD_bl, QL.truD_int, QL.truD_non, QL.truD_lst, QL.truD_tup, QL.rds_val, QL.rds_own, QL.rds_non, QL.rds_deep, ↓QL.wp_dVar, ↓QL.wp_dC, ↓QL.wp_dOp, ↓QL.wp_dU, ↓QL.wp_dNil, ↓QL.wp_dCons, ↓QL.wp_dTup, ↓QL.wp_dPl, ↓QL.wp_dFz, QL.blO_bl, ↓QL.wp_dTst, ↓QL.wp_dTru, ↓QL.wp_dAnd, ↓QL.wp_dOr, ↓QL.wp_dNot, ↓QL.wp_dAndV, ↓QL.wp_dOrV, ↓QL.wp_dNotV, ↓QL.wp_dIf, ↓QL.wp_dChn, ↓QL.wp_dCall, ↓QL.wp_dCallR, ↓QL.wp_dB, ↓QL.wp_dBN, QL.lenD_lst, QL.lenD_tup, QL.lenD_brw, QL.absD_int, QL.intD_int, QL.intD_bl, QL.max2D_int, QL.min2D_int, QL.lst1_lst, QL.lst1_brw, QL.listD_lst, QL.listD_tup, QL.listD_brw, ↓QL.wp_dIS, QL.seqO_lst, QL.seqO_tup, ↓QL.wp_dIR, QL.optP_rng1, QL.optP_rng2, QL.enuD_lst, QL.zipD_lst, ↓QL.wp_dNoP, QL.intO_int, ↓QL.wp_dPrt, QL.optP_lrg, ↓QL.wp_dLrg1, QL.sortD_lst, QL.sortD_brw, QL.slA_lst, QL.slA_brw, QL.slA_tup, ↓QL.wp_dSlA, QL.slO_lst, QL.slO_brw, ↓QL.wp_dSl, QL.seqP_nx, QL.seqP_rt, QL.seqP_bk, QL.seqP_ct, ↓QL.wp_dSeq, ↓QL.wp_dNx, ↓QL.wp_dPass, ↓QL.wp_dBrk, ↓QL.wp_dCnt, ↓QL.wp_dRetN, ↓QL.wp_dRet, ↓QL.wp_dExpr, ↓QL.wp_dIfS, ↓QL.wp_dAsg, QL.gN_eq, QL.gNil_nil, QL.gCons_cons, QL.gTp_tup, ↓QL.wp_dSetO, ↓QL.wp_dSetF, ↓QL.wp_dParNN, ↓QL.wp_dParNE, ↓QL.wp_dParEN, QL.parO_two, ↓QL.wp_dPar, QL.ownS_own, ↓QL.wp_dApp, ↓QL.wp_dStI, ↓QL.wp_dExt, QL.lstO_lst, ↓QL.wp_dFrz, QL.frzS_own, QL.frzS_val, QL.frzS_non, QL.frz_zero, QL.frz_succ, ↓QL.wp_dNEN, ↓QL.wp_dEEN, ↓QL.wp_dENE, ↓QL.wp_dCat, QL.catO_ll, QL.catO_bl, QL.catO_lb, QL.catO_bb, ↓QL.wp_dFor, ↓QL.wp_lcl_nil, ↓QL.wp_lcl_cons, QL.rngL_length, QL.rE_zero, ↓QL.wp_dLc, QL.notOwn_val, QL.notOwn_non, QL.notOwn_own, QL.notOwn_deep, QL.notOwn_jk, ↓QL.wp_lc1, ↓QL.wp_dYes, QL.fit_int, QL.fit_bl, QL.fit_non, QL.fit_lst, QL.fit_tup, QL.ex_and_eq, ↓QL.wp_dIdx, ↓QL.wp_dRev, QL.revO_lst, QL.revO_brw, QL.tupleD_lst, QL.tupleD_brw, QL.tupleD_tup, QL.sortSetD_lst, QL.sortG_brw, QL.maxG_brw, QL.minG_brw, QL.ltV_int, QL.leV_int, QL.gtV_int, QL.geV_int, QL.okE_int, QL.okE_non, QL.okE_lst, QL.okE_tup, QL.eqO_brwR, QL.eqO_brwL, ↓QL.wp_forl_nil, ↓QL.wp_forl_cons, QL.forP_nx, QL.forP_ct, QL.forP_bk, QL.forP_rt, QL.eqO_non_int, QL.eqO_int_non, QL.eqO_non_non, QL.eqO_non_tup, QL.eqO_tup_non, QL.startE, List.map_cons, List.map_nil, List.isEmpty_cons, List.isEmpty_nil, List.append_nil, List.nil_append, List.cons_append, List.length_cons, List.length_nil, Nat.reduceAdd, Nat.reduceSub, Nat.reduceLeDiff, Nat.reduceLT, Nat.reduceMul, Nat.reduceEqDiff, List.replicate_succ, List.replicate_zero, List.getElem?_cons_zero, List.getElem?_cons_succ, List.set_cons_zero, List.set_cons_succ, Option.bind_some, Option.bind_none, Option.some.injEq, QL.D.bl.injEq, QL.D.int.injEq, QL.D.str.injEq, QL.D.lst.injEq, QL.D.tup.injEq, QL.Out.nx.injEq, QL.Out.rt.injEq, QL.Slot.val.injEq, QL.Slot.own.injEq, List.cons.injEq, exists_eq_left, exists_eq_left', exists_eq_right, exists_eq_right', exists_eq, exists_eq', exists_and_left, exists_and_right, decide_eq_true_eq, decide_eq_false_iff_not, Bool.not_true, Bool.not_false, Bool.false_xor, Bool.true_xor, Bool.xor_true, Bool.xor_false, Bool.and_true, Bool.true_and, Bool.and_self, Bool.or_true, Bool.true_or, Bool.or_self, Bool.or_false, Bool.false_or, List.all_cons, List.all_nil, true_and, and_true, and_self, true_or, or_true, if_true, if_false, Bool.not_eq_true', not_false_eq_true, not_true_eq_false, Bool.false_eq_true, Bool.true_eq_false, reduceCtorEq, and_false, false_and, QL.ex_ite, QL.wipeE, QL.noOwn_eq, Option.toList, Int.reduceNeg, Int.reduceToNat, Int.reduceLT, Int.reduceLE, Int.reduceSub, Int.reduceAdd, Int.reduceMul, Int.toNat_zero, Int.cast_ofNat_Int, Int.reduceEq, ite_self, Option.ite_none_right_eq_some])
namespace K_k44
local macro_rules | `(tactic| walk_at "ev") => `(tactic| simp only [QL.optP_some, QL.optP_none, QL.optP_ite, ↓QL.wp_some, ↓QL.wp_none, ↓QL.wp_mr, ↓QL.wp_ml, ↓QL.wp_mb, QL.LIM_eq, QL.strip_int', QL.strip_bl, QL.strip_str', QL.strip_non, QL.strip_hd, QL.strip_lst, QL.strip_tup, QL.strip_brw, QL.plain_int, QL.plain_bl, QL.plain_str, QL.plain_non, QL.plain_hd, QL.plain_lst, QL.plain_tup, QL.plain_brw, QL.plO_eq, QL.scal0_int, QL.scal0_bl, QL.scal0_non, QL.addD_int, QL.subD_int, QL.mulD_int, QL.small64_eq, QL.fdivD_int, QL.modD_int, QL.negD_int, QL.ltD_int, QL.leD_int, QL.gtD_int, QL.geD_int, QL.isND_non, QL.isND_int, QL.isND_bl, QL.isND_str, QL.isND_tup, QL.isND_lst, QL.str2_str, QL.eqO_str, QL.eqO_int, QL.eqO_bl, QL.idxD_lst, QL.idxD_tup, QL.idxD_brw, QL.atI_zero, QL.atI_one, QL.atI_two, QL.atI_three, QL.atI_four, QL.atI_five, QL.addD_tup, QL.truD_bl, QL.truD_int, QL.truD_non, QL.truD_lst, QL.truD_tup, QL.rds_val, QL.rds_own, QL.rds_non, QL.rds_deep, ↓QL.wp_dVar, ↓QL.wp_dC, ↓QL.wp_dOp, ↓QL.wp_dU, ↓QL.wp_dNil, ↓QL.wp_dCons, ↓QL.wp_dTup, ↓QL.wp_dPl, ↓QL.wp_dFz, QL.blO_bl, ↓QL.wp_dTst, ↓QL.wp_dTru, ↓QL.wp_dAnd, ↓QL.wp_dOr, ↓QL.wp_dNot, ↓QL.wp_dAndV, ↓QL.wp_dOrV, ↓QL.wp_dNotV, ↓QL.wp_dIf, ↓QL.wp_dChn, ↓QL.wp_dCall, ↓QL.wp_dCallR, ↓QL.wp_dB, ↓QL.wp_dBN, QL.lenD_lst, QL.lenD_tup, QL.lenD_brw, QL.absD_int, QL.intD_int, QL.intD_bl, QL.max2D_int, QL.min2D_int, QL.lst1_lst, QL.lst1_brw, QL.listD_lst, QL.listD_tup, QL.listD_brw, ↓QL.wp_dIS, QL.seqO_lst, QL.seqO_tup, ↓QL.wp_dIR, QL.optP_rng1, QL.optP_rng2, QL.enuD_lst, QL.zipD_lst, ↓QL.wp_dNoP, QL.intO_int, ↓QL.wp_dPrt, QL.optP_lrg, ↓QL.wp_dLrg1, QL.sortD_lst, QL.sortD_brw, QL.slA_lst, QL.slA_brw, QL.slA_tup, ↓QL.wp_dSlA, QL.slO_lst, QL.slO_brw, ↓QL.wp_dSl, QL.seqP_nx, QL.seqP_rt, QL.seqP_bk, QL.seqP_ct, ↓QL.wp_dSeq, ↓QL.wp_dNx, ↓QL.wp_dPass, ↓QL.wp_dBrk, ↓QL.wp_dCnt, ↓QL.wp_dRetN, ↓QL.wp_dRet, ↓QL.wp_dExpr, ↓QL.wp_dIfS, ↓QL.wp_dAsg, QL.gN_eq, QL.gNil_nil, QL.gCons_cons, QL.gTp_tup, ↓QL.wp_dSetO, ↓QL.wp_dSetF, ↓QL.wp_dParNN, ↓QL.wp_dParNE, ↓QL.wp_dParEN, QL.parO_two, ↓QL.wp_dPar, QL.ownS_own, ↓QL.wp_dApp, ↓QL.wp_dStI, ↓QL.wp_dExt, QL.lstO_lst, ↓QL.wp_dFrz, QL.frzS_own, QL.frzS_val, QL.frzS_non, QL.frz_zero, QL.frz_succ, ↓QL.wp_dNEN, ↓QL.wp_dEEN, ↓QL.wp_dENE, ↓QL.wp_dCat, QL.catO_ll, QL.catO_bl, QL.catO_lb, QL.catO_bb, ↓QL.wp_dFor, ↓QL.wp_lcl_nil, ↓QL.wp_lcl_cons, QL.rngL_length, QL.rE_zero, ↓QL.wp_dLc, QL.notOwn_val, QL.notOwn_non, QL.notOwn_own, QL.notOwn_deep, QL.notOwn_jk, ↓QL.wp_lc1, ↓QL.wp_dYes, QL.fit_int, QL.fit_bl, QL.fit_non, QL.fit_lst, QL.fit_tup, QL.ex_and_eq, ↓QL.wp_dIdx, ↓QL.wp_dRev, QL.revO_lst, QL.revO_brw, QL.tupleD_lst, QL.tupleD_brw, QL.tupleD_tup, QL.sortSetD_lst, QL.sortG_brw, QL.maxG_brw, QL.minG_brw, QL.ltV_int, QL.leV_int, QL.gtV_int, QL.geV_int, QL.okE_int, QL.okE_non, QL.okE_lst, QL.okE_tup, QL.eqO_brwR, QL.eqO_brwL, ↓QL.wp_forl_nil, ↓QL.wp_forl_cons, QL.forP_nx, QL.forP_ct, QL.forP_bk, QL.forP_rt, QL.eqO_non_int, QL.eqO_int_non, QL.eqO_non_non, QL.eqO_non_tup, QL.eqO_tup_non, sumD_eq, encN_eq, QL.startE, List.map_cons, List.map_nil, List.isEmpty_cons, List.isEmpty_nil, List.append_nil, List.nil_append, List.cons_append, List.length_cons, List.length_nil, Nat.reduceAdd, Nat.reduceSub, Nat.reduceLeDiff, Nat.reduceLT, Nat.reduceMul, Nat.reduceEqDiff, List.replicate_succ, List.replicate_zero, List.getElem?_cons_zero, List.getElem?_cons_succ, List.set_cons_zero, List.set_cons_succ, Option.bind_some, Option.bind_none, Option.some.injEq, QL.D.bl.injEq, QL.D.int.injEq, QL.D.str.injEq, QL.D.lst.injEq, QL.D.tup.injEq, QL.Out.nx.injEq, QL.Out.rt.injEq, QL.Slot.val.injEq, QL.Slot.own.injEq, List.cons.injEq, exists_eq_left, exists_eq_left', exists_eq_right, exists_eq_right', exists_eq, exists_eq', exists_and_left, exists_and_right, decide_eq_true_eq, decide_eq_false_iff_not, Bool.not_true, Bool.not_false, Bool.false_xor, Bool.true_xor, Bool.xor_true, Bool.xor_false, Bool.and_true, Bool.true_and, Bool.and_self, Bool.or_true, Bool.true_or, Bool.or_self, Bool.or_false, Bool.false_or, List.all_cons, List.all_nil, true_and, and_true, and_self, true_or, or_true, if_true, if_false, Bool.not_eq_true', not_false_eq_true, not_true_eq_false, Bool.false_eq_true, Bool.true_eq_false, reduceCtorEq, and_false, false_and, QL.ex_ite, QL.wipeE, QL.noOwn_eq, Option.toList, Int.reduceNeg, Int.reduceToNat, Int.reduceLT, Int.reduceLE, Int.reduceSub, Int.reduceAdd, Int.reduceMul, Int.toNat_zero, Int.cast_ofNat_Int, Int.reduceEq, ite_self, Option.ite_none_right_eq_some])
local macro_rules | `(tactic| walk_at "e") => `(tactic| try simp only [QL.optP_some, QL.optP_none, QL.optP_ite, ↓QL.wp_some, ↓QL.wp_none, ↓QL.wp_mr, ↓QL.wp_ml, ↓QL.wp_mb, QL.LIM_eq, QL.strip_int', QL.strip_bl, QL.strip_str', QL.strip_non, QL.strip_hd, QL.strip_lst, QL.strip_tup, QL.strip_brw, QL.plain_int, QL.plain_bl, QL.plain_str, QL.plain_non, QL.plain_hd, QL.plain_lst, QL.plain_tup, QL.plain_brw, QL.plO_eq, QL.scal0_int, QL.scal0_bl, QL.scal0_non, QL.addD_int, QL.subD_int, QL.mulD_int, QL.small64_eq, QL.fdivD_int, QL.modD_int, QL.negD_int, QL.ltD_int, QL.leD_int, QL.gtD_int, QL.geD_int, QL.isND_non, QL.isND_int, QL.isND_bl, QL.isND_str, QL.isND_tup, QL.isND_lst, QL.str2_str, QL.eqO_str, QL.eqO_int, QL.eqO_bl, QL.idxD_lst, QL.idxD_tup, QL.idxD_brw, QL.atI_zero, QL.atI_one, QL.atI_two, QL.atI_three, QL.atI_four, QL.atI_five, QL.addD_tup, QL.truD_bl, QL.truD_int, QL.truD_non, QL.truD_lst, QL.truD_tup, QL.rds_val, QL.rds_own, QL.rds_non, QL.rds_deep, ↓QL.wp_dVar, ↓QL.wp_dC, ↓QL.wp_dOp, ↓QL.wp_dU, ↓QL.wp_dNil, ↓QL.wp_dCons, ↓QL.wp_dTup, ↓QL.wp_dPl, ↓QL.wp_dFz, QL.blO_bl, ↓QL.wp_dTst, ↓QL.wp_dTru, ↓QL.wp_dAnd, ↓QL.wp_dOr, ↓QL.wp_dNot, ↓QL.wp_dAndV, ↓QL.wp_dOrV, ↓QL.wp_dNotV, ↓QL.wp_dIf, ↓QL.wp_dChn, ↓QL.wp_dCall, ↓QL.wp_dCallR, ↓QL.wp_dB, ↓QL.wp_dBN, QL.lenD_lst, QL.lenD_tup, QL.lenD_brw, QL.absD_int, QL.intD_int, QL.intD_bl, QL.max2D_int, QL.min2D_int, QL.lst1_lst, QL.lst1_brw, QL.listD_lst, QL.listD_tup, QL.listD_brw, ↓QL.wp_dIS, QL.seqO_lst, QL.seqO_tup, ↓QL.wp_dIR, QL.optP_rng1, QL.optP_rng2, QL.enuD_lst, QL.zipD_lst, ↓QL.wp_dNoP, QL.intO_int, ↓QL.wp_dPrt, QL.optP_lrg, ↓QL.wp_dLrg1, QL.sortD_lst, QL.sortD_brw, QL.slA_lst, QL.slA_brw, QL.slA_tup, ↓QL.wp_dSlA, QL.slO_lst, QL.slO_brw, ↓QL.wp_dSl, QL.seqP_nx, QL.seqP_rt, QL.seqP_bk, QL.seqP_ct, ↓QL.wp_dSeq, ↓QL.wp_dNx, ↓QL.wp_dPass, ↓QL.wp_dBrk, ↓QL.wp_dCnt, ↓QL.wp_dRetN, ↓QL.wp_dRet, ↓QL.wp_dExpr, ↓QL.wp_dIfS, ↓QL.wp_dAsg, QL.gN_eq, QL.gNil_nil, QL.gCons_cons, QL.gTp_tup, ↓QL.wp_dSetO, ↓QL.wp_dSetF, ↓QL.wp_dParNN, ↓QL.wp_dParNE, ↓QL.wp_dParEN, QL.parO_two, ↓QL.wp_dPar, QL.ownS_own, ↓QL.wp_dApp, ↓QL.wp_dStI, ↓QL.wp_dExt, QL.lstO_lst, ↓QL.wp_dFrz, QL.frzS_own, QL.frzS_val, QL.frzS_non, QL.frz_zero, QL.frz_succ, ↓QL.wp_dNEN, ↓QL.wp_dEEN, ↓QL.wp_dENE, ↓QL.wp_dCat, QL.catO_ll, QL.catO_bl, QL.catO_lb, QL.catO_bb, ↓QL.wp_dFor, ↓QL.wp_lcl_nil, ↓QL.wp_lcl_cons, QL.rngL_length, QL.rE_zero, ↓QL.wp_dLc, QL.notOwn_val, QL.notOwn_non, QL.notOwn_own, QL.notOwn_deep, QL.notOwn_jk, ↓QL.wp_lc1, ↓QL.wp_dYes, QL.fit_int, QL.fit_bl, QL.fit_non, QL.fit_lst, QL.fit_tup, QL.ex_and_eq, ↓QL.wp_dIdx, ↓QL.wp_dRev, QL.revO_lst, QL.revO_brw, QL.tupleD_lst, QL.tupleD_brw, QL.tupleD_tup, QL.sortSetD_lst, QL.sortG_brw, QL.maxG_brw, QL.minG_brw, QL.ltV_int, QL.leV_int, QL.gtV_int, QL.geV_int, QL.okE_int, QL.okE_non, QL.okE_lst, QL.okE_tup, QL.eqO_brwR, QL.eqO_brwL, ↓QL.wp_forl_nil, ↓QL.wp_forl_cons, QL.forP_nx, QL.forP_ct, QL.forP_bk, QL.forP_rt, QL.eqO_non_int, QL.eqO_int_non, QL.eqO_non_non, QL.eqO_non_tup, QL.eqO_tup_non, sumD_eq, encN_eq, QL.startE, List.map_cons, List.map_nil, List.isEmpty_cons, List.isEmpty_nil, List.append_nil, List.nil_append, List.cons_append, List.length_cons, List.length_nil, Nat.reduceAdd, Nat.reduceSub, Nat.reduceLeDiff, Nat.reduceLT, Nat.reduceMul, Nat.reduceEqDiff, List.replicate_succ, List.replicate_zero, List.getElem?_cons_zero, List.getElem?_cons_succ, List.set_cons_zero, List.set_cons_succ, Option.bind_some, Option.bind_none, Option.some.injEq, QL.D.bl.injEq, QL.D.int.injEq, QL.D.str.injEq, QL.D.lst.injEq, QL.D.tup.injEq, QL.Out.nx.injEq, QL.Out.rt.injEq, QL.Slot.val.injEq, QL.Slot.own.injEq, List.cons.injEq, exists_eq_left, exists_eq_left', exists_eq_right, exists_eq_right', exists_eq, exists_eq', exists_and_left, exists_and_right, decide_eq_true_eq, decide_eq_false_iff_not, Bool.not_true, Bool.not_false, Bool.false_xor, Bool.true_xor, Bool.xor_true, Bool.xor_false, Bool.and_true, Bool.true_and, Bool.and_self, Bool.or_true, Bool.true_or, Bool.or_self, Bool.or_false, Bool.false_or, List.all_cons, List.all_nil, true_and, and_true, and_self, true_or, or_true, if_true, if_false, Bool.not_eq_true', not_false_eq_true, not_true_eq_false, Bool.false_eq_true, Bool.true_eq_false, reduceCtorEq, and_false, false_and, QL.ex_ite, QL.wipeE, QL.noOwn_eq, Option.toList, Int.reduceNeg, Int.reduceToNat, Int.reduceLT, Int.reduceLE, Int.reduceSub, Int.reduceAdd, Int.reduceMul, Int.toNat_zero, Int.cast_ofNat_Int, Int.reduceEq, ite_self, Option.ite_none_right_eq_some])
theorem sets_ev {R : List Int} (h : R.length ≤ 8) : pureF v__law_sets [eI R] = some (.lst ((lotsF R).map eI)) := by
  refine pureF_eq rfl ?_
  unfold d__law_sets
  walk_at "e"
  refine (show D.lst [D.lst []] = .lst ([[]].map eI) from rfl) ▸ forl_fold (J := Slot × Option D) D.int (fun (f : List (List Int)) j => [.val (eI R), .val (.lst (f.map eI)), j.1, jk j.2]) (fun (f : List (List Int)) (x : Int) => f ++ f.map (· ++ [x])) (fun n f => n ≤ 8 ∧ f.length = 2 ^ n ∧ ∀ l ∈ f, l.length ≤ n) R 0 [[]] (.non, none) () ⟨by omega, rfl, fun l hl => by rw [List.mem_singleton.mp hl]; exact Nat.le_refl _⟩ (fun i x hi f j p => ?_) (fun j p => ?_)
  · have hi := (List.getElem?_eq_some_iff.mp hi).1
    obtain ⟨p0, p, pl⟩ := p
    have hp : 2 ^ (0 + i) ≤ 2 ^ 8 := Nat.pow_le_pow_right (by decide) p0
    have h8 : 2 ^ 8 = 256 := by decide
    walk_at "e"
    unfold d__law_sets_b1
    walk_at "e"
    refine ⟨by rw [List.length_map]; omega, ?_⟩
    refine lcl_map eI (fun l => eI (l ++ [x])) f (fun l ml s => ?_) ?_
    · walk_at "e"
      rw [show addD (eI l) (D.lst [D.int x]) = some (eI (l ++ [x])) by
        have := pl l ml
        rw [eI, addD_lst _ _ (by rw [List.length_map]; unfold LIM; simp only [List.length_cons, List.length_nil]; omega), eI, List.map_append]; rfl]
      walk_at "e"
    · walk_at "e"
      rw [addD_lst _ _ (by rw [List.length_map, List.length_map]; unfold LIM; omega)]
      have hl : (f ++ f.map (· ++ [x])).length = 2 ^ (0 + i + 1) := by rw [List.length_append, List.length_map, p, Nat.pow_succ]; omega
      refine ⟨_, rfl, rfl, ?_⟩
      refine fe_nx (_, j.2) (by dsimp only; rw [List.map_append, List.map_map]; rfl) ⟨by omega, hl, fun l h => ?_⟩
      rcases List.mem_append.mp h with h | h
      · have := pl l h; omega
      · obtain ⟨k, hk, rfl⟩ := List.mem_map.mp h
        have := pl k hk
        rw [List.length_append]; simp only [List.length_cons, List.length_nil]; omega
  · walk_at "e"
    rfl
instance {L lot : List Int} {e : Int} : Decidable (enough L e lot) := by unfold enough; infer_instance
theorem enough_ev {L lot : List Int} (hL : L.length ≤ 50) (h : lot.length ≤ 50) (e : Int) : pureF v__law_enough [eI L, .int e, eI lot] = some (.bl (decide (enough L e lot))) := by
  refine pureF_eq rfl ?_
  unfold d__law_enough
  walk_at "e"
  refine ⟨by rw [List.length_map]; omega, ?_⟩
  refine lcl_filter D.int (fun x => decide (¬ ∃ d ∈ lot, x - e ≤ d ∧ d ≤ x)) D.int L (fun x _ s => ?_) ?_
  · walk_at "e"
    refine ⟨by rw [List.length_map]; omega, ?_⟩
    refine lcl_filter D.int (fun d => decide (x - e ≤ d ∧ d ≤ x)) D.int lot (fun d _ s => ?_) ?_
    · walk_at "e"
      by_cases c1 : x - e ≤ d <;> by_cases c2 : d ≤ x <;> simp [c1, c2]
    · walk_at "e"
      have : (((lot.filter fun d => decide (x - e ≤ d ∧ d ≤ x)).map D.int).length : Int) = 0 ↔ ¬ ∃ d, d ∈ lot ∧ x - e ≤ d ∧ d ≤ x := by
        rw [List.length_map]
        constructor
        · rintro z ⟨d, hd, hx⟩
          have := List.length_eq_zero_iff.mp (Int.ofNat.inj z)
          have := List.filter_eq_nil_iff.mp this d hd
          exact this (decide_eq_true hx)
        · intro z
          rw [List.filter_eq_nil_iff.mpr fun d hd hx => z ⟨d, hd, of_decide_eq_true hx⟩]; rfl
      by_cases c : ¬ ∃ d, d ∈ lot ∧ x - e ≤ d ∧ d ≤ x
      · rw [if_pos (this.mpr c), if_pos c]
      · rw [if_neg (fun z => c (this.mp z)), if_neg c]
  · walk_at "e"
    refine decide_eq_decide.mpr ?_
    rw [List.length_map]
    constructor
    · intro z x hx
      have := List.filter_eq_nil_iff.mp (List.length_eq_zero_iff.mp (Int.ofNat.inj z)) x hx
      by_cases c : ∃ d ∈ lot, x - e ≤ d ∧ d ≤ x
      · exact c
      · exact absurd (decide_eq_true c) this
    · intro z
      rw [List.filter_eq_nil_iff.mpr fun x hx (h : decide (¬ _) = true) => (of_decide_eq_true h) (z x hx)]; rfl
theorem least_ev {L : List Int} (hL : L.length ≤ 8) {e : Int} (he : 0 ≤ e) : pureF v__law_least [eI L, .int e] = some (.int ((days e L).length : Nat)) := by
  have hu : (uniqI L).length ≤ 8 := Nat.le_trans (uniqI_len L) hL
  refine pureF_eq rfl ?_
  unfold d__law_least
  walk_at "e"
  refine ⟨⟨by omega, by omega⟩, ?_⟩
  rw [sets_ev hu]
  walk_at "e"
  have h2 : (lotsF (uniqI L)).length ≤ 256 := by rw [lots_len]; exact Nat.pow_le_pow_right (by decide) hu
  refine ⟨by rw [List.length_map]; omega, ?_⟩
  refine lcl_filter eI (fun lot => decide (enough L e lot)) (fun lot => .int (lot.length : Nat)) (lotsF (uniqI L)) (fun lot hl s => ?_) ?_
  · have hs := (lots_mem _ _ rfl lot).mp hl
    have hl := hs.length_le
    walk_at "e"
    rw [enough_ev (by omega) (by omega)]
    walk_at "e"
    rw [List.length_map]
    split <;> rfl
  · walk_at "e"
    have hd : days e L ∈ (lotsF (uniqI L)).filter fun lot => decide (enough L e lot) := List.mem_filter.mpr ⟨(lots_mem _ _ rfl _).mpr (uniq_sorted_sub (days_lt he L) fun x hx => days_mem hx), decide_eq_true (days_enough he L)⟩
    obtain ⟨m, em, h3, h4⟩ := minG_spec (xs := ((lotsF (uniqI L)).filter fun lot => decide (enough L e lot)).map fun lot => (lot.length : Int)) (List.ne_nil_of_mem (List.mem_map.mpr ⟨_, hd, rfl⟩))
    rw [List.map_map] at em
    refine ⟨_, em, rfl, ?_⟩
    have h5 := h4 _ (List.mem_map.mpr ⟨_, hd, rfl⟩)
    obtain ⟨lot, hl, rfl⟩ := List.mem_map.mp h3
    obtain ⟨hl1, hl2⟩ := List.mem_filter.mp hl
    have hs := (lots_mem _ _ rfl lot).mp hl1
    have h6 := far_le he (days e L) lot (days_far he L) ((pw_uniqI L).sublist hs) fun x hx => of_decide_eq_true hl2 x (days_mem hx)
    rw [show (lot.length : Int) = ((days e L).length : Nat) by omega]
end K_k44
end
section
set_option Elab.async false
set_option linter.all false
set_option maxRecDepth 100000
set_option maxHeartbeats 4000000
open QL
local macro_rules | `(tactic| walk_at "ev") => `(tactic| simp only [QL.optP_some, QL.optP_none, QL.optP_ite, ↓QL.wp_some, ↓QL.wp_none, ↓QL.wp_mr, ↓QL.wp_ml, ↓QL.wp_mb, QL.LIM_eq, QL.strip_int', QL.strip_bl, QL.strip_str', QL.strip_non, QL.strip_hd, QL.strip_lst, QL.strip_tup, QL.strip_brw, QL.plain_int, QL.plain_bl, QL.plain_str, QL.plain_non, QL.plain_hd, QL.plain_lst, QL.plain_tup, QL.plain_brw, QL.plO_eq, QL.scal0_int, QL.scal0_bl, QL.scal0_non, QL.addD_int, QL.subD_int, QL.mulD_int, QL.small64_eq, QL.fdivD_int, QL.modD_int, QL.negD_int, QL.ltD_int, QL.leD_int, QL.gtD_int, QL.geD_int, QL.isND_non, QL.isND_int, QL.isND_bl, QL.isND_str, QL.isND_tup, QL.isND_lst, QL.str2_str, QL.eqO_str, QL.eqO_int, QL.eqO_bl, QL.idxD_lst, QL.idxD_tup, QL.idxD_brw, QL.atI_zero, QL.atI_one, QL.atI_two, QL.atI_three, QL.atI_four, QL.atI_five, QL.addD_tup, QL.truD_bl, QL.truD_int, QL.truD_non, QL.truD_lst, QL.truD_tup, QL.rds_val, QL.rds_own, QL.rds_non, QL.rds_deep, ↓QL.wp_dVar, ↓QL.wp_dC, ↓QL.wp_dOp, ↓QL.wp_dU, ↓QL.wp_dNil, ↓QL.wp_dCons, ↓QL.wp_dTup, ↓QL.wp_dPl, ↓QL.wp_dFz, QL.blO_bl, ↓QL.wp_dTst, ↓QL.wp_dTru, ↓QL.wp_dAnd, ↓QL.wp_dOr, ↓QL.wp_dNot, ↓QL.wp_dAndV, ↓QL.wp_dOrV, ↓QL.wp_dNotV, ↓QL.wp_dIf, ↓QL.wp_dChn, ↓QL.wp_dCall, ↓QL.wp_dCallR, ↓QL.wp_dB, ↓QL.wp_dBN, QL.lenD_lst, QL.lenD_tup, QL.lenD_brw, QL.absD_int, QL.intD_int, QL.intD_bl, QL.max2D_int, QL.min2D_int, QL.lst1_lst, QL.lst1_brw, QL.listD_lst, QL.listD_tup, QL.listD_brw, ↓QL.wp_dIS, QL.seqO_lst, QL.seqO_tup, ↓QL.wp_dIR, QL.optP_rng1, QL.optP_rng2, QL.enuD_lst, QL.zipD_lst, ↓QL.wp_dNoP, QL.intO_int, ↓QL.wp_dPrt, QL.optP_lrg, ↓QL.wp_dLrg1, QL.sortD_lst, QL.sortD_brw, QL.slA_lst, QL.slA_brw, QL.slA_tup, ↓QL.wp_dSlA, QL.slO_lst, QL.slO_brw, ↓QL.wp_dSl, QL.seqP_nx, QL.seqP_rt, QL.seqP_bk, QL.seqP_ct, ↓QL.wp_dSeq, ↓QL.wp_dNx, ↓QL.wp_dPass, ↓QL.wp_dBrk, ↓QL.wp_dCnt, ↓QL.wp_dRetN, ↓QL.wp_dRet, ↓QL.wp_dExpr, ↓QL.wp_dIfS, ↓QL.wp_dAsg, QL.gN_eq, QL.gNil_nil, QL.gCons_cons, QL.gTp_tup, ↓QL.wp_dSetO, ↓QL.wp_dSetF, ↓QL.wp_dParNN, ↓QL.wp_dParNE, ↓QL.wp_dParEN, QL.parO_two, ↓QL.wp_dPar, QL.ownS_own, ↓QL.wp_dApp, ↓QL.wp_dStI, ↓QL.wp_dExt, QL.lstO_lst, ↓QL.wp_dFrz, QL.frzS_own, QL.frzS_val, QL.frzS_non, QL.frz_zero, QL.frz_succ, ↓QL.wp_dNEN, ↓QL.wp_dEEN, ↓QL.wp_dENE, ↓QL.wp_dCat, QL.catO_ll, QL.catO_bl, QL.catO_lb, QL.catO_bb, ↓QL.wp_dFor, ↓QL.wp_lcl_nil, ↓QL.wp_lcl_cons, QL.rngL_length, QL.rE_zero, ↓QL.wp_dLc, QL.notOwn_val, QL.notOwn_non, QL.notOwn_own, QL.notOwn_deep, QL.notOwn_jk, ↓QL.wp_lc1, ↓QL.wp_dYes, QL.fit_int, QL.fit_bl, QL.fit_non, QL.fit_lst, QL.fit_tup, QL.ex_and_eq, ↓QL.wp_dIdx, ↓QL.wp_dRev, QL.revO_lst, QL.revO_brw, QL.tupleD_lst, QL.tupleD_brw, QL.tupleD_tup, QL.sortSetD_lst, QL.sortG_brw, QL.maxG_brw, QL.minG_brw, QL.ltV_int, QL.leV_int, QL.gtV_int, QL.geV_int, QL.okE_int, QL.okE_non, QL.okE_lst, QL.okE_tup, QL.eqO_brwR, QL.eqO_brwL, ↓QL.wp_forl_nil, ↓QL.wp_forl_cons, QL.forP_nx, QL.forP_ct, QL.forP_bk, QL.forP_rt, QL.eqO_non_int, QL.eqO_int_non, QL.eqO_non_non, QL.eqO_non_tup, QL.eqO_tup_non, QL.startE, List.map_cons, List.map_nil, List.isEmpty_cons, List.isEmpty_nil, List.append_nil, List.nil_append, List.cons_append, List.length_cons, List.length_nil, Nat.reduceAdd, Nat.reduceSub, Nat.reduceLeDiff, Nat.reduceLT, Nat.reduceMul, Nat.reduceEqDiff, List.replicate_succ, List.replicate_zero, List.getElem?_cons_zero, List.getElem?_cons_succ, List.set_cons_zero, List.set_cons_succ, Option.bind_some, Option.bind_none, Option.some.injEq, QL.D.bl.injEq, QL.D.int.injEq, QL.D.str.injEq, QL.D.lst.injEq, QL.D.tup.injEq, QL.Out.nx.injEq, QL.Out.rt.injEq, QL.Slot.val.injEq, QL.Slot.own.injEq, List.cons.injEq, exists_eq_left, exists_eq_left', exists_eq_right, exists_eq_right', exists_eq, exists_eq', exists_and_left, exists_and_right, decide_eq_true_eq, decide_eq_false_iff_not, Bool.not_true, Bool.not_false, Bool.false_xor, Bool.true_xor, Bool.xor_true, Bool.xor_false, Bool.and_true, Bool.true_and, Bool.and_self, Bool.or_true, Bool.true_or, Bool.or_self, Bool.or_false, Bool.false_or, List.all_cons, List.all_nil, true_and, and_true, and_self, true_or, or_true, if_true, if_false, Bool.not_eq_true', not_false_eq_true, not_true_eq_false, Bool.false_eq_true, Bool.true_eq_false, reduceCtorEq, and_false, false_and, QL.ex_ite, QL.wipeE, QL.noOwn_eq, Option.toList, Int.reduceNeg, Int.reduceToNat, Int.reduceLT, Int.reduceLE, Int.reduceSub, Int.reduceAdd, Int.reduceMul, Int.toNat_zero, Int.cast_ofNat_Int, Int.reduceEq, ite_self, Option.ite_none_right_eq_some])
local macro_rules | `(tactic| walk_at "e") => `(tactic| try simp only [QL.optP_some, QL.optP_none, QL.optP_ite, ↓QL.wp_some, ↓QL.wp_none, ↓QL.wp_mr, ↓QL.wp_ml, ↓QL.wp_mb, QL.LIM_eq, QL.strip_int', QL.strip_bl, QL.strip_str', QL.strip_non, QL.strip_hd, QL.strip_lst, QL.strip_tup, QL.strip_brw, QL.plain_int, QL.plain_bl, QL.plain_str, QL.plain_non, QL.plain_hd, QL.plain_lst, QL.plain_tup, QL.plain_brw, QL.plO_eq, QL.scal0_int, QL.scal0_bl, QL.scal0_non, QL.addD_int, QL.subD_int, QL.mulD_int, QL.small64_eq, QL.fdivD_int, QL.modD_int, QL.negD_int, QL.ltD_int, QL.leD_int, QL.gtD_int, QL.geD_int, QL.isND_non, QL.isND_int, QL.isND_bl, QL.isND_str, QL.isND_tup, QL.isND_lst, QL.str2_str, QL.eqO_str, QL.eqO_int, QL.eqO_bl, QL.idxD_lst, QL.idxD_tup, QL.idxD_brw, QL.atI_zero, QL.atI_one, QL.atI_two, QL.atI_three, QL.atI_four, QL.atI_five, QL.addD_tup, QL.truD_bl, QL.truD_int, QL.truD_non, QL.truD_lst, QL.truD_tup, QL.rds_val, QL.rds_own, QL.rds_non, QL.rds_deep, ↓QL.wp_dVar, ↓QL.wp_dC, ↓QL.wp_dOp, ↓QL.wp_dU, ↓QL.wp_dNil, ↓QL.wp_dCons, ↓QL.wp_dTup, ↓QL.wp_dPl, ↓QL.wp_dFz, QL.blO_bl, ↓QL.wp_dTst, ↓QL.wp_dTru, ↓QL.wp_dAnd, ↓QL.wp_dOr, ↓QL.wp_dNot, ↓QL.wp_dAndV, ↓QL.wp_dOrV, ↓QL.wp_dNotV, ↓QL.wp_dIf, ↓QL.wp_dChn, ↓QL.wp_dCall, ↓QL.wp_dCallR, ↓QL.wp_dB, ↓QL.wp_dBN, QL.lenD_lst, QL.lenD_tup, QL.lenD_brw, QL.absD_int, QL.intD_int, QL.intD_bl, QL.max2D_int, QL.min2D_int, QL.lst1_lst, QL.lst1_brw, QL.listD_lst, QL.listD_tup, QL.listD_brw, ↓QL.wp_dIS, QL.seqO_lst, QL.seqO_tup, ↓QL.wp_dIR, QL.optP_rng1, QL.optP_rng2, QL.enuD_lst, QL.zipD_lst, ↓QL.wp_dNoP, QL.intO_int, ↓QL.wp_dPrt, QL.optP_lrg, ↓QL.wp_dLrg1, QL.sortD_lst, QL.sortD_brw, QL.slA_lst, QL.slA_brw, QL.slA_tup, ↓QL.wp_dSlA, QL.slO_lst, QL.slO_brw, ↓QL.wp_dSl, QL.seqP_nx, QL.seqP_rt, QL.seqP_bk, QL.seqP_ct, ↓QL.wp_dSeq, ↓QL.wp_dNx, ↓QL.wp_dPass, ↓QL.wp_dBrk, ↓QL.wp_dCnt, ↓QL.wp_dRetN, ↓QL.wp_dRet, ↓QL.wp_dExpr, ↓QL.wp_dIfS, ↓QL.wp_dAsg, QL.gN_eq, QL.gNil_nil, QL.gCons_cons, QL.gTp_tup, ↓QL.wp_dSetO, ↓QL.wp_dSetF, ↓QL.wp_dParNN, ↓QL.wp_dParNE, ↓QL.wp_dParEN, QL.parO_two, ↓QL.wp_dPar, QL.ownS_own, ↓QL.wp_dApp, ↓QL.wp_dStI, ↓QL.wp_dExt, QL.lstO_lst, ↓QL.wp_dFrz, QL.frzS_own, QL.frzS_val, QL.frzS_non, QL.frz_zero, QL.frz_succ, ↓QL.wp_dNEN, ↓QL.wp_dEEN, ↓QL.wp_dENE, ↓QL.wp_dCat, QL.catO_ll, QL.catO_bl, QL.catO_lb, QL.catO_bb, ↓QL.wp_dFor, ↓QL.wp_lcl_nil, ↓QL.wp_lcl_cons, QL.rngL_length, QL.rE_zero, ↓QL.wp_dLc, QL.notOwn_val, QL.notOwn_non, QL.notOwn_own, QL.notOwn_deep, QL.notOwn_jk, ↓QL.wp_lc1, ↓QL.wp_dYes, QL.fit_int, QL.fit_bl, QL.fit_non, QL.fit_lst, QL.fit_tup, QL.ex_and_eq, ↓QL.wp_dIdx, ↓QL.wp_dRev, QL.revO_lst, QL.revO_brw, QL.tupleD_lst, QL.tupleD_brw, QL.tupleD_tup, QL.sortSetD_lst, QL.sortG_brw, QL.maxG_brw, QL.minG_brw, QL.ltV_int, QL.leV_int, QL.gtV_int, QL.geV_int, QL.okE_int, QL.okE_non, QL.okE_lst, QL.okE_tup, QL.eqO_brwR, QL.eqO_brwL, ↓QL.wp_forl_nil, ↓QL.wp_forl_cons, QL.forP_nx, QL.forP_ct, QL.forP_bk, QL.forP_rt, QL.eqO_non_int, QL.eqO_int_non, QL.eqO_non_non, QL.eqO_non_tup, QL.eqO_tup_non, QL.startE, List.map_cons, List.map_nil, List.isEmpty_cons, List.isEmpty_nil, List.append_nil, List.nil_append, List.cons_append, List.length_cons, List.length_nil, Nat.reduceAdd, Nat.reduceSub, Nat.reduceLeDiff, Nat.reduceLT, Nat.reduceMul, Nat.reduceEqDiff, List.replicate_succ, List.replicate_zero, List.getElem?_cons_zero, List.getElem?_cons_succ, List.set_cons_zero, List.set_cons_succ, Option.bind_some, Option.bind_none, Option.some.injEq, QL.D.bl.injEq, QL.D.int.injEq, QL.D.str.injEq, QL.D.lst.injEq, QL.D.tup.injEq, QL.Out.nx.injEq, QL.Out.rt.injEq, QL.Slot.val.injEq, QL.Slot.own.injEq, List.cons.injEq, exists_eq_left, exists_eq_left', exists_eq_right, exists_eq_right', exists_eq, exists_eq', exists_and_left, exists_and_right, decide_eq_true_eq, decide_eq_false_iff_not, Bool.not_true, Bool.not_false, Bool.false_xor, Bool.true_xor, Bool.xor_true, Bool.xor_false, Bool.and_true, Bool.true_and, Bool.and_self, Bool.or_true, Bool.true_or, Bool.or_self, Bool.or_false, Bool.false_or, List.all_cons, List.all_nil, true_and, and_true, and_self, true_or, or_true, if_true, if_false, Bool.not_eq_true', not_false_eq_true, not_true_eq_false, Bool.false_eq_true, Bool.true_eq_false, reduceCtorEq, and_false, false_and, QL.ex_ite, QL.wipeE, QL.noOwn_eq, Option.toList, Int.reduceNeg, Int.reduceToNat, Int.reduceLT, Int.reduceLE, Int.reduceSub, Int.reduceAdd, Int.reduceMul, Int.toNat_zero, Int.cast_ofNat_Int, Int.reduceEq, ite_self, Option.ite_none_right_eq_some])
namespace K_k44
local macro_rules | `(tactic| walk_at "ev") => `(tactic| simp only [QL.optP_some, QL.optP_none, QL.optP_ite, ↓QL.wp_some, ↓QL.wp_none, ↓QL.wp_mr, ↓QL.wp_ml, ↓QL.wp_mb, QL.LIM_eq, QL.strip_int', QL.strip_bl, QL.strip_str', QL.strip_non, QL.strip_hd, QL.strip_lst, QL.strip_tup, QL.strip_brw, QL.plain_int, QL.plain_bl, QL.plain_str, QL.plain_non, QL.plain_hd, QL.plain_lst, QL.plain_tup, QL.plain_brw, QL.plO_eq, QL.scal0_int, QL.scal0_bl, QL.scal0_non, QL.addD_int, QL.subD_int, QL.mulD_int, QL.small64_eq, QL.fdivD_int, QL.modD_int, QL.negD_int, QL.ltD_int, QL.leD_int, QL.gtD_int, QL.geD_int, QL.isND_non, QL.isND_int, QL.isND_bl, QL.isND_str, QL.isND_tup, QL.isND_lst, QL.str2_str, QL.eqO_str, QL.eqO_int, QL.eqO_bl, QL.idxD_lst, QL.idxD_tup, QL.idxD_brw, QL.atI_zero, QL.atI_one, QL.atI_two, QL.atI_three, QL.atI_four, QL.atI_five, QL.addD_tup, QL.truD_bl, QL.truD_int, QL.truD_non, QL.truD_lst, QL.truD_tup, QL.rds_val, QL.rds_own, QL.rds_non, QL.rds_deep, ↓QL.wp_dVar, ↓QL.wp_dC, ↓QL.wp_dOp, ↓QL.wp_dU, ↓QL.wp_dNil, ↓QL.wp_dCons, ↓QL.wp_dTup, ↓QL.wp_dPl, ↓QL.wp_dFz, QL.blO_bl, ↓QL.wp_dTst, ↓QL.wp_dTru, ↓QL.wp_dAnd, ↓QL.wp_dOr, ↓QL.wp_dNot, ↓QL.wp_dAndV, ↓QL.wp_dOrV, ↓QL.wp_dNotV, ↓QL.wp_dIf, ↓QL.wp_dChn, ↓QL.wp_dCall, ↓QL.wp_dCallR, ↓QL.wp_dB, ↓QL.wp_dBN, QL.lenD_lst, QL.lenD_tup, QL.lenD_brw, QL.absD_int, QL.intD_int, QL.intD_bl, QL.max2D_int, QL.min2D_int, QL.lst1_lst, QL.lst1_brw, QL.listD_lst, QL.listD_tup, QL.listD_brw, ↓QL.wp_dIS, QL.seqO_lst, QL.seqO_tup, ↓QL.wp_dIR, QL.optP_rng1, QL.optP_rng2, QL.enuD_lst, QL.zipD_lst, ↓QL.wp_dNoP, QL.intO_int, ↓QL.wp_dPrt, QL.optP_lrg, ↓QL.wp_dLrg1, QL.sortD_lst, QL.sortD_brw, QL.slA_lst, QL.slA_brw, QL.slA_tup, ↓QL.wp_dSlA, QL.slO_lst, QL.slO_brw, ↓QL.wp_dSl, QL.seqP_nx, QL.seqP_rt, QL.seqP_bk, QL.seqP_ct, ↓QL.wp_dSeq, ↓QL.wp_dNx, ↓QL.wp_dPass, ↓QL.wp_dBrk, ↓QL.wp_dCnt, ↓QL.wp_dRetN, ↓QL.wp_dRet, ↓QL.wp_dExpr, ↓QL.wp_dIfS, ↓QL.wp_dAsg, QL.gN_eq, QL.gNil_nil, QL.gCons_cons, QL.gTp_tup, ↓QL.wp_dSetO, ↓QL.wp_dSetF, ↓QL.wp_dParNN, ↓QL.wp_dParNE, ↓QL.wp_dParEN, QL.parO_two, ↓QL.wp_dPar, QL.ownS_own, ↓QL.wp_dApp, ↓QL.wp_dStI, ↓QL.wp_dExt, QL.lstO_lst, ↓QL.wp_dFrz, QL.frzS_own, QL.frzS_val, QL.frzS_non, QL.frz_zero, QL.frz_succ, ↓QL.wp_dNEN, ↓QL.wp_dEEN, ↓QL.wp_dENE, ↓QL.wp_dCat, QL.catO_ll, QL.catO_bl, QL.catO_lb, QL.catO_bb, ↓QL.wp_dFor, ↓QL.wp_lcl_nil, ↓QL.wp_lcl_cons, QL.rngL_length, QL.rE_zero, ↓QL.wp_dLc, QL.notOwn_val, QL.notOwn_non, QL.notOwn_own, QL.notOwn_deep, QL.notOwn_jk, ↓QL.wp_lc1, ↓QL.wp_dYes, QL.fit_int, QL.fit_bl, QL.fit_non, QL.fit_lst, QL.fit_tup, QL.ex_and_eq, ↓QL.wp_dIdx, ↓QL.wp_dRev, QL.revO_lst, QL.revO_brw, QL.tupleD_lst, QL.tupleD_brw, QL.tupleD_tup, QL.sortSetD_lst, QL.sortG_brw, QL.maxG_brw, QL.minG_brw, QL.ltV_int, QL.leV_int, QL.gtV_int, QL.geV_int, QL.okE_int, QL.okE_non, QL.okE_lst, QL.okE_tup, QL.eqO_brwR, QL.eqO_brwL, ↓QL.wp_forl_nil, ↓QL.wp_forl_cons, QL.forP_nx, QL.forP_ct, QL.forP_bk, QL.forP_rt, QL.eqO_non_int, QL.eqO_int_non, QL.eqO_non_non, QL.eqO_non_tup, QL.eqO_tup_non, sumD_eq, encN_eq, QL.startE, List.map_cons, List.map_nil, List.isEmpty_cons, List.isEmpty_nil, List.append_nil, List.nil_append, List.cons_append, List.length_cons, List.length_nil, Nat.reduceAdd, Nat.reduceSub, Nat.reduceLeDiff, Nat.reduceLT, Nat.reduceMul, Nat.reduceEqDiff, List.replicate_succ, List.replicate_zero, List.getElem?_cons_zero, List.getElem?_cons_succ, List.set_cons_zero, List.set_cons_succ, Option.bind_some, Option.bind_none, Option.some.injEq, QL.D.bl.injEq, QL.D.int.injEq, QL.D.str.injEq, QL.D.lst.injEq, QL.D.tup.injEq, QL.Out.nx.injEq, QL.Out.rt.injEq, QL.Slot.val.injEq, QL.Slot.own.injEq, List.cons.injEq, exists_eq_left, exists_eq_left', exists_eq_right, exists_eq_right', exists_eq, exists_eq', exists_and_left, exists_and_right, decide_eq_true_eq, decide_eq_false_iff_not, Bool.not_true, Bool.not_false, Bool.false_xor, Bool.true_xor, Bool.xor_true, Bool.xor_false, Bool.and_true, Bool.true_and, Bool.and_self, Bool.or_true, Bool.true_or, Bool.or_self, Bool.or_false, Bool.false_or, List.all_cons, List.all_nil, true_and, and_true, and_self, true_or, or_true, if_true, if_false, Bool.not_eq_true', not_false_eq_true, not_true_eq_false, Bool.false_eq_true, Bool.true_eq_false, reduceCtorEq, and_false, false_and, QL.ex_ite, QL.wipeE, QL.noOwn_eq, Option.toList, Int.reduceNeg, Int.reduceToNat, Int.reduceLT, Int.reduceLE, Int.reduceSub, Int.reduceAdd, Int.reduceMul, Int.toNat_zero, Int.cast_ofNat_Int, Int.reduceEq, ite_self, Option.ite_none_right_eq_some])
local macro_rules | `(tactic| walk_at "e") => `(tactic| try simp only [QL.optP_some, QL.optP_none, QL.optP_ite, ↓QL.wp_some, ↓QL.wp_none, ↓QL.wp_mr, ↓QL.wp_ml, ↓QL.wp_mb, QL.LIM_eq, QL.strip_int', QL.strip_bl, QL.strip_str', QL.strip_non, QL.strip_hd, QL.strip_lst, QL.strip_tup, QL.strip_brw, QL.plain_int, QL.plain_bl, QL.plain_str, QL.plain_non, QL.plain_hd, QL.plain_lst, QL.plain_tup, QL.plain_brw, QL.plO_eq, QL.scal0_int, QL.scal0_bl, QL.scal0_non, QL.addD_int, QL.subD_int, QL.mulD_int, QL.small64_eq, QL.fdivD_int, QL.modD_int, QL.negD_int, QL.ltD_int, QL.leD_int, QL.gtD_int, QL.geD_int, QL.isND_non, QL.isND_int, QL.isND_bl, QL.isND_str, QL.isND_tup, QL.isND_lst, QL.str2_str, QL.eqO_str, QL.eqO_int, QL.eqO_bl, QL.idxD_lst, QL.idxD_tup, QL.idxD_brw, QL.atI_zero, QL.atI_one, QL.atI_two, QL.atI_three, QL.atI_four, QL.atI_five, QL.addD_tup, QL.truD_bl, QL.truD_int, QL.truD_non, QL.truD_lst, QL.truD_tup, QL.rds_val, QL.rds_own, QL.rds_non, QL.rds_deep, ↓QL.wp_dVar, ↓QL.wp_dC, ↓QL.wp_dOp, ↓QL.wp_dU, ↓QL.wp_dNil, ↓QL.wp_dCons, ↓QL.wp_dTup, ↓QL.wp_dPl, ↓QL.wp_dFz, QL.blO_bl, ↓QL.wp_dTst, ↓QL.wp_dTru, ↓QL.wp_dAnd, ↓QL.wp_dOr, ↓QL.wp_dNot, ↓QL.wp_dAndV, ↓QL.wp_dOrV, ↓QL.wp_dNotV, ↓QL.wp_dIf, ↓QL.wp_dChn, ↓QL.wp_dCall, ↓QL.wp_dCallR, ↓QL.wp_dB, ↓QL.wp_dBN, QL.lenD_lst, QL.lenD_tup, QL.lenD_brw, QL.absD_int, QL.intD_int, QL.intD_bl, QL.max2D_int, QL.min2D_int, QL.lst1_lst, QL.lst1_brw, QL.listD_lst, QL.listD_tup, QL.listD_brw, ↓QL.wp_dIS, QL.seqO_lst, QL.seqO_tup, ↓QL.wp_dIR, QL.optP_rng1, QL.optP_rng2, QL.enuD_lst, QL.zipD_lst, ↓QL.wp_dNoP, QL.intO_int, ↓QL.wp_dPrt, QL.optP_lrg, ↓QL.wp_dLrg1, QL.sortD_lst, QL.sortD_brw, QL.slA_lst, QL.slA_brw, QL.slA_tup, ↓QL.wp_dSlA, QL.slO_lst, QL.slO_brw, ↓QL.wp_dSl, QL.seqP_nx, QL.seqP_rt, QL.seqP_bk, QL.seqP_ct, ↓QL.wp_dSeq, ↓QL.wp_dNx, ↓QL.wp_dPass, ↓QL.wp_dBrk, ↓QL.wp_dCnt, ↓QL.wp_dRetN, ↓QL.wp_dRet, ↓QL.wp_dExpr, ↓QL.wp_dIfS, ↓QL.wp_dAsg, QL.gN_eq, QL.gNil_nil, QL.gCons_cons, QL.gTp_tup, ↓QL.wp_dSetO, ↓QL.wp_dSetF, ↓QL.wp_dParNN, ↓QL.wp_dParNE, ↓QL.wp_dParEN, QL.parO_two, ↓QL.wp_dPar, QL.ownS_own, ↓QL.wp_dApp, ↓QL.wp_dStI, ↓QL.wp_dExt, QL.lstO_lst, ↓QL.wp_dFrz, QL.frzS_own, QL.frzS_val, QL.frzS_non, QL.frz_zero, QL.frz_succ, ↓QL.wp_dNEN, ↓QL.wp_dEEN, ↓QL.wp_dENE, ↓QL.wp_dCat, QL.catO_ll, QL.catO_bl, QL.catO_lb, QL.catO_bb, ↓QL.wp_dFor, ↓QL.wp_lcl_nil, ↓QL.wp_lcl_cons, QL.rngL_length, QL.rE_zero, ↓QL.wp_dLc, QL.notOwn_val, QL.notOwn_non, QL.notOwn_own, QL.notOwn_deep, QL.notOwn_jk, ↓QL.wp_lc1, ↓QL.wp_dYes, QL.fit_int, QL.fit_bl, QL.fit_non, QL.fit_lst, QL.fit_tup, QL.ex_and_eq, ↓QL.wp_dIdx, ↓QL.wp_dRev, QL.revO_lst, QL.revO_brw, QL.tupleD_lst, QL.tupleD_brw, QL.tupleD_tup, QL.sortSetD_lst, QL.sortG_brw, QL.maxG_brw, QL.minG_brw, QL.ltV_int, QL.leV_int, QL.gtV_int, QL.geV_int, QL.okE_int, QL.okE_non, QL.okE_lst, QL.okE_tup, QL.eqO_brwR, QL.eqO_brwL, ↓QL.wp_forl_nil, ↓QL.wp_forl_cons, QL.forP_nx, QL.forP_ct, QL.forP_bk, QL.forP_rt, QL.eqO_non_int, QL.eqO_int_non, QL.eqO_non_non, QL.eqO_non_tup, QL.eqO_tup_non, sumD_eq, encN_eq, QL.startE, List.map_cons, List.map_nil, List.isEmpty_cons, List.isEmpty_nil, List.append_nil, List.nil_append, List.cons_append, List.length_cons, List.length_nil, Nat.reduceAdd, Nat.reduceSub, Nat.reduceLeDiff, Nat.reduceLT, Nat.reduceMul, Nat.reduceEqDiff, List.replicate_succ, List.replicate_zero, List.getElem?_cons_zero, List.getElem?_cons_succ, List.set_cons_zero, List.set_cons_succ, Option.bind_some, Option.bind_none, Option.some.injEq, QL.D.bl.injEq, QL.D.int.injEq, QL.D.str.injEq, QL.D.lst.injEq, QL.D.tup.injEq, QL.Out.nx.injEq, QL.Out.rt.injEq, QL.Slot.val.injEq, QL.Slot.own.injEq, List.cons.injEq, exists_eq_left, exists_eq_left', exists_eq_right, exists_eq_right', exists_eq, exists_eq', exists_and_left, exists_and_right, decide_eq_true_eq, decide_eq_false_iff_not, Bool.not_true, Bool.not_false, Bool.false_xor, Bool.true_xor, Bool.xor_true, Bool.xor_false, Bool.and_true, Bool.true_and, Bool.and_self, Bool.or_true, Bool.true_or, Bool.or_self, Bool.or_false, Bool.false_or, List.all_cons, List.all_nil, true_and, and_true, and_self, true_or, or_true, if_true, if_false, Bool.not_eq_true', not_false_eq_true, not_true_eq_false, Bool.false_eq_true, Bool.true_eq_false, reduceCtorEq, and_false, false_and, QL.ex_ite, QL.wipeE, QL.noOwn_eq, Option.toList, Int.reduceNeg, Int.reduceToNat, Int.reduceLT, Int.reduceLE, Int.reduceSub, Int.reduceAdd, Int.reduceMul, Int.toNat_zero, Int.cast_ofNat_Int, Int.reduceEq, ite_self, Option.ite_none_right_eq_some])
def FF {J S : Type} (mk : J → Ev) (c : Prop) (r : D) (s : S) (o : Out) (s1 : S) : Prop := s1 = s ∧ (c → o = .rt r) ∧ (¬ c → ∃ j', o = .nx (mk j') ∨ o = .ct (mk j'))
theorem ff_rt {J S : Type} {mk : J → Ev} {c : Prop} {r d : D} {s : S} (h : c) (e : d = r) : FF mk c r s (.rt d) s := ⟨rfl, fun _ => by rw [e], fun z => absurd h z⟩
theorem ff_nx {J S : Type} {mk : J → Ev} {c : Prop} {r : D} {s : S} {ρ : Ev} (j : J) (h : ¬ c) (e : ρ = mk j) : FF mk c r s (.nx ρ) s := ⟨rfl, fun z => absurd z h, fun _ => ⟨j, .inl (by rw [e])⟩⟩
theorem forl_find {β J S : Type} {g : D → Ev → Option Ev} {b : Ev → M S Out} {Q : Out → S → Prop} (enc : β → D) (mk : J → Ev) (p : β → Bool) (r : β → D) : ∀ (xs : List β) (j : J) (s : S),
    (∀ x ∈ xs, ∀ j, OptP (g (enc x) (mk j)) fun ρ1 => Wp (b ρ1 s) fun o s1 => FF mk (p x = true) (r x) s o s1) →
    (∀ x, xs.find? p = some x → Q (.rt (r x)) s) → (xs.find? p = none → ∀ j, Q (.nx (mk j)) s) → Wp (forl g b (xs.map enc) (mk j) s) Q
  | [], j, s, _, _, he => forl_nil.mpr (he rfl j)
  | x :: xs, j, s, hs, h1, h2 => by
    obtain ⟨ρ1, e, h⟩ := hs x List.mem_cons_self j
    refine forl_cons.mpr ⟨ρ1, e, h.imp fun o s1 ⟨es, q1, q2⟩ => ?_⟩
    subst es
    by_cases c : p x = true
    · rw [q1 c]
      exact h1 x (by rw [List.find?_cons, c])
    · obtain ⟨j', ho⟩ := q2 c
      have ef : (x :: xs).find? p = xs.find? p := by rw [List.find?_cons, Bool.not_eq_true _ |>.mp c]
      rw [ef] at h1 h2
      have nx : Wp (forl g b (xs.map enc) (mk j') s1) Q := forl_find enc mk p r xs j' s1 (fun y hy => hs y (List.mem_cons_of_mem _ hy)) h1 h2
      rcases ho with rfl | rfl <;> exact nx
theorem getD_int {row : List Int} {i : Nat} (hi : i < row.length) : L2.atI (row.map D.int) (i : Int) = some (.int (row.getD i 0)) := by
  rw [atI_map D.int hi, List.getD_eq_getElem?_getD, List.getElem?_eq_getElem hi]; rfl
theorem in_int (n : Bool) (x : Int) (xs : List Int) : inO n (.int x) (.lst (xs.map .int)) = some (.bl (n ^^ decide (x ∈ xs))) := inO_map (f := D.int) (fun _ _ h => by cases h; rfl) (fun _ => rfl) n x xs
def badK (L : List Int) (e : Int) (ds rs : List Int) (k : Nat) : Bool := decide (¬ rs.getD k 0 ∈ ds ∨ ¬ ((sortI L).getD k 0 - e ≤ rs.getD k 0 ∧ rs.getD k 0 ≤ (sortI L).getD k 0))
def faultD (L : List Int) (e : Int) (ds rs : List Int) : D :=
  if ds ≠ uniqI ds ∨ rs.length ≠ L.length then .tup [.str "days"]
  else match (List.range L.length).find? (badK L e ds rs) with
  | some k => .tup [.str "service", .int (k : Nat)]
  | none => if ds.length = (days e L).length then .non else .tup [.str "fewer"]
theorem enuZ_enc (xs ys : List Int) (h : ys.length = xs.length) : enuZD [.lst (xs.map .int), .lst (ys.map .int)] = some ((List.range xs.length).map fun (k : Nat) => D.tup [.int (k : Nat), .tup [.int (xs.getD k 0), .int (ys.getD k 0)]]) := by
  unfold enuZD
  refine congrArg some (List.ext_getElem? fun i => ?_)
  rw [List.getElem?_map, List.getElem?_zipIdx, List.getElem?_map]
  by_cases c : i < xs.length
  · rw [List.getElem?_eq_getElem (l := (xs.map D.int).zip (ys.map D.int)) (by rw [List.length_zip, List.length_map, List.length_map]; omega), List.getElem?_range c, List.getElem_zip]
    simp only [Option.map_some, List.getElem_map, Nat.zero_add, List.getD_eq_getElem?_getD, List.getElem?_eq_getElem c, List.getElem?_eq_getElem (show i < ys.length by omega), Option.getD_some]
  · rw [List.getElem?_eq_none (l := (xs.map D.int).zip (ys.map D.int)) (by rw [List.length_zip, List.length_map, List.length_map]; omega), List.getElem?_eq_none (by rw [List.length_range]; omega)]; rfl
theorem fD_days {L ds rs : List Int} {e : Int} (c : ds ≠ uniqI ds ∨ rs.length ≠ L.length) : faultD L e ds rs = .tup [.str "days"] := by unfold faultD; rw [if_pos c]
theorem fD_serv {L ds rs : List Int} {e : Int} {k : Nat} (c1 : ds = uniqI ds) (c2 : rs.length = L.length) (h : (List.range L.length).find? (badK L e ds rs) = some k) : faultD L e ds rs = .tup [.str "service", .int (k : Nat)] := by unfold faultD; rw [if_neg (fun z => z.elim (fun z => z c1) (fun z => z c2)), h]
theorem fD_few {L ds rs : List Int} {e : Int} (c1 : ds = uniqI ds) (c2 : rs.length = L.length) (h : (List.range L.length).find? (badK L e ds rs) = none) : faultD L e ds rs = if ds.length = (days e L).length then .non else .tup [.str "fewer"] := by unfold faultD; rw [if_neg (fun z => z.elim (fun z => z c1) (fun z => z c2)), h]
theorem fault_ev {L ds rs : List Int} (hL : L.length ≤ 8) (hd : ds.length ≤ 50) (hr : rs.length ≤ 50) {e : Int} (he : 0 ≤ e) : pureF v__law_fault [eI L, .int e, .tup [eI ds, eI rs]] = some (faultD L e ds rs) := by
  have hs : (sortI L).length = L.length := (sortI_perm L).length_eq
  have hu := uniqI_len ds
  refine pureF_eq rfl ?_
  unfold d__law_fault
  walk_at "e"
  refine ⟨⟨by omega, by omega⟩, ?_⟩
  rw [eqO_ints]
  walk_at "e"
  refine ite_i (fun c => (fD_days (.inl c)).symm) (fun c1 => ?_)
  have c1 : ds = uniqI ds := Decidable.byContradiction c1
  rw [List.length_map, List.length_map]
  refine ite_i (fun c => (fD_days (.inr fun z => c (by rw [z]))).symm) (fun c2 => ?_)
  have c2 : rs.length = L.length := Int.ofNat.inj (Decidable.byContradiction c2)
  refine ⟨rngOk_nat (by omega), ?_⟩
  rw [rngL_nat]
  refine forl_find (J := Slot × Slot) (fun (k : Nat) => D.int (k : Int)) (fun j => [.val (eI L), .val (.int e), .val (.tup [eI ds, eI rs]), .val (eI ds), .val (eI rs), j.1, j.2]) (badK L e ds rs) (fun (k : Nat) => .tup [.str "service", .int (k : Nat)]) (List.range L.length) (.non, .non) () (fun k hk j => ?_) (fun k hk => ?_) (fun hn j => ?_)
  · have hk := List.mem_range.mp hk
    walk_at "e"
    unfold d__law_fault_b1
    walk_at "e"
    rw [sortG_ints]
    walk_at "e"
    refine opt_at (getD_int (by omega)) ?_
    walk_at "e"
    refine opt_at (getD_int (by omega)) ?_
    rw [in_int]
    walk_at "e"
    have hb : badK L e ds rs k = true ↔ (¬ rs.getD k 0 ∈ ds ∨ ¬ ((sortI L).getD k 0 - e ≤ rs.getD k 0 ∧ rs.getD k 0 ≤ (sortI L).getD k 0)) := by unfold badK; exact decide_eq_true_iff
    refine ite_i (fun c => ff_rt (hb.mpr (.inl c)) rfl) (fun c3 => ?_)
    refine opt_at (getD_int (by omega)) ?_
    walk_at "e"
    refine ite_i (fun c4 => ?_) (fun c => ff_rt (hb.mpr (.inr fun z => c z.1)) rfl)
    refine ite_i (fun c => ff_rt (hb.mpr (.inr fun z => c z.2)) rfl) (fun c5 => ff_nx (_, _) (fun z => ?_) rfl)
    rcases hb.mp z with z | z
    · exact c3 z
    · exact z ⟨c4, Decidable.byContradiction c5⟩
  · exact congrArg Out.rt (fD_serv c1 c2 hk).symm
  · walk_at "e"
    rw [least_ev hL he, fD_few c1 c2 hn]
    walk_at "e"
    rw [List.length_map]
    by_cases c : ds.length = (days e L).length
    · rw [if_pos c, c]
      walk_at "e"
    · rw [if_neg c, if_neg (by omega)]
      exact ⟨_, rfl, rfl, rfl⟩
theorem tfault_ev {L ds rs : List Int} (hL : L.length ≤ 8) (hd : ds.length ≤ 50) (hr : rs.length ≤ 50) {e : Int} (he : 0 ≤ e) : pureF v_trips_fault [eI L, .int e, .tup [eI ds, eI rs]] = some (faultD L e ds rs) := by
  have hs : (sortI L).length = L.length := (sortI_perm L).length_eq
  have hu := uniqI_len ds
  refine pureF_eq rfl ?_
  unfold d_trips_fault
  walk_at "e"
  refine ⟨⟨by omega, by omega⟩, ?_⟩
  rw [eqO_ints]
  walk_at "e"
  refine ite_i (fun c => (fD_days (.inl c)).symm) (fun c1 => ?_)
  have c1 : ds = uniqI ds := Decidable.byContradiction c1
  rw [List.length_map, List.length_map]
  refine ite_i (fun c => (fD_days (.inr fun z => c (by rw [z]))).symm) (fun c2 => ?_)
  have c2 : rs.length = L.length := Int.ofNat.inj (Decidable.byContradiction c2)
  rw [sortG_ints]
  refine opt_at rfl ?_
  refine opt_at (enuZ_enc (sortI L) rs (by omega)) ?_
  refine forl_find (J := Slot × Slot × Slot) (fun (k : Nat) => D.tup [.int (k : Nat), .tup [.int ((sortI L).getD k 0), .int (rs.getD k 0)]]) (fun j => [.val (eI L), .val (.int e), .val (.tup [eI ds, eI rs]), .val (eI ds), .val (eI rs), j.1, j.2.1, j.2.2, .non]) (badK L e ds rs) (fun (k : Nat) => .tup [.str "service", .int (k : Nat)]) (List.range (sortI L).length) (.non, .non, .non) () (fun k hk j => ?_) (fun k hk => ?_) (fun hn j => ?_)
  · have hk := List.mem_range.mp hk
    walk_at "e"
    unfold d_trips_fault_b1
    walk_at "e"
    rw [in_int]
    walk_at "e"
    have hb : badK L e ds rs k = true ↔ (¬ rs.getD k 0 ∈ ds ∨ ¬ ((sortI L).getD k 0 - e ≤ rs.getD k 0 ∧ rs.getD k 0 ≤ (sortI L).getD k 0)) := by unfold badK; exact decide_eq_true_iff
    refine ite_i (fun c => ff_rt (hb.mpr (.inl c)) rfl) (fun c3 => ?_)
    refine ite_i (fun c4 => ?_) (fun c => ff_rt (hb.mpr (.inr fun z => c z.1)) rfl)
    refine ite_i (fun c => ff_rt (hb.mpr (.inr fun z => c z.2)) rfl) (fun c5 => ff_nx (_, _, _) (fun z => ?_) rfl)
    rcases hb.mp z with z | z
    · exact c3 z
    · exact z ⟨c4, Decidable.byContradiction c5⟩
  · rw [hs] at hk
    exact congrArg Out.rt (fD_serv c1 c2 hk).symm
  · walk_at "e"
    rw [sortG_ints]
    rw [hs] at hn
    walk_at "e"
    refine (show D.lst [] = eI [] from rfl) ▸ forl_fold (J := Slot) D.int (fun (as : List Int) (j' : Slot) => [.val (eI L), .val (.int e), .val (.tup [eI ds, eI rs]), .val (eI ds), .val (eI rs), j.1, j', j.2.2, .own (eI as)]) (stepD e) (fun n as => as.length ≤ n) (sortI L) 0 [] j.2.1 () (Nat.le_refl _) (fun i x hi as j' p => ?_) (fun j' p => ?_)
    · have hi := (List.getElem?_eq_some_iff.mp hi).1
      walk_at "e"
      unfold d_trips_fault_b2
      walk_at "e"
      have hl : (stepD e as x).length ≤ 0 + i + 1 := by have := stepD_len e as x; omega
      refine ite_i (fun c => ?_) (fun c => ?_)
      · have h0 : as = [] := by rw [List.length_map] at c; exact List.length_eq_zero_iff.mp (by omega)
        refine ⟨by rw [List.length_map]; omega, ?_⟩
        exact fe_nx _ (by rw [step_none h0, h0]; rfl) hl
      · have h0 : as ≠ [] := fun z => c (by rw [z]; rfl)
        rw [last_at h0]
        walk_at "e"
        have h2 := step_some (e := e) h0 x
        refine ite_i (fun c => ?_) (fun c => ?_)
        · refine ⟨by rw [List.length_map]; omega, ?_⟩
          exact fe_nx _ (by rw [h2, if_pos (by simpa using c), show eI (as ++ [x]) = .lst (as.map D.int ++ [D.int x]) by rw [eI, List.map_append]; rfl]) hl
        · exact fe_nx _ (by rw [h2, if_neg (by simpa using c)]) hl
    · rw [days_fold, fD_few c1 c2 hn]
      walk_at "e"
      rw [List.length_map, List.length_map]
      by_cases c : ds.length = (days e L).length
      · rw [if_pos c, if_pos (by omega)]
      · rw [if_neg c, if_neg (by omega)]
end K_k44
end
section
set_option Elab.async false
set_option linter.all false
set_option maxRecDepth 100000
set_option maxHeartbeats 4000000
open QL
local macro_rules | `(tactic| walk_at "ev") => `(tactic| simp only [QL.optP_some, QL.optP_none, QL.optP_ite, ↓QL.wp_some, ↓QL.wp_none, ↓QL.wp_mr, ↓QL.wp_ml, ↓QL.wp_mb, QL.LIM_eq, QL.strip_int', QL.strip_bl, QL.strip_str', QL.strip_non, QL.strip_hd, QL.strip_lst, QL.strip_tup, QL.strip_brw, QL.plain_int, QL.plain_bl, QL.plain_str, QL.plain_non, QL.plain_hd, QL.plain_lst, QL.plain_tup, QL.plain_brw, QL.plO_eq, QL.scal0_int, QL.scal0_bl, QL.scal0_non, QL.addD_int, QL.subD_int, QL.mulD_int, QL.small64_eq, QL.fdivD_int, QL.modD_int, QL.negD_int, QL.ltD_int, QL.leD_int, QL.gtD_int, QL.geD_int, QL.isND_non, QL.isND_int, QL.isND_bl, QL.isND_str, QL.isND_tup, QL.isND_lst, QL.str2_str, QL.eqO_str, QL.eqO_int, QL.eqO_bl, QL.idxD_lst, QL.idxD_tup, QL.idxD_brw, QL.atI_zero, QL.atI_one, QL.atI_two, QL.atI_three, QL.atI_four, QL.atI_five, QL.addD_tup, QL.truD_bl, QL.truD_int, QL.truD_non, QL.truD_lst, QL.truD_tup, QL.rds_val, QL.rds_own, QL.rds_non, QL.rds_deep, ↓QL.wp_dVar, ↓QL.wp_dC, ↓QL.wp_dOp, ↓QL.wp_dU, ↓QL.wp_dNil, ↓QL.wp_dCons, ↓QL.wp_dTup, ↓QL.wp_dPl, ↓QL.wp_dFz, QL.blO_bl, ↓QL.wp_dTst, ↓QL.wp_dTru, ↓QL.wp_dAnd, ↓QL.wp_dOr, ↓QL.wp_dNot, ↓QL.wp_dAndV, ↓QL.wp_dOrV, ↓QL.wp_dNotV, ↓QL.wp_dIf, ↓QL.wp_dChn, ↓QL.wp_dCall, ↓QL.wp_dCallR, ↓QL.wp_dB, ↓QL.wp_dBN, QL.lenD_lst, QL.lenD_tup, QL.lenD_brw, QL.absD_int, QL.intD_int, QL.intD_bl, QL.max2D_int, QL.min2D_int, QL.lst1_lst, QL.lst1_brw, QL.listD_lst, QL.listD_tup, QL.listD_brw, ↓QL.wp_dIS, QL.seqO_lst, QL.seqO_tup, ↓QL.wp_dIR, QL.optP_rng1, QL.optP_rng2, QL.enuD_lst, QL.zipD_lst, ↓QL.wp_dNoP, QL.intO_int, ↓QL.wp_dPrt, QL.optP_lrg, ↓QL.wp_dLrg1, QL.sortD_lst, QL.sortD_brw, QL.slA_lst, QL.slA_brw, QL.slA_tup, ↓QL.wp_dSlA, QL.slO_lst, QL.slO_brw, ↓QL.wp_dSl, QL.seqP_nx, QL.seqP_rt, QL.seqP_bk, QL.seqP_ct, ↓QL.wp_dSeq, ↓QL.wp_dNx, ↓QL.wp_dPass, ↓QL.wp_dBrk, ↓QL.wp_dCnt, ↓QL.wp_dRetN, ↓QL.wp_dRet, ↓QL.wp_dExpr, ↓QL.wp_dIfS, ↓QL.wp_dAsg, QL.gN_eq, QL.gNil_nil, QL.gCons_cons, QL.gTp_tup, ↓QL.wp_dSetO, ↓QL.wp_dSetF, ↓QL.wp_dParNN, ↓QL.wp_dParNE, ↓QL.wp_dParEN, QL.parO_two, ↓QL.wp_dPar, QL.ownS_own, ↓QL.wp_dApp, ↓QL.wp_dStI, ↓QL.wp_dExt, QL.lstO_lst, ↓QL.wp_dFrz, QL.frzS_own, QL.frzS_val, QL.frzS_non, QL.frz_zero, QL.frz_succ, ↓QL.wp_dNEN, ↓QL.wp_dEEN, ↓QL.wp_dENE, ↓QL.wp_dCat, QL.catO_ll, QL.catO_bl, QL.catO_lb, QL.catO_bb, ↓QL.wp_dFor, ↓QL.wp_lcl_nil, ↓QL.wp_lcl_cons, QL.rngL_length, QL.rE_zero, ↓QL.wp_dLc, QL.notOwn_val, QL.notOwn_non, QL.notOwn_own, QL.notOwn_deep, QL.notOwn_jk, ↓QL.wp_lc1, ↓QL.wp_dYes, QL.fit_int, QL.fit_bl, QL.fit_non, QL.fit_lst, QL.fit_tup, QL.ex_and_eq, ↓QL.wp_dIdx, ↓QL.wp_dRev, QL.revO_lst, QL.revO_brw, QL.tupleD_lst, QL.tupleD_brw, QL.tupleD_tup, QL.sortSetD_lst, QL.sortG_brw, QL.maxG_brw, QL.minG_brw, QL.ltV_int, QL.leV_int, QL.gtV_int, QL.geV_int, QL.okE_int, QL.okE_non, QL.okE_lst, QL.okE_tup, QL.eqO_brwR, QL.eqO_brwL, ↓QL.wp_forl_nil, ↓QL.wp_forl_cons, QL.forP_nx, QL.forP_ct, QL.forP_bk, QL.forP_rt, QL.eqO_non_int, QL.eqO_int_non, QL.eqO_non_non, QL.eqO_non_tup, QL.eqO_tup_non, QL.startE, List.map_cons, List.map_nil, List.isEmpty_cons, List.isEmpty_nil, List.append_nil, List.nil_append, List.cons_append, List.length_cons, List.length_nil, Nat.reduceAdd, Nat.reduceSub, Nat.reduceLeDiff, Nat.reduceLT, Nat.reduceMul, Nat.reduceEqDiff, List.replicate_succ, List.replicate_zero, List.getElem?_cons_zero, List.getElem?_cons_succ, List.set_cons_zero, List.set_cons_succ, Option.bind_some, Option.bind_none, Option.some.injEq, QL.D.bl.injEq, QL.D.int.injEq, QL.D.str.injEq, QL.D.lst.injEq, QL.D.tup.injEq, QL.Out.nx.injEq, QL.Out.rt.injEq, QL.Slot.val.injEq, QL.Slot.own.injEq, List.cons.injEq, exists_eq_left, exists_eq_left', exists_eq_right, exists_eq_right', exists_eq, exists_eq', exists_and_left, exists_and_right, decide_eq_true_eq, decide_eq_false_iff_not, Bool.not_true, Bool.not_false, Bool.false_xor, Bool.true_xor, Bool.xor_true, Bool.xor_false, Bool.and_true, Bool.true_and, Bool.and_self, Bool.or_true, Bool.true_or, Bool.or_self, Bool.or_false, Bool.false_or, List.all_cons, List.all_nil, true_and, and_true, and_self, true_or, or_true, if_true, if_false, Bool.not_eq_true', not_false_eq_true, not_true_eq_false, Bool.false_eq_true, Bool.true_eq_false, reduceCtorEq, and_false, false_and, QL.ex_ite, QL.wipeE, QL.noOwn_eq, Option.toList, Int.reduceNeg, Int.reduceToNat, Int.reduceLT, Int.reduceLE, Int.reduceSub, Int.reduceAdd, Int.reduceMul, Int.toNat_zero, Int.cast_ofNat_Int, Int.reduceEq, ite_self, Option.ite_none_right_eq_some])
local macro_rules | `(tactic| walk_at "e") => `(tactic| try simp only [QL.optP_some, QL.optP_none, QL.optP_ite, ↓QL.wp_some, ↓QL.wp_none, ↓QL.wp_mr, ↓QL.wp_ml, ↓QL.wp_mb, QL.LIM_eq, QL.strip_int', QL.strip_bl, QL.strip_str', QL.strip_non, QL.strip_hd, QL.strip_lst, QL.strip_tup, QL.strip_brw, QL.plain_int, QL.plain_bl, QL.plain_str, QL.plain_non, QL.plain_hd, QL.plain_lst, QL.plain_tup, QL.plain_brw, QL.plO_eq, QL.scal0_int, QL.scal0_bl, QL.scal0_non, QL.addD_int, QL.subD_int, QL.mulD_int, QL.small64_eq, QL.fdivD_int, QL.modD_int, QL.negD_int, QL.ltD_int, QL.leD_int, QL.gtD_int, QL.geD_int, QL.isND_non, QL.isND_int, QL.isND_bl, QL.isND_str, QL.isND_tup, QL.isND_lst, QL.str2_str, QL.eqO_str, QL.eqO_int, QL.eqO_bl, QL.idxD_lst, QL.idxD_tup, QL.idxD_brw, QL.atI_zero, QL.atI_one, QL.atI_two, QL.atI_three, QL.atI_four, QL.atI_five, QL.addD_tup, QL.truD_bl, QL.truD_int, QL.truD_non, QL.truD_lst, QL.truD_tup, QL.rds_val, QL.rds_own, QL.rds_non, QL.rds_deep, ↓QL.wp_dVar, ↓QL.wp_dC, ↓QL.wp_dOp, ↓QL.wp_dU, ↓QL.wp_dNil, ↓QL.wp_dCons, ↓QL.wp_dTup, ↓QL.wp_dPl, ↓QL.wp_dFz, QL.blO_bl, ↓QL.wp_dTst, ↓QL.wp_dTru, ↓QL.wp_dAnd, ↓QL.wp_dOr, ↓QL.wp_dNot, ↓QL.wp_dAndV, ↓QL.wp_dOrV, ↓QL.wp_dNotV, ↓QL.wp_dIf, ↓QL.wp_dChn, ↓QL.wp_dCall, ↓QL.wp_dCallR, ↓QL.wp_dB, ↓QL.wp_dBN, QL.lenD_lst, QL.lenD_tup, QL.lenD_brw, QL.absD_int, QL.intD_int, QL.intD_bl, QL.max2D_int, QL.min2D_int, QL.lst1_lst, QL.lst1_brw, QL.listD_lst, QL.listD_tup, QL.listD_brw, ↓QL.wp_dIS, QL.seqO_lst, QL.seqO_tup, ↓QL.wp_dIR, QL.optP_rng1, QL.optP_rng2, QL.enuD_lst, QL.zipD_lst, ↓QL.wp_dNoP, QL.intO_int, ↓QL.wp_dPrt, QL.optP_lrg, ↓QL.wp_dLrg1, QL.sortD_lst, QL.sortD_brw, QL.slA_lst, QL.slA_brw, QL.slA_tup, ↓QL.wp_dSlA, QL.slO_lst, QL.slO_brw, ↓QL.wp_dSl, QL.seqP_nx, QL.seqP_rt, QL.seqP_bk, QL.seqP_ct, ↓QL.wp_dSeq, ↓QL.wp_dNx, ↓QL.wp_dPass, ↓QL.wp_dBrk, ↓QL.wp_dCnt, ↓QL.wp_dRetN, ↓QL.wp_dRet, ↓QL.wp_dExpr, ↓QL.wp_dIfS, ↓QL.wp_dAsg, QL.gN_eq, QL.gNil_nil, QL.gCons_cons, QL.gTp_tup, ↓QL.wp_dSetO, ↓QL.wp_dSetF, ↓QL.wp_dParNN, ↓QL.wp_dParNE, ↓QL.wp_dParEN, QL.parO_two, ↓QL.wp_dPar, QL.ownS_own, ↓QL.wp_dApp, ↓QL.wp_dStI, ↓QL.wp_dExt, QL.lstO_lst, ↓QL.wp_dFrz, QL.frzS_own, QL.frzS_val, QL.frzS_non, QL.frz_zero, QL.frz_succ, ↓QL.wp_dNEN, ↓QL.wp_dEEN, ↓QL.wp_dENE, ↓QL.wp_dCat, QL.catO_ll, QL.catO_bl, QL.catO_lb, QL.catO_bb, ↓QL.wp_dFor, ↓QL.wp_lcl_nil, ↓QL.wp_lcl_cons, QL.rngL_length, QL.rE_zero, ↓QL.wp_dLc, QL.notOwn_val, QL.notOwn_non, QL.notOwn_own, QL.notOwn_deep, QL.notOwn_jk, ↓QL.wp_lc1, ↓QL.wp_dYes, QL.fit_int, QL.fit_bl, QL.fit_non, QL.fit_lst, QL.fit_tup, QL.ex_and_eq, ↓QL.wp_dIdx, ↓QL.wp_dRev, QL.revO_lst, QL.revO_brw, QL.tupleD_lst, QL.tupleD_brw, QL.tupleD_tup, QL.sortSetD_lst, QL.sortG_brw, QL.maxG_brw, QL.minG_brw, QL.ltV_int, QL.leV_int, QL.gtV_int, QL.geV_int, QL.okE_int, QL.okE_non, QL.okE_lst, QL.okE_tup, QL.eqO_brwR, QL.eqO_brwL, ↓QL.wp_forl_nil, ↓QL.wp_forl_cons, QL.forP_nx, QL.forP_ct, QL.forP_bk, QL.forP_rt, QL.eqO_non_int, QL.eqO_int_non, QL.eqO_non_non, QL.eqO_non_tup, QL.eqO_tup_non, QL.startE, List.map_cons, List.map_nil, List.isEmpty_cons, List.isEmpty_nil, List.append_nil, List.nil_append, List.cons_append, List.length_cons, List.length_nil, Nat.reduceAdd, Nat.reduceSub, Nat.reduceLeDiff, Nat.reduceLT, Nat.reduceMul, Nat.reduceEqDiff, List.replicate_succ, List.replicate_zero, List.getElem?_cons_zero, List.getElem?_cons_succ, List.set_cons_zero, List.set_cons_succ, Option.bind_some, Option.bind_none, Option.some.injEq, QL.D.bl.injEq, QL.D.int.injEq, QL.D.str.injEq, QL.D.lst.injEq, QL.D.tup.injEq, QL.Out.nx.injEq, QL.Out.rt.injEq, QL.Slot.val.injEq, QL.Slot.own.injEq, List.cons.injEq, exists_eq_left, exists_eq_left', exists_eq_right, exists_eq_right', exists_eq, exists_eq', exists_and_left, exists_and_right, decide_eq_true_eq, decide_eq_false_iff_not, Bool.not_true, Bool.not_false, Bool.false_xor, Bool.true_xor, Bool.xor_true, Bool.xor_false, Bool.and_true, Bool.true_and, Bool.and_self, Bool.or_true, Bool.true_or, Bool.or_self, Bool.or_false, Bool.false_or, List.all_cons, List.all_nil, true_and, and_true, and_self, true_or, or_true, if_true, if_false, Bool.not_eq_true', not_false_eq_true, not_true_eq_false, Bool.false_eq_true, Bool.true_eq_false, reduceCtorEq, and_false, false_and, QL.ex_ite, QL.wipeE, QL.noOwn_eq, Option.toList, Int.reduceNeg, Int.reduceToNat, Int.reduceLT, Int.reduceLE, Int.reduceSub, Int.reduceAdd, Int.reduceMul, Int.toNat_zero, Int.cast_ofNat_Int, Int.reduceEq, ite_self, Option.ite_none_right_eq_some])
namespace K_k44
local macro_rules | `(tactic| walk_at "ev") => `(tactic| simp only [QL.optP_some, QL.optP_none, QL.optP_ite, ↓QL.wp_some, ↓QL.wp_none, ↓QL.wp_mr, ↓QL.wp_ml, ↓QL.wp_mb, QL.LIM_eq, QL.strip_int', QL.strip_bl, QL.strip_str', QL.strip_non, QL.strip_hd, QL.strip_lst, QL.strip_tup, QL.strip_brw, QL.plain_int, QL.plain_bl, QL.plain_str, QL.plain_non, QL.plain_hd, QL.plain_lst, QL.plain_tup, QL.plain_brw, QL.plO_eq, QL.scal0_int, QL.scal0_bl, QL.scal0_non, QL.addD_int, QL.subD_int, QL.mulD_int, QL.small64_eq, QL.fdivD_int, QL.modD_int, QL.negD_int, QL.ltD_int, QL.leD_int, QL.gtD_int, QL.geD_int, QL.isND_non, QL.isND_int, QL.isND_bl, QL.isND_str, QL.isND_tup, QL.isND_lst, QL.str2_str, QL.eqO_str, QL.eqO_int, QL.eqO_bl, QL.idxD_lst, QL.idxD_tup, QL.idxD_brw, QL.atI_zero, QL.atI_one, QL.atI_two, QL.atI_three, QL.atI_four, QL.atI_five, QL.addD_tup, QL.truD_bl, QL.truD_int, QL.truD_non, QL.truD_lst, QL.truD_tup, QL.rds_val, QL.rds_own, QL.rds_non, QL.rds_deep, ↓QL.wp_dVar, ↓QL.wp_dC, ↓QL.wp_dOp, ↓QL.wp_dU, ↓QL.wp_dNil, ↓QL.wp_dCons, ↓QL.wp_dTup, ↓QL.wp_dPl, ↓QL.wp_dFz, QL.blO_bl, ↓QL.wp_dTst, ↓QL.wp_dTru, ↓QL.wp_dAnd, ↓QL.wp_dOr, ↓QL.wp_dNot, ↓QL.wp_dAndV, ↓QL.wp_dOrV, ↓QL.wp_dNotV, ↓QL.wp_dIf, ↓QL.wp_dChn, ↓QL.wp_dCall, ↓QL.wp_dCallR, ↓QL.wp_dB, ↓QL.wp_dBN, QL.lenD_lst, QL.lenD_tup, QL.lenD_brw, QL.absD_int, QL.intD_int, QL.intD_bl, QL.max2D_int, QL.min2D_int, QL.lst1_lst, QL.lst1_brw, QL.listD_lst, QL.listD_tup, QL.listD_brw, ↓QL.wp_dIS, QL.seqO_lst, QL.seqO_tup, ↓QL.wp_dIR, QL.optP_rng1, QL.optP_rng2, QL.enuD_lst, QL.zipD_lst, ↓QL.wp_dNoP, QL.intO_int, ↓QL.wp_dPrt, QL.optP_lrg, ↓QL.wp_dLrg1, QL.sortD_lst, QL.sortD_brw, QL.slA_lst, QL.slA_brw, QL.slA_tup, ↓QL.wp_dSlA, QL.slO_lst, QL.slO_brw, ↓QL.wp_dSl, QL.seqP_nx, QL.seqP_rt, QL.seqP_bk, QL.seqP_ct, ↓QL.wp_dSeq, ↓QL.wp_dNx, ↓QL.wp_dPass, ↓QL.wp_dBrk, ↓QL.wp_dCnt, ↓QL.wp_dRetN, ↓QL.wp_dRet, ↓QL.wp_dExpr, ↓QL.wp_dIfS, ↓QL.wp_dAsg, QL.gN_eq, QL.gNil_nil, QL.gCons_cons, QL.gTp_tup, ↓QL.wp_dSetO, ↓QL.wp_dSetF, ↓QL.wp_dParNN, ↓QL.wp_dParNE, ↓QL.wp_dParEN, QL.parO_two, ↓QL.wp_dPar, QL.ownS_own, ↓QL.wp_dApp, ↓QL.wp_dStI, ↓QL.wp_dExt, QL.lstO_lst, ↓QL.wp_dFrz, QL.frzS_own, QL.frzS_val, QL.frzS_non, QL.frz_zero, QL.frz_succ, ↓QL.wp_dNEN, ↓QL.wp_dEEN, ↓QL.wp_dENE, ↓QL.wp_dCat, QL.catO_ll, QL.catO_bl, QL.catO_lb, QL.catO_bb, ↓QL.wp_dFor, ↓QL.wp_lcl_nil, ↓QL.wp_lcl_cons, QL.rngL_length, QL.rE_zero, ↓QL.wp_dLc, QL.notOwn_val, QL.notOwn_non, QL.notOwn_own, QL.notOwn_deep, QL.notOwn_jk, ↓QL.wp_lc1, ↓QL.wp_dYes, QL.fit_int, QL.fit_bl, QL.fit_non, QL.fit_lst, QL.fit_tup, QL.ex_and_eq, ↓QL.wp_dIdx, ↓QL.wp_dRev, QL.revO_lst, QL.revO_brw, QL.tupleD_lst, QL.tupleD_brw, QL.tupleD_tup, QL.sortSetD_lst, QL.sortG_brw, QL.maxG_brw, QL.minG_brw, QL.ltV_int, QL.leV_int, QL.gtV_int, QL.geV_int, QL.okE_int, QL.okE_non, QL.okE_lst, QL.okE_tup, QL.eqO_brwR, QL.eqO_brwL, ↓QL.wp_forl_nil, ↓QL.wp_forl_cons, QL.forP_nx, QL.forP_ct, QL.forP_bk, QL.forP_rt, QL.eqO_non_int, QL.eqO_int_non, QL.eqO_non_non, QL.eqO_non_tup, QL.eqO_tup_non, sumD_eq, encN_eq, QL.startE, List.map_cons, List.map_nil, List.isEmpty_cons, List.isEmpty_nil, List.append_nil, List.nil_append, List.cons_append, List.length_cons, List.length_nil, Nat.reduceAdd, Nat.reduceSub, Nat.reduceLeDiff, Nat.reduceLT, Nat.reduceMul, Nat.reduceEqDiff, List.replicate_succ, List.replicate_zero, List.getElem?_cons_zero, List.getElem?_cons_succ, List.set_cons_zero, List.set_cons_succ, Option.bind_some, Option.bind_none, Option.some.injEq, QL.D.bl.injEq, QL.D.int.injEq, QL.D.str.injEq, QL.D.lst.injEq, QL.D.tup.injEq, QL.Out.nx.injEq, QL.Out.rt.injEq, QL.Slot.val.injEq, QL.Slot.own.injEq, List.cons.injEq, exists_eq_left, exists_eq_left', exists_eq_right, exists_eq_right', exists_eq, exists_eq', exists_and_left, exists_and_right, decide_eq_true_eq, decide_eq_false_iff_not, Bool.not_true, Bool.not_false, Bool.false_xor, Bool.true_xor, Bool.xor_true, Bool.xor_false, Bool.and_true, Bool.true_and, Bool.and_self, Bool.or_true, Bool.true_or, Bool.or_self, Bool.or_false, Bool.false_or, List.all_cons, List.all_nil, true_and, and_true, and_self, true_or, or_true, if_true, if_false, Bool.not_eq_true', not_false_eq_true, not_true_eq_false, Bool.false_eq_true, Bool.true_eq_false, reduceCtorEq, and_false, false_and, QL.ex_ite, QL.wipeE, QL.noOwn_eq, Option.toList, Int.reduceNeg, Int.reduceToNat, Int.reduceLT, Int.reduceLE, Int.reduceSub, Int.reduceAdd, Int.reduceMul, Int.toNat_zero, Int.cast_ofNat_Int, Int.reduceEq, ite_self, Option.ite_none_right_eq_some])
local macro_rules | `(tactic| walk_at "e") => `(tactic| try simp only [QL.optP_some, QL.optP_none, QL.optP_ite, ↓QL.wp_some, ↓QL.wp_none, ↓QL.wp_mr, ↓QL.wp_ml, ↓QL.wp_mb, QL.LIM_eq, QL.strip_int', QL.strip_bl, QL.strip_str', QL.strip_non, QL.strip_hd, QL.strip_lst, QL.strip_tup, QL.strip_brw, QL.plain_int, QL.plain_bl, QL.plain_str, QL.plain_non, QL.plain_hd, QL.plain_lst, QL.plain_tup, QL.plain_brw, QL.plO_eq, QL.scal0_int, QL.scal0_bl, QL.scal0_non, QL.addD_int, QL.subD_int, QL.mulD_int, QL.small64_eq, QL.fdivD_int, QL.modD_int, QL.negD_int, QL.ltD_int, QL.leD_int, QL.gtD_int, QL.geD_int, QL.isND_non, QL.isND_int, QL.isND_bl, QL.isND_str, QL.isND_tup, QL.isND_lst, QL.str2_str, QL.eqO_str, QL.eqO_int, QL.eqO_bl, QL.idxD_lst, QL.idxD_tup, QL.idxD_brw, QL.atI_zero, QL.atI_one, QL.atI_two, QL.atI_three, QL.atI_four, QL.atI_five, QL.addD_tup, QL.truD_bl, QL.truD_int, QL.truD_non, QL.truD_lst, QL.truD_tup, QL.rds_val, QL.rds_own, QL.rds_non, QL.rds_deep, ↓QL.wp_dVar, ↓QL.wp_dC, ↓QL.wp_dOp, ↓QL.wp_dU, ↓QL.wp_dNil, ↓QL.wp_dCons, ↓QL.wp_dTup, ↓QL.wp_dPl, ↓QL.wp_dFz, QL.blO_bl, ↓QL.wp_dTst, ↓QL.wp_dTru, ↓QL.wp_dAnd, ↓QL.wp_dOr, ↓QL.wp_dNot, ↓QL.wp_dAndV, ↓QL.wp_dOrV, ↓QL.wp_dNotV, ↓QL.wp_dIf, ↓QL.wp_dChn, ↓QL.wp_dCall, ↓QL.wp_dCallR, ↓QL.wp_dB, ↓QL.wp_dBN, QL.lenD_lst, QL.lenD_tup, QL.lenD_brw, QL.absD_int, QL.intD_int, QL.intD_bl, QL.max2D_int, QL.min2D_int, QL.lst1_lst, QL.lst1_brw, QL.listD_lst, QL.listD_tup, QL.listD_brw, ↓QL.wp_dIS, QL.seqO_lst, QL.seqO_tup, ↓QL.wp_dIR, QL.optP_rng1, QL.optP_rng2, QL.enuD_lst, QL.zipD_lst, ↓QL.wp_dNoP, QL.intO_int, ↓QL.wp_dPrt, QL.optP_lrg, ↓QL.wp_dLrg1, QL.sortD_lst, QL.sortD_brw, QL.slA_lst, QL.slA_brw, QL.slA_tup, ↓QL.wp_dSlA, QL.slO_lst, QL.slO_brw, ↓QL.wp_dSl, QL.seqP_nx, QL.seqP_rt, QL.seqP_bk, QL.seqP_ct, ↓QL.wp_dSeq, ↓QL.wp_dNx, ↓QL.wp_dPass, ↓QL.wp_dBrk, ↓QL.wp_dCnt, ↓QL.wp_dRetN, ↓QL.wp_dRet, ↓QL.wp_dExpr, ↓QL.wp_dIfS, ↓QL.wp_dAsg, QL.gN_eq, QL.gNil_nil, QL.gCons_cons, QL.gTp_tup, ↓QL.wp_dSetO, ↓QL.wp_dSetF, ↓QL.wp_dParNN, ↓QL.wp_dParNE, ↓QL.wp_dParEN, QL.parO_two, ↓QL.wp_dPar, QL.ownS_own, ↓QL.wp_dApp, ↓QL.wp_dStI, ↓QL.wp_dExt, QL.lstO_lst, ↓QL.wp_dFrz, QL.frzS_own, QL.frzS_val, QL.frzS_non, QL.frz_zero, QL.frz_succ, ↓QL.wp_dNEN, ↓QL.wp_dEEN, ↓QL.wp_dENE, ↓QL.wp_dCat, QL.catO_ll, QL.catO_bl, QL.catO_lb, QL.catO_bb, ↓QL.wp_dFor, ↓QL.wp_lcl_nil, ↓QL.wp_lcl_cons, QL.rngL_length, QL.rE_zero, ↓QL.wp_dLc, QL.notOwn_val, QL.notOwn_non, QL.notOwn_own, QL.notOwn_deep, QL.notOwn_jk, ↓QL.wp_lc1, ↓QL.wp_dYes, QL.fit_int, QL.fit_bl, QL.fit_non, QL.fit_lst, QL.fit_tup, QL.ex_and_eq, ↓QL.wp_dIdx, ↓QL.wp_dRev, QL.revO_lst, QL.revO_brw, QL.tupleD_lst, QL.tupleD_brw, QL.tupleD_tup, QL.sortSetD_lst, QL.sortG_brw, QL.maxG_brw, QL.minG_brw, QL.ltV_int, QL.leV_int, QL.gtV_int, QL.geV_int, QL.okE_int, QL.okE_non, QL.okE_lst, QL.okE_tup, QL.eqO_brwR, QL.eqO_brwL, ↓QL.wp_forl_nil, ↓QL.wp_forl_cons, QL.forP_nx, QL.forP_ct, QL.forP_bk, QL.forP_rt, QL.eqO_non_int, QL.eqO_int_non, QL.eqO_non_non, QL.eqO_non_tup, QL.eqO_tup_non, sumD_eq, encN_eq, QL.startE, List.map_cons, List.map_nil, List.isEmpty_cons, List.isEmpty_nil, List.append_nil, List.nil_append, List.cons_append, List.length_cons, List.length_nil, Nat.reduceAdd, Nat.reduceSub, Nat.reduceLeDiff, Nat.reduceLT, Nat.reduceMul, Nat.reduceEqDiff, List.replicate_succ, List.replicate_zero, List.getElem?_cons_zero, List.getElem?_cons_succ, List.set_cons_zero, List.set_cons_succ, Option.bind_some, Option.bind_none, Option.some.injEq, QL.D.bl.injEq, QL.D.int.injEq, QL.D.str.injEq, QL.D.lst.injEq, QL.D.tup.injEq, QL.Out.nx.injEq, QL.Out.rt.injEq, QL.Slot.val.injEq, QL.Slot.own.injEq, List.cons.injEq, exists_eq_left, exists_eq_left', exists_eq_right, exists_eq_right', exists_eq, exists_eq', exists_and_left, exists_and_right, decide_eq_true_eq, decide_eq_false_iff_not, Bool.not_true, Bool.not_false, Bool.false_xor, Bool.true_xor, Bool.xor_true, Bool.xor_false, Bool.and_true, Bool.true_and, Bool.and_self, Bool.or_true, Bool.true_or, Bool.or_self, Bool.or_false, Bool.false_or, List.all_cons, List.all_nil, true_and, and_true, and_self, true_or, or_true, if_true, if_false, Bool.not_eq_true', not_false_eq_true, not_true_eq_false, Bool.false_eq_true, Bool.true_eq_false, reduceCtorEq, and_false, false_and, QL.ex_ite, QL.wipeE, QL.noOwn_eq, Option.toList, Int.reduceNeg, Int.reduceToNat, Int.reduceLT, Int.reduceLE, Int.reduceSub, Int.reduceAdd, Int.reduceMul, Int.toNat_zero, Int.cast_ofNat_Int, Int.reduceEq, ite_self, Option.ite_none_right_eq_some])
/-! what trips tells has no fault -/
theorem gl_mem {e : Int} {ds : List Int} (x : Int) : (stepD e ds x).getLastD 0 ∈ stepD e ds x := by
  have h := stepD_ne e ds x
  rw [List.getLastD_eq_getLast?, List.getLast?_eq_some_getLast h]
  exact List.getLast_mem h
theorem stepD_sub (e : Int) (ds : List Int) (x : Int) : ∀ d ∈ ds, d ∈ stepD e ds x := by
  intro d h
  unfold stepD
  split
  · exact List.mem_append_left _ h
  · split
    · exact List.mem_append_left _ h
    · exact h
theorem fold_sub (e : Int) : ∀ (xs ds : List Int), ∀ d ∈ ds, d ∈ xs.foldl (stepD e) ds
  | [], _, _, h => h
  | x :: xs, ds, d, h => fold_sub e xs _ d (stepD_sub e ds x d h)
theorem rowsG_good {e : Int} (he : 0 ≤ e) : ∀ (xs ds : List Int), xs.Pairwise (· ≤ ·) → (∀ d, ds.getLast? = some d → ∀ x ∈ xs, d ≤ x) → ∀ k, k < xs.length → (rowsG e ds xs).getD k 0 ∈ xs.foldl (stepD e) ds ∧ xs.getD k 0 - e ≤ (rowsG e ds xs).getD k 0 ∧ (rowsG e ds xs).getD k 0 ≤ xs.getD k 0
  | [], _, _, _, k, h => by simp at h
  | x :: xs, ds, hs, hd, k, h => by
    have h1 := List.pairwise_cons.mp hs
    have hl : x - e ≤ (stepD e ds x).getLastD 0 ∧ (stepD e ds x).getLastD 0 ≤ x := by
      by_cases c : ds = []
      · rw [step_none c]; simp; omega
      · rw [step_some c]
        by_cases c2 : ds.getLastD 0 < x - e
        · rw [if_pos c2, List.getLastD_eq_getLast?, List.getLast?_append]; simp; omega
        · rw [if_neg c2]
          refine ⟨by omega, ?_⟩
          rw [List.getLastD_eq_getLast?, List.getLast?_eq_some_getLast c]
          exact hd _ (List.getLast?_eq_some_getLast c) x List.mem_cons_self
    rw [rowsG, List.foldl_cons]
    cases k with
    | zero => exact ⟨fold_sub e xs _ _ (gl_mem x), hl⟩
    | succ k =>
      rw [List.getD_cons_succ, List.getD_cons_succ]
      refine rowsG_good he xs _ h1.2 (fun d hd y hy => ?_) k (by simpa using h)
      have : (stepD e ds x).getLastD 0 = d := by rw [List.getLastD_eq_getLast?, hd]; rfl
      have := h1.1 y hy
      omega
theorem days_uniq {e : Int} (he : 0 ≤ e) (L : List Int) : days e L = uniqI (days e L) := uniq_eq (days_lt he L) (pw_uniqI _) fun a => by rw [mem_uniqI]
theorem told_ok {e : Int} (he : 0 ≤ e) (L : List Int) : faultD L e (days e L) (rowsF e L) = .non := by
  have hs : (sortI L).length = L.length := (sortI_perm L).length_eq
  rw [fD_few (days_uniq he L) (rowsF_len e L), if_pos rfl]
  refine List.find?_eq_none.mpr fun k hk => ?_
  have hk := List.mem_range.mp hk
  unfold badK
  rw [decide_eq_true_iff]
  obtain ⟨h1, h2, h3⟩ := rowsG_good he (sortI L) [] (sortI_sorted L) (fun d z => by cases z) k (by omega)
  rw [days_fold] at h1
  exact fun z => z.elim (fun z => z h1) (fun z => z ⟨h2, h3⟩)
/-! what is left -/
theorem wear_ev {r : Hr} (o : okR r) {last day : Nat} (h1 : last ≤ 40) (h2 : day ≤ 40) : pureF v_wear_left [eR r, .int (r.h.l : Nat), .int (last : Nat), .int (day : Nat)] = some (.tup [.int (max 0 ((r.y : Int) - ((B r.h day : Int) - (B r.h last : Int)))), .int (max 0 ((last : Int) + r.z - day))]) := by
  refine pureF_eq rfl ?_
  unfold d_wear_left
  walk_at "e"
  refine opt_at (blasts_ev o.h day (by omega)) ?_
  refine opt_at (blasts_ev o.h last (by omega)) ?_
  walk_at "e"
  have key : ∀ a : Int, (if a > 0 then a else 0) = max 0 a := fun a => by split <;> omega
  exact ⟨key _, key _⟩
theorem days_eq_of {e : Int} : ∀ (xs : List Int) (l : Option Int), (∀ y ∈ l.toList ++ xs, ∀ x ∈ xs, x - y ≠ e) → gd e l xs = gd (e - 1) l xs
  | [], _, _ => by simp [gd]
  | x :: xs, none, h => by
    unfold gd
    rw [days_eq_of xs (some x) fun y hy z hz => h y (by simpa using hy) z (List.mem_cons_of_mem _ hz)]
  | x :: xs, some l, h => by
    unfold gd
    have h1 := h l (by simp) x List.mem_cons_self
    by_cases c : l < x - e
    · rw [if_pos c, if_pos (by omega), days_eq_of xs (some x) fun y hy z hz => h y (by simp at hy ⊢; exact .inr hy) z (List.mem_cons_of_mem _ hz)]
    · rw [if_neg c, if_neg (by omega), days_eq_of xs (some l) fun y hy z hz => h y (by simp at hy ⊢; rcases hy with hy | hy; exact .inl hy; exact .inr (.inr hy)) z (List.mem_cons_of_mem _ hz)]
end K_k44
end
section
set_option Elab.async false
set_option linter.all false
set_option maxRecDepth 100000
set_option maxHeartbeats 4000000
open QL
local macro_rules | `(tactic| walk_at "ev") => `(tactic| simp only [QL.optP_some, QL.optP_none, QL.optP_ite, ↓QL.wp_some, ↓QL.wp_none, ↓QL.wp_mr, ↓QL.wp_ml, ↓QL.wp_mb, QL.LIM_eq, QL.strip_int', QL.strip_bl, QL.strip_str', QL.strip_non, QL.strip_hd, QL.strip_lst, QL.strip_tup, QL.strip_brw, QL.plain_int, QL.plain_bl, QL.plain_str, QL.plain_non, QL.plain_hd, QL.plain_lst, QL.plain_tup, QL.plain_brw, QL.plO_eq, QL.scal0_int, QL.scal0_bl, QL.scal0_non, QL.addD_int, QL.subD_int, QL.mulD_int, QL.small64_eq, QL.fdivD_int, QL.modD_int, QL.negD_int, QL.ltD_int, QL.leD_int, QL.gtD_int, QL.geD_int, QL.isND_non, QL.isND_int, QL.isND_bl, QL.isND_str, QL.isND_tup, QL.isND_lst, QL.str2_str, QL.eqO_str, QL.eqO_int, QL.eqO_bl, QL.idxD_lst, QL.idxD_tup, QL.idxD_brw, QL.atI_zero, QL.atI_one, QL.atI_two, QL.atI_three, QL.atI_four, QL.atI_five, QL.addD_tup, QL.truD_bl, QL.truD_int, QL.truD_non, QL.truD_lst, QL.truD_tup, QL.rds_val, QL.rds_own, QL.rds_non, QL.rds_deep, ↓QL.wp_dVar, ↓QL.wp_dC, ↓QL.wp_dOp, ↓QL.wp_dU, ↓QL.wp_dNil, ↓QL.wp_dCons, ↓QL.wp_dTup, ↓QL.wp_dPl, ↓QL.wp_dFz, QL.blO_bl, ↓QL.wp_dTst, ↓QL.wp_dTru, ↓QL.wp_dAnd, ↓QL.wp_dOr, ↓QL.wp_dNot, ↓QL.wp_dAndV, ↓QL.wp_dOrV, ↓QL.wp_dNotV, ↓QL.wp_dIf, ↓QL.wp_dChn, ↓QL.wp_dCall, ↓QL.wp_dCallR, ↓QL.wp_dB, ↓QL.wp_dBN, QL.lenD_lst, QL.lenD_tup, QL.lenD_brw, QL.absD_int, QL.intD_int, QL.intD_bl, QL.max2D_int, QL.min2D_int, QL.lst1_lst, QL.lst1_brw, QL.listD_lst, QL.listD_tup, QL.listD_brw, ↓QL.wp_dIS, QL.seqO_lst, QL.seqO_tup, ↓QL.wp_dIR, QL.optP_rng1, QL.optP_rng2, QL.enuD_lst, QL.zipD_lst, ↓QL.wp_dNoP, QL.intO_int, ↓QL.wp_dPrt, QL.optP_lrg, ↓QL.wp_dLrg1, QL.sortD_lst, QL.sortD_brw, QL.slA_lst, QL.slA_brw, QL.slA_tup, ↓QL.wp_dSlA, QL.slO_lst, QL.slO_brw, ↓QL.wp_dSl, QL.seqP_nx, QL.seqP_rt, QL.seqP_bk, QL.seqP_ct, ↓QL.wp_dSeq, ↓QL.wp_dNx, ↓QL.wp_dPass, ↓QL.wp_dBrk, ↓QL.wp_dCnt, ↓QL.wp_dRetN, ↓QL.wp_dRet, ↓QL.wp_dExpr, ↓QL.wp_dIfS, ↓QL.wp_dAsg, QL.gN_eq, QL.gNil_nil, QL.gCons_cons, QL.gTp_tup, ↓QL.wp_dSetO, ↓QL.wp_dSetF, ↓QL.wp_dParNN, ↓QL.wp_dParNE, ↓QL.wp_dParEN, QL.parO_two, ↓QL.wp_dPar, QL.ownS_own, ↓QL.wp_dApp, ↓QL.wp_dStI, ↓QL.wp_dExt, QL.lstO_lst, ↓QL.wp_dFrz, QL.frzS_own, QL.frzS_val, QL.frzS_non, QL.frz_zero, QL.frz_succ, ↓QL.wp_dNEN, ↓QL.wp_dEEN, ↓QL.wp_dENE, ↓QL.wp_dCat, QL.catO_ll, QL.catO_bl, QL.catO_lb, QL.catO_bb, ↓QL.wp_dFor, ↓QL.wp_lcl_nil, ↓QL.wp_lcl_cons, QL.rngL_length, QL.rE_zero, ↓QL.wp_dLc, QL.notOwn_val, QL.notOwn_non, QL.notOwn_own, QL.notOwn_deep, QL.notOwn_jk, ↓QL.wp_lc1, ↓QL.wp_dYes, QL.fit_int, QL.fit_bl, QL.fit_non, QL.fit_lst, QL.fit_tup, QL.ex_and_eq, ↓QL.wp_dIdx, ↓QL.wp_dRev, QL.revO_lst, QL.revO_brw, QL.tupleD_lst, QL.tupleD_brw, QL.tupleD_tup, QL.sortSetD_lst, QL.sortG_brw, QL.maxG_brw, QL.minG_brw, QL.ltV_int, QL.leV_int, QL.gtV_int, QL.geV_int, QL.okE_int, QL.okE_non, QL.okE_lst, QL.okE_tup, QL.eqO_brwR, QL.eqO_brwL, ↓QL.wp_forl_nil, ↓QL.wp_forl_cons, QL.forP_nx, QL.forP_ct, QL.forP_bk, QL.forP_rt, QL.eqO_non_int, QL.eqO_int_non, QL.eqO_non_non, QL.eqO_non_tup, QL.eqO_tup_non, QL.startE, List.map_cons, List.map_nil, List.isEmpty_cons, List.isEmpty_nil, List.append_nil, List.nil_append, List.cons_append, List.length_cons, List.length_nil, Nat.reduceAdd, Nat.reduceSub, Nat.reduceLeDiff, Nat.reduceLT, Nat.reduceMul, Nat.reduceEqDiff, List.replicate_succ, List.replicate_zero, List.getElem?_cons_zero, List.getElem?_cons_succ, List.set_cons_zero, List.set_cons_succ, Option.bind_some, Option.bind_none, Option.some.injEq, QL.D.bl.injEq, QL.D.int.injEq, QL.D.str.injEq, QL.D.lst.injEq, QL.D.tup.injEq, QL.Out.nx.injEq, QL.Out.rt.injEq, QL.Slot.val.injEq, QL.Slot.own.injEq, List.cons.injEq, exists_eq_left, exists_eq_left', exists_eq_right, exists_eq_right', exists_eq, exists_eq', exists_and_left, exists_and_right, decide_eq_true_eq, decide_eq_false_iff_not, Bool.not_true, Bool.not_false, Bool.false_xor, Bool.true_xor, Bool.xor_true, Bool.xor_false, Bool.and_true, Bool.true_and, Bool.and_self, Bool.or_true, Bool.true_or, Bool.or_self, Bool.or_false, Bool.false_or, List.all_cons, List.all_nil, true_and, and_true, and_self, true_or, or_true, if_true, if_false, Bool.not_eq_true', not_false_eq_true, not_true_eq_false, Bool.false_eq_true, Bool.true_eq_false, reduceCtorEq, and_false, false_and, QL.ex_ite, QL.wipeE, QL.noOwn_eq, Option.toList, Int.reduceNeg, Int.reduceToNat, Int.reduceLT, Int.reduceLE, Int.reduceSub, Int.reduceAdd, Int.reduceMul, Int.toNat_zero, Int.cast_ofNat_Int, Int.reduceEq, ite_self, Option.ite_none_right_eq_some])
local macro_rules | `(tactic| walk_at "e") => `(tactic| try simp only [QL.optP_some, QL.optP_none, QL.optP_ite, ↓QL.wp_some, ↓QL.wp_none, ↓QL.wp_mr, ↓QL.wp_ml, ↓QL.wp_mb, QL.LIM_eq, QL.strip_int', QL.strip_bl, QL.strip_str', QL.strip_non, QL.strip_hd, QL.strip_lst, QL.strip_tup, QL.strip_brw, QL.plain_int, QL.plain_bl, QL.plain_str, QL.plain_non, QL.plain_hd, QL.plain_lst, QL.plain_tup, QL.plain_brw, QL.plO_eq, QL.scal0_int, QL.scal0_bl, QL.scal0_non, QL.addD_int, QL.subD_int, QL.mulD_int, QL.small64_eq, QL.fdivD_int, QL.modD_int, QL.negD_int, QL.ltD_int, QL.leD_int, QL.gtD_int, QL.geD_int, QL.isND_non, QL.isND_int, QL.isND_bl, QL.isND_str, QL.isND_tup, QL.isND_lst, QL.str2_str, QL.eqO_str, QL.eqO_int, QL.eqO_bl, QL.idxD_lst, QL.idxD_tup, QL.idxD_brw, QL.atI_zero, QL.atI_one, QL.atI_two, QL.atI_three, QL.atI_four, QL.atI_five, QL.addD_tup, QL.truD_bl, QL.truD_int, QL.truD_non, QL.truD_lst, QL.truD_tup, QL.rds_val, QL.rds_own, QL.rds_non, QL.rds_deep, ↓QL.wp_dVar, ↓QL.wp_dC, ↓QL.wp_dOp, ↓QL.wp_dU, ↓QL.wp_dNil, ↓QL.wp_dCons, ↓QL.wp_dTup, ↓QL.wp_dPl, ↓QL.wp_dFz, QL.blO_bl, ↓QL.wp_dTst, ↓QL.wp_dTru, ↓QL.wp_dAnd, ↓QL.wp_dOr, ↓QL.wp_dNot, ↓QL.wp_dAndV, ↓QL.wp_dOrV, ↓QL.wp_dNotV, ↓QL.wp_dIf, ↓QL.wp_dChn, ↓QL.wp_dCall, ↓QL.wp_dCallR, ↓QL.wp_dB, ↓QL.wp_dBN, QL.lenD_lst, QL.lenD_tup, QL.lenD_brw, QL.absD_int, QL.intD_int, QL.intD_bl, QL.max2D_int, QL.min2D_int, QL.lst1_lst, QL.lst1_brw, QL.listD_lst, QL.listD_tup, QL.listD_brw, ↓QL.wp_dIS, QL.seqO_lst, QL.seqO_tup, ↓QL.wp_dIR, QL.optP_rng1, QL.optP_rng2, QL.enuD_lst, QL.zipD_lst, ↓QL.wp_dNoP, QL.intO_int, ↓QL.wp_dPrt, QL.optP_lrg, ↓QL.wp_dLrg1, QL.sortD_lst, QL.sortD_brw, QL.slA_lst, QL.slA_brw, QL.slA_tup, ↓QL.wp_dSlA, QL.slO_lst, QL.slO_brw, ↓QL.wp_dSl, QL.seqP_nx, QL.seqP_rt, QL.seqP_bk, QL.seqP_ct, ↓QL.wp_dSeq, ↓QL.wp_dNx, ↓QL.wp_dPass, ↓QL.wp_dBrk, ↓QL.wp_dCnt, ↓QL.wp_dRetN, ↓QL.wp_dRet, ↓QL.wp_dExpr, ↓QL.wp_dIfS, ↓QL.wp_dAsg, QL.gN_eq, QL.gNil_nil, QL.gCons_cons, QL.gTp_tup, ↓QL.wp_dSetO, ↓QL.wp_dSetF, ↓QL.wp_dParNN, ↓QL.wp_dParNE, ↓QL.wp_dParEN, QL.parO_two, ↓QL.wp_dPar, QL.ownS_own, ↓QL.wp_dApp, ↓QL.wp_dStI, ↓QL.wp_dExt, QL.lstO_lst, ↓QL.wp_dFrz, QL.frzS_own, QL.frzS_val, QL.frzS_non, QL.frz_zero, QL.frz_succ, ↓QL.wp_dNEN, ↓QL.wp_dEEN, ↓QL.wp_dENE, ↓QL.wp_dCat, QL.catO_ll, QL.catO_bl, QL.catO_lb, QL.catO_bb, ↓QL.wp_dFor, ↓QL.wp_lcl_nil, ↓QL.wp_lcl_cons, QL.rngL_length, QL.rE_zero, ↓QL.wp_dLc, QL.notOwn_val, QL.notOwn_non, QL.notOwn_own, QL.notOwn_deep, QL.notOwn_jk, ↓QL.wp_lc1, ↓QL.wp_dYes, QL.fit_int, QL.fit_bl, QL.fit_non, QL.fit_lst, QL.fit_tup, QL.ex_and_eq, ↓QL.wp_dIdx, ↓QL.wp_dRev, QL.revO_lst, QL.revO_brw, QL.tupleD_lst, QL.tupleD_brw, QL.tupleD_tup, QL.sortSetD_lst, QL.sortG_brw, QL.maxG_brw, QL.minG_brw, QL.ltV_int, QL.leV_int, QL.gtV_int, QL.geV_int, QL.okE_int, QL.okE_non, QL.okE_lst, QL.okE_tup, QL.eqO_brwR, QL.eqO_brwL, ↓QL.wp_forl_nil, ↓QL.wp_forl_cons, QL.forP_nx, QL.forP_ct, QL.forP_bk, QL.forP_rt, QL.eqO_non_int, QL.eqO_int_non, QL.eqO_non_non, QL.eqO_non_tup, QL.eqO_tup_non, QL.startE, List.map_cons, List.map_nil, List.isEmpty_cons, List.isEmpty_nil, List.append_nil, List.nil_append, List.cons_append, List.length_cons, List.length_nil, Nat.reduceAdd, Nat.reduceSub, Nat.reduceLeDiff, Nat.reduceLT, Nat.reduceMul, Nat.reduceEqDiff, List.replicate_succ, List.replicate_zero, List.getElem?_cons_zero, List.getElem?_cons_succ, List.set_cons_zero, List.set_cons_succ, Option.bind_some, Option.bind_none, Option.some.injEq, QL.D.bl.injEq, QL.D.int.injEq, QL.D.str.injEq, QL.D.lst.injEq, QL.D.tup.injEq, QL.Out.nx.injEq, QL.Out.rt.injEq, QL.Slot.val.injEq, QL.Slot.own.injEq, List.cons.injEq, exists_eq_left, exists_eq_left', exists_eq_right, exists_eq_right', exists_eq, exists_eq', exists_and_left, exists_and_right, decide_eq_true_eq, decide_eq_false_iff_not, Bool.not_true, Bool.not_false, Bool.false_xor, Bool.true_xor, Bool.xor_true, Bool.xor_false, Bool.and_true, Bool.true_and, Bool.and_self, Bool.or_true, Bool.true_or, Bool.or_self, Bool.or_false, Bool.false_or, List.all_cons, List.all_nil, true_and, and_true, and_self, true_or, or_true, if_true, if_false, Bool.not_eq_true', not_false_eq_true, not_true_eq_false, Bool.false_eq_true, Bool.true_eq_false, reduceCtorEq, and_false, false_and, QL.ex_ite, QL.wipeE, QL.noOwn_eq, Option.toList, Int.reduceNeg, Int.reduceToNat, Int.reduceLT, Int.reduceLE, Int.reduceSub, Int.reduceAdd, Int.reduceMul, Int.toNat_zero, Int.cast_ofNat_Int, Int.reduceEq, ite_self, Option.ite_none_right_eq_some])
namespace K_k44
local macro_rules | `(tactic| walk_at "ev") => `(tactic| simp only [QL.optP_some, QL.optP_none, QL.optP_ite, ↓QL.wp_some, ↓QL.wp_none, ↓QL.wp_mr, ↓QL.wp_ml, ↓QL.wp_mb, QL.LIM_eq, QL.strip_int', QL.strip_bl, QL.strip_str', QL.strip_non, QL.strip_hd, QL.strip_lst, QL.strip_tup, QL.strip_brw, QL.plain_int, QL.plain_bl, QL.plain_str, QL.plain_non, QL.plain_hd, QL.plain_lst, QL.plain_tup, QL.plain_brw, QL.plO_eq, QL.scal0_int, QL.scal0_bl, QL.scal0_non, QL.addD_int, QL.subD_int, QL.mulD_int, QL.small64_eq, QL.fdivD_int, QL.modD_int, QL.negD_int, QL.ltD_int, QL.leD_int, QL.gtD_int, QL.geD_int, QL.isND_non, QL.isND_int, QL.isND_bl, QL.isND_str, QL.isND_tup, QL.isND_lst, QL.str2_str, QL.eqO_str, QL.eqO_int, QL.eqO_bl, QL.idxD_lst, QL.idxD_tup, QL.idxD_brw, QL.atI_zero, QL.atI_one, QL.atI_two, QL.atI_three, QL.atI_four, QL.atI_five, QL.addD_tup, QL.truD_bl, QL.truD_int, QL.truD_non, QL.truD_lst, QL.truD_tup, QL.rds_val, QL.rds_own, QL.rds_non, QL.rds_deep, ↓QL.wp_dVar, ↓QL.wp_dC, ↓QL.wp_dOp, ↓QL.wp_dU, ↓QL.wp_dNil, ↓QL.wp_dCons, ↓QL.wp_dTup, ↓QL.wp_dPl, ↓QL.wp_dFz, QL.blO_bl, ↓QL.wp_dTst, ↓QL.wp_dTru, ↓QL.wp_dAnd, ↓QL.wp_dOr, ↓QL.wp_dNot, ↓QL.wp_dAndV, ↓QL.wp_dOrV, ↓QL.wp_dNotV, ↓QL.wp_dIf, ↓QL.wp_dChn, ↓QL.wp_dCall, ↓QL.wp_dCallR, ↓QL.wp_dB, ↓QL.wp_dBN, QL.lenD_lst, QL.lenD_tup, QL.lenD_brw, QL.absD_int, QL.intD_int, QL.intD_bl, QL.max2D_int, QL.min2D_int, QL.lst1_lst, QL.lst1_brw, QL.listD_lst, QL.listD_tup, QL.listD_brw, ↓QL.wp_dIS, QL.seqO_lst, QL.seqO_tup, ↓QL.wp_dIR, QL.optP_rng1, QL.optP_rng2, QL.enuD_lst, QL.zipD_lst, ↓QL.wp_dNoP, QL.intO_int, ↓QL.wp_dPrt, QL.optP_lrg, ↓QL.wp_dLrg1, QL.sortD_lst, QL.sortD_brw, QL.slA_lst, QL.slA_brw, QL.slA_tup, ↓QL.wp_dSlA, QL.slO_lst, QL.slO_brw, ↓QL.wp_dSl, QL.seqP_nx, QL.seqP_rt, QL.seqP_bk, QL.seqP_ct, ↓QL.wp_dSeq, ↓QL.wp_dNx, ↓QL.wp_dPass, ↓QL.wp_dBrk, ↓QL.wp_dCnt, ↓QL.wp_dRetN, ↓QL.wp_dRet, ↓QL.wp_dExpr, ↓QL.wp_dIfS, ↓QL.wp_dAsg, QL.gN_eq, QL.gNil_nil, QL.gCons_cons, QL.gTp_tup, ↓QL.wp_dSetO, ↓QL.wp_dSetF, ↓QL.wp_dParNN, ↓QL.wp_dParNE, ↓QL.wp_dParEN, QL.parO_two, ↓QL.wp_dPar, QL.ownS_own, ↓QL.wp_dApp, ↓QL.wp_dStI, ↓QL.wp_dExt, QL.lstO_lst, ↓QL.wp_dFrz, QL.frzS_own, QL.frzS_val, QL.frzS_non, QL.frz_zero, QL.frz_succ, ↓QL.wp_dNEN, ↓QL.wp_dEEN, ↓QL.wp_dENE, ↓QL.wp_dCat, QL.catO_ll, QL.catO_bl, QL.catO_lb, QL.catO_bb, ↓QL.wp_dFor, ↓QL.wp_lcl_nil, ↓QL.wp_lcl_cons, QL.rngL_length, QL.rE_zero, ↓QL.wp_dLc, QL.notOwn_val, QL.notOwn_non, QL.notOwn_own, QL.notOwn_deep, QL.notOwn_jk, ↓QL.wp_lc1, ↓QL.wp_dYes, QL.fit_int, QL.fit_bl, QL.fit_non, QL.fit_lst, QL.fit_tup, QL.ex_and_eq, ↓QL.wp_dIdx, ↓QL.wp_dRev, QL.revO_lst, QL.revO_brw, QL.tupleD_lst, QL.tupleD_brw, QL.tupleD_tup, QL.sortSetD_lst, QL.sortG_brw, QL.maxG_brw, QL.minG_brw, QL.ltV_int, QL.leV_int, QL.gtV_int, QL.geV_int, QL.okE_int, QL.okE_non, QL.okE_lst, QL.okE_tup, QL.eqO_brwR, QL.eqO_brwL, ↓QL.wp_forl_nil, ↓QL.wp_forl_cons, QL.forP_nx, QL.forP_ct, QL.forP_bk, QL.forP_rt, QL.eqO_non_int, QL.eqO_int_non, QL.eqO_non_non, QL.eqO_non_tup, QL.eqO_tup_non, sumD_eq, encN_eq, QL.startE, List.map_cons, List.map_nil, List.isEmpty_cons, List.isEmpty_nil, List.append_nil, List.nil_append, List.cons_append, List.length_cons, List.length_nil, Nat.reduceAdd, Nat.reduceSub, Nat.reduceLeDiff, Nat.reduceLT, Nat.reduceMul, Nat.reduceEqDiff, List.replicate_succ, List.replicate_zero, List.getElem?_cons_zero, List.getElem?_cons_succ, List.set_cons_zero, List.set_cons_succ, Option.bind_some, Option.bind_none, Option.some.injEq, QL.D.bl.injEq, QL.D.int.injEq, QL.D.str.injEq, QL.D.lst.injEq, QL.D.tup.injEq, QL.Out.nx.injEq, QL.Out.rt.injEq, QL.Slot.val.injEq, QL.Slot.own.injEq, List.cons.injEq, exists_eq_left, exists_eq_left', exists_eq_right, exists_eq_right', exists_eq, exists_eq', exists_and_left, exists_and_right, decide_eq_true_eq, decide_eq_false_iff_not, Bool.not_true, Bool.not_false, Bool.false_xor, Bool.true_xor, Bool.xor_true, Bool.xor_false, Bool.and_true, Bool.true_and, Bool.and_self, Bool.or_true, Bool.true_or, Bool.or_self, Bool.or_false, Bool.false_or, List.all_cons, List.all_nil, true_and, and_true, and_self, true_or, or_true, if_true, if_false, Bool.not_eq_true', not_false_eq_true, not_true_eq_false, Bool.false_eq_true, Bool.true_eq_false, reduceCtorEq, and_false, false_and, QL.ex_ite, QL.wipeE, QL.noOwn_eq, Option.toList, Int.reduceNeg, Int.reduceToNat, Int.reduceLT, Int.reduceLE, Int.reduceSub, Int.reduceAdd, Int.reduceMul, Int.toNat_zero, Int.cast_ofNat_Int, Int.reduceEq, ite_self, Option.ite_none_right_eq_some])
local macro_rules | `(tactic| walk_at "e") => `(tactic| try simp only [QL.optP_some, QL.optP_none, QL.optP_ite, ↓QL.wp_some, ↓QL.wp_none, ↓QL.wp_mr, ↓QL.wp_ml, ↓QL.wp_mb, QL.LIM_eq, QL.strip_int', QL.strip_bl, QL.strip_str', QL.strip_non, QL.strip_hd, QL.strip_lst, QL.strip_tup, QL.strip_brw, QL.plain_int, QL.plain_bl, QL.plain_str, QL.plain_non, QL.plain_hd, QL.plain_lst, QL.plain_tup, QL.plain_brw, QL.plO_eq, QL.scal0_int, QL.scal0_bl, QL.scal0_non, QL.addD_int, QL.subD_int, QL.mulD_int, QL.small64_eq, QL.fdivD_int, QL.modD_int, QL.negD_int, QL.ltD_int, QL.leD_int, QL.gtD_int, QL.geD_int, QL.isND_non, QL.isND_int, QL.isND_bl, QL.isND_str, QL.isND_tup, QL.isND_lst, QL.str2_str, QL.eqO_str, QL.eqO_int, QL.eqO_bl, QL.idxD_lst, QL.idxD_tup, QL.idxD_brw, QL.atI_zero, QL.atI_one, QL.atI_two, QL.atI_three, QL.atI_four, QL.atI_five, QL.addD_tup, QL.truD_bl, QL.truD_int, QL.truD_non, QL.truD_lst, QL.truD_tup, QL.rds_val, QL.rds_own, QL.rds_non, QL.rds_deep, ↓QL.wp_dVar, ↓QL.wp_dC, ↓QL.wp_dOp, ↓QL.wp_dU, ↓QL.wp_dNil, ↓QL.wp_dCons, ↓QL.wp_dTup, ↓QL.wp_dPl, ↓QL.wp_dFz, QL.blO_bl, ↓QL.wp_dTst, ↓QL.wp_dTru, ↓QL.wp_dAnd, ↓QL.wp_dOr, ↓QL.wp_dNot, ↓QL.wp_dAndV, ↓QL.wp_dOrV, ↓QL.wp_dNotV, ↓QL.wp_dIf, ↓QL.wp_dChn, ↓QL.wp_dCall, ↓QL.wp_dCallR, ↓QL.wp_dB, ↓QL.wp_dBN, QL.lenD_lst, QL.lenD_tup, QL.lenD_brw, QL.absD_int, QL.intD_int, QL.intD_bl, QL.max2D_int, QL.min2D_int, QL.lst1_lst, QL.lst1_brw, QL.listD_lst, QL.listD_tup, QL.listD_brw, ↓QL.wp_dIS, QL.seqO_lst, QL.seqO_tup, ↓QL.wp_dIR, QL.optP_rng1, QL.optP_rng2, QL.enuD_lst, QL.zipD_lst, ↓QL.wp_dNoP, QL.intO_int, ↓QL.wp_dPrt, QL.optP_lrg, ↓QL.wp_dLrg1, QL.sortD_lst, QL.sortD_brw, QL.slA_lst, QL.slA_brw, QL.slA_tup, ↓QL.wp_dSlA, QL.slO_lst, QL.slO_brw, ↓QL.wp_dSl, QL.seqP_nx, QL.seqP_rt, QL.seqP_bk, QL.seqP_ct, ↓QL.wp_dSeq, ↓QL.wp_dNx, ↓QL.wp_dPass, ↓QL.wp_dBrk, ↓QL.wp_dCnt, ↓QL.wp_dRetN, ↓QL.wp_dRet, ↓QL.wp_dExpr, ↓QL.wp_dIfS, ↓QL.wp_dAsg, QL.gN_eq, QL.gNil_nil, QL.gCons_cons, QL.gTp_tup, ↓QL.wp_dSetO, ↓QL.wp_dSetF, ↓QL.wp_dParNN, ↓QL.wp_dParNE, ↓QL.wp_dParEN, QL.parO_two, ↓QL.wp_dPar, QL.ownS_own, ↓QL.wp_dApp, ↓QL.wp_dStI, ↓QL.wp_dExt, QL.lstO_lst, ↓QL.wp_dFrz, QL.frzS_own, QL.frzS_val, QL.frzS_non, QL.frz_zero, QL.frz_succ, ↓QL.wp_dNEN, ↓QL.wp_dEEN, ↓QL.wp_dENE, ↓QL.wp_dCat, QL.catO_ll, QL.catO_bl, QL.catO_lb, QL.catO_bb, ↓QL.wp_dFor, ↓QL.wp_lcl_nil, ↓QL.wp_lcl_cons, QL.rngL_length, QL.rE_zero, ↓QL.wp_dLc, QL.notOwn_val, QL.notOwn_non, QL.notOwn_own, QL.notOwn_deep, QL.notOwn_jk, ↓QL.wp_lc1, ↓QL.wp_dYes, QL.fit_int, QL.fit_bl, QL.fit_non, QL.fit_lst, QL.fit_tup, QL.ex_and_eq, ↓QL.wp_dIdx, ↓QL.wp_dRev, QL.revO_lst, QL.revO_brw, QL.tupleD_lst, QL.tupleD_brw, QL.tupleD_tup, QL.sortSetD_lst, QL.sortG_brw, QL.maxG_brw, QL.minG_brw, QL.ltV_int, QL.leV_int, QL.gtV_int, QL.geV_int, QL.okE_int, QL.okE_non, QL.okE_lst, QL.okE_tup, QL.eqO_brwR, QL.eqO_brwL, ↓QL.wp_forl_nil, ↓QL.wp_forl_cons, QL.forP_nx, QL.forP_ct, QL.forP_bk, QL.forP_rt, QL.eqO_non_int, QL.eqO_int_non, QL.eqO_non_non, QL.eqO_non_tup, QL.eqO_tup_non, sumD_eq, encN_eq, QL.startE, List.map_cons, List.map_nil, List.isEmpty_cons, List.isEmpty_nil, List.append_nil, List.nil_append, List.cons_append, List.length_cons, List.length_nil, Nat.reduceAdd, Nat.reduceSub, Nat.reduceLeDiff, Nat.reduceLT, Nat.reduceMul, Nat.reduceEqDiff, List.replicate_succ, List.replicate_zero, List.getElem?_cons_zero, List.getElem?_cons_succ, List.set_cons_zero, List.set_cons_succ, Option.bind_some, Option.bind_none, Option.some.injEq, QL.D.bl.injEq, QL.D.int.injEq, QL.D.str.injEq, QL.D.lst.injEq, QL.D.tup.injEq, QL.Out.nx.injEq, QL.Out.rt.injEq, QL.Slot.val.injEq, QL.Slot.own.injEq, List.cons.injEq, exists_eq_left, exists_eq_left', exists_eq_right, exists_eq_right', exists_eq, exists_eq', exists_and_left, exists_and_right, decide_eq_true_eq, decide_eq_false_iff_not, Bool.not_true, Bool.not_false, Bool.false_xor, Bool.true_xor, Bool.xor_true, Bool.xor_false, Bool.and_true, Bool.true_and, Bool.and_self, Bool.or_true, Bool.true_or, Bool.or_self, Bool.or_false, Bool.false_or, List.all_cons, List.all_nil, true_and, and_true, and_self, true_or, or_true, if_true, if_false, Bool.not_eq_true', not_false_eq_true, not_true_eq_false, Bool.false_eq_true, Bool.true_eq_false, reduceCtorEq, and_false, false_and, QL.ex_ite, QL.wipeE, QL.noOwn_eq, Option.toList, Int.reduceNeg, Int.reduceToNat, Int.reduceLT, Int.reduceLE, Int.reduceSub, Int.reduceAdd, Int.reduceMul, Int.toNat_zero, Int.cast_ofNat_Int, Int.reduceEq, ite_self, Option.ite_none_right_eq_some])
abbrev gapK (R : List Int) (k : Nat) : List Int := (R.take k).map fun y => R.getD k 0 - y
def gapsN (R : List Int) (n : Nat) : List Int := 0 :: (List.range n).flatMap (gapK R)
theorem gapsN_succ (R : List Int) (n : Nat) : gapsN R (n + 1) = gapsN R n ++ gapK R n := by
  unfold gapsN; rw [List.range_succ, List.flatMap_append]; simp
def bestF (L : List Int) (m : Int) : Option Int := ((List.range 21).find? fun (e : Nat) => decide (((days (e : Int) L).length : Int) ≤ m)).map fun (e : Nat) => (e : Int)
def encO : Option Int → D
  | none => .non
  | some i => .int i
def gapsF (L : List Int) : List Int := gapsN (sortI L) (sortI L).length
theorem mem_gaps {L : List Int} {e : Int} : e ∈ gapsF L ↔ e = 0 ∨ ∃ k j, j < k ∧ k < (sortI L).length ∧ e = (sortI L).getD k 0 - (sortI L).getD j 0 := by
  unfold gapsF gapsN
  rw [List.mem_cons, List.mem_flatMap]
  refine or_congr Iff.rfl ⟨?_, ?_⟩
  · rintro ⟨k, hk, h⟩
    obtain ⟨y, hy, rfl⟩ := List.mem_map.mp h
    have hk := List.mem_range.mp hk
    obtain ⟨j, hj, rfl⟩ := List.mem_iff_getElem.mp hy
    rw [List.length_take] at hj
    exact ⟨k, j, by omega, hk, by rw [List.getElem_take, List.getD_eq_getElem?_getD (l := sortI L) (i := j), List.getElem?_eq_getElem (by omega)]; rfl⟩
  · rintro ⟨k, j, h1, h2, rfl⟩
    refine ⟨k, List.mem_range.mpr h2, List.mem_map.mpr ⟨_, ?_, rfl⟩⟩
    rw [List.getD_eq_getElem?_getD, List.getElem?_eq_getElem (show j < (sortI L).length by omega)]
    exact List.mem_iff_getElem.mpr ⟨j, by rw [List.length_take]; omega, by rw [List.getElem_take]; rfl⟩
theorem find_min {xs : List Int} {p : Int → Bool} {m : Int} (hs : xs.Pairwise (· < ·)) (h1 : m ∈ xs) (h2 : p m = true) (h3 : ∀ x ∈ xs, x < m → p x = false) : xs.find? p = some m := by
  induction xs with
  | nil => cases h1
  | cons x xs ih =>
    have hx := List.pairwise_cons.mp hs
    rw [List.find?_cons]
    rcases List.mem_cons.mp h1 with rfl | h1
    · rw [h2]
    · rw [h3 x List.mem_cons_self (hx.1 m h1)]
      exact ih hx.2 h1 fun y hy => h3 y (List.mem_cons_of_mem _ hy)
theorem best_eq {L : List Int} (hL : ∀ x ∈ L, 0 ≤ x ∧ x < 20) (m : Int) : (uniqI (gapsF L)).find? (fun e => decide (((days e L).length : Int) ≤ m)) = bestF L m := by
  have hm : ∀ k, k < (sortI L).length → 0 ≤ (sortI L).getD k 0 ∧ (sortI L).getD k 0 < 20 := fun k hk => hL _ ((sortI_perm L).mem_iff.mp (by rw [List.getD_eq_getElem?_getD, List.getElem?_eq_getElem hk]; exact List.getElem_mem hk))
  have hg : ∀ e ∈ gapsF L, 0 ≤ e ∧ e ≤ 20 := fun e he => by
    rcases mem_gaps.mp he with rfl | ⟨k, j, h1, h2, rfl⟩
    · decide
    · have a := hm k h2
      have b := hm j (by omega)
      have c : (sortI L).getD j 0 ≤ (sortI L).getD k 0 := by
        rw [List.getD_eq_getElem?_getD, List.getElem?_eq_getElem (show j < (sortI L).length by omega), List.getD_eq_getElem?_getD, List.getElem?_eq_getElem h2]
        exact List.pairwise_iff_getElem.mp (sortI_sorted L) j k (by omega) h2 h1
      omega
  unfold bestF
  cases h : (List.range 21).find? fun (e : Nat) => decide (((days (e : Int) L).length : Int) ≤ m) with
  | none =>
    refine List.find?_eq_none.mpr fun e he => ?_
    have := hg e (mem_uniqI.mp he)
    have := List.find?_eq_none.mp h e.toNat (List.mem_range.mpr (by omega))
    rwa [Int.toNat_of_nonneg (by omega)] at this
  | some e =>
    have h1 := List.find?_some h
    obtain ⟨i, hi, h2, h3⟩ := List.find?_eq_some_iff_getElem.mp h |>.2
    rw [List.length_range] at hi
    rw [List.getElem_range] at h2
    subst h2
    have h3 : ∀ x : Int, 0 ≤ x → x < i → ¬ ((days x L).length : Int) ≤ m := fun x a b c => by
      have := h3 x.toNat (by omega)
      rw [List.getElem_range, Int.toNat_of_nonneg a] at this
      simp at this
      omega
    refine find_min (pw_uniqI _) (mem_uniqI.mpr (mem_gaps.mpr ?_)) h1 fun x hx hlt => decide_eq_false (h3 x (hg x (mem_uniqI.mp hx)).1 hlt)
    by_cases c : (i : Int) = 0
    · exact .inl c
    · right
      by_cases c2 : ∃ k j, j < k ∧ k < (sortI L).length ∧ (i : Int) = (sortI L).getD k 0 - (sortI L).getD j 0
      · exact c2
      · have e1 : days (i : Int) L = days ((i : Int) - 1) L := days_eq_of (sortI L) none fun y hy x hx z => by
          obtain ⟨k, hk, rfl⟩ := List.mem_iff_getElem.mp hx
          obtain ⟨j, hj, rfl⟩ := List.mem_iff_getElem.mp (show y ∈ sortI L by simpa using hy)
          have hjk : j < k := by
            by_cases q : j < k
            · exact q
            · by_cases q2 : j = k
              · subst q2; omega
              · have := List.pairwise_iff_getElem.mp (sortI_sorted L) k j hk hj (by omega)
                omega
          refine c2 ⟨k, j, hjk, hk, ?_⟩
          rw [List.getD_eq_getElem?_getD, List.getElem?_eq_getElem hk, List.getD_eq_getElem?_getD, List.getElem?_eq_getElem hj]
          exact z.symm
        rw [e1] at h1
        exact absurd (of_decide_eq_true h1) (h3 _ (by omega) (by omega))
theorem days_nil (e : Int) : days e [] = [] := by
  unfold days
  rw [List.length_eq_zero_iff.mp (sortI_perm []).length_eq]
  simp [gd]
theorem best_zero (L : List Int) : bestF L 0 = if L.length = 0 then some 0 else none := by
  unfold bestF
  by_cases c : L.length = 0
  · rw [if_pos c, List.length_eq_zero_iff.mp c, show List.range 21 = 0 :: (List.range 20).map (· + 1) from by decide, List.find?_cons, show decide (((days ((0 : Nat) : Int) []).length : Int) ≤ 0) = true from by rw [days_nil]; rfl]
    rfl
  · rw [if_neg c, List.find?_eq_none.mpr, Option.map_none]
    intro e _ h
    have h := of_decide_eq_true h
    obtain ⟨x, hx⟩ := List.exists_mem_of_ne_nil L (fun z => c (by rw [z]; rfl))
    obtain ⟨d, hd, _⟩ := days_enough (e := (e : Int)) (by omega) L x hx
    have := List.length_pos_of_mem hd
    omega
theorem zip_enc (row : List Int) : (row.map D.int).zipIdx.map (fun p : D × Nat => .tup [.int (p.2 : Nat), p.1]) = (List.range row.length).map fun (i : Nat) => D.tup [.int (i : Nat), .int (row.getD i 0)] := by
  refine List.ext_getElem? fun i => ?_
  rw [List.getElem?_map, List.getElem?_map, List.getElem?_zipIdx, List.getElem?_map]
  by_cases h : i < row.length
  · rw [List.getElem?_eq_getElem h, List.getElem?_range h]
    show some (D.tup [D.int ((0 + i : Nat) : Int), D.int row[i]]) = some (D.tup [D.int (i : Int), D.int (row.getD i 0)])
    rw [Nat.zero_add, List.getD_eq_getElem?_getD, List.getElem?_eq_getElem h]; rfl
  · rw [List.getElem?_eq_none (by omega), List.getElem?_eq_none (by rw [List.length_range]; omega)]; rfl
theorem early_ev {L : List Int} (hl : L.length ≤ 8) (hL : ∀ x ∈ L, 0 ≤ x ∧ x < 20) {m : Int} (hm : 0 ≤ m) : pureF v_least_early [eI L, .int m] = some (encO (bestF L m)) := by
  have hs : (sortI L).length = L.length := (sortI_perm L).length_eq
  refine pureF_eq rfl ?_
  unfold d_least_early
  walk_at "e"
  refine ite_i (fun c => ?_) (fun c => ?_)
  · subst c
    rw [best_zero, List.length_map]
    by_cases c : L.length = 0
    · rw [if_pos c, if_pos (by omega)]; rfl
    · rw [if_neg c, if_neg (by omega)]; rfl
  · rw [sortG_ints]
    walk_at "e"
    rw [zip_enc]
    refine (show D.lst [.int 0] = eI (gapsN (sortI L) 0) from rfl) ▸ forl_fold (J := Option D × Slot × Slot) (fun (k : Nat) => D.tup [.int (k : Nat), .int ((sortI L).getD k 0)]) (fun (g : List Int) j => [.val (eI L), .val (.int m), .val (.lst ((sortI L).map .int)), .own (eI g), j.2.1, j.2.2, .non, jk j.1]) (fun g k => g ++ gapK (sortI L) k) (fun n g => g = gapsN (sortI L) n ∧ g.length ≤ 1 + 7 * n) (List.range (sortI L).length) 0 _ (none, .non, .non) () ⟨rfl, by simp [gapsN]⟩ (fun i x hi g j p => ?_) (fun j p => ?_)
    · obtain ⟨hi, rfl⟩ : ∃ h : i < (sortI L).length, i = x := by
        obtain ⟨h1, h2⟩ := List.getElem?_eq_some_iff.mp hi
        rw [List.getElem_range] at h2
        exact ⟨by simpa using h1, h2⟩
      obtain ⟨p1, p2⟩ := p
      walk_at "e"
      unfold d_least_early_b1
      walk_at "e"
      rw [cutD_to, ← List.map_take]
      have ht : ((sortI L).take i).length = i := by rw [List.length_take]; omega
      refine ⟨by rw [List.length_map]; omega, ?_⟩
      refine lcl_map D.int (fun y => .int ((sortI L).getD i 0 - y)) ((sortI L).take i) (fun y _ s => ?_) ?_
      · walk_at "e"
      · refine ⟨by rw [List.length_map, List.length_map]; omega, ?_⟩
        refine fe_nx (j.1, .val (.int i), .val (.int ((sortI L).getD i 0))) ?_ ⟨by rw [p1, Nat.zero_add, gapsN_succ], by rw [List.length_append]; unfold gapK; rw [List.length_map, ht]; omega⟩
        dsimp only
        rw [show D.lst (List.map D.int g ++ List.map (fun y => D.int ((sortI L).getD i 0 - y)) ((sortI L).take i)) = eI (g ++ gapK (sortI L) i) by rw [eI, List.map_append, List.map_map]; rfl]
    · obtain ⟨p1, p2⟩ := p
      rw [List.length_range, Nat.zero_add] at p1 p2
      rw [p1] at p2 ⊢
      rw [show gapsN (sortI L) (sortI L).length = gapsF L from rfl] at p2 ⊢
      have hu := uniqI_len (gapsF L)
      walk_at "e"
      rw [show sortSetD [D.brw 3 (eI (gapsF L))] = sortSetD [.lst ((gapsF L).map .int)] from rfl, sortSetD_lst, if_pos ⟨by omega, by omega⟩]
      refine opt_at rfl ?_
      refine forl_find (J := Slot) D.int (fun j' => [.val (eI L), .val (.int m), .val (.lst ((sortI L).map .int)), .own (eI (gapsF L)), j.2.1, j.2.2, j', jk j.1]) (fun e => decide (((days e L).length : Int) ≤ m)) D.int (uniqI (gapsF L)) .non () (fun e he j' => ?_) (fun e he => ?_) (fun hn j' => ?_)
      · walk_at "e"
        unfold d_least_early_b2
        walk_at "e"
        rw [trips_ev (by omega)]
        walk_at "e"
        rw [List.length_map]
        exact ite_i (fun c => ff_rt (by simpa using c) rfl) (fun c => ff_nx _ (fun z => c (by simpa using z)) rfl)
      · rw [best_eq hL] at he
        rw [he]
        rfl
      · rw [best_eq hL] at hn
        rw [hn]
        walk_at "e"
        rfl
end K_k44
end
section
set_option Elab.async false
set_option linter.all false
set_option maxRecDepth 100000
set_option maxHeartbeats 4000000
open QL
local macro_rules | `(tactic| walk_at "ev") => `(tactic| simp only [QL.optP_some, QL.optP_none, QL.optP_ite, ↓QL.wp_some, ↓QL.wp_none, ↓QL.wp_mr, ↓QL.wp_ml, ↓QL.wp_mb, QL.LIM_eq, QL.strip_int', QL.strip_bl, QL.strip_str', QL.strip_non, QL.strip_hd, QL.strip_lst, QL.strip_tup, QL.strip_brw, QL.plain_int, QL.plain_bl, QL.plain_str, QL.plain_non, QL.plain_hd, QL.plain_lst, QL.plain_tup, QL.plain_brw, QL.plO_eq, QL.scal0_int, QL.scal0_bl, QL.scal0_non, QL.addD_int, QL.subD_int, QL.mulD_int, QL.small64_eq, QL.fdivD_int, QL.modD_int, QL.negD_int, QL.ltD_int, QL.leD_int, QL.gtD_int, QL.geD_int, QL.isND_non, QL.isND_int, QL.isND_bl, QL.isND_str, QL.isND_tup, QL.isND_lst, QL.str2_str, QL.eqO_str, QL.eqO_int, QL.eqO_bl, QL.idxD_lst, QL.idxD_tup, QL.idxD_brw, QL.atI_zero, QL.atI_one, QL.atI_two, QL.atI_three, QL.atI_four, QL.atI_five, QL.addD_tup, QL.truD_bl, QL.truD_int, QL.truD_non, QL.truD_lst, QL.truD_tup, QL.rds_val, QL.rds_own, QL.rds_non, QL.rds_deep, ↓QL.wp_dVar, ↓QL.wp_dC, ↓QL.wp_dOp, ↓QL.wp_dU, ↓QL.wp_dNil, ↓QL.wp_dCons, ↓QL.wp_dTup, ↓QL.wp_dPl, ↓QL.wp_dFz, QL.blO_bl, ↓QL.wp_dTst, ↓QL.wp_dTru, ↓QL.wp_dAnd, ↓QL.wp_dOr, ↓QL.wp_dNot, ↓QL.wp_dAndV, ↓QL.wp_dOrV, ↓QL.wp_dNotV, ↓QL.wp_dIf, ↓QL.wp_dChn, ↓QL.wp_dCall, ↓QL.wp_dCallR, ↓QL.wp_dB, ↓QL.wp_dBN, QL.lenD_lst, QL.lenD_tup, QL.lenD_brw, QL.absD_int, QL.intD_int, QL.intD_bl, QL.max2D_int, QL.min2D_int, QL.lst1_lst, QL.lst1_brw, QL.listD_lst, QL.listD_tup, QL.listD_brw, ↓QL.wp_dIS, QL.seqO_lst, QL.seqO_tup, ↓QL.wp_dIR, QL.optP_rng1, QL.optP_rng2, QL.enuD_lst, QL.zipD_lst, ↓QL.wp_dNoP, QL.intO_int, ↓QL.wp_dPrt, QL.optP_lrg, ↓QL.wp_dLrg1, QL.sortD_lst, QL.sortD_brw, QL.slA_lst, QL.slA_brw, QL.slA_tup, ↓QL.wp_dSlA, QL.slO_lst, QL.slO_brw, ↓QL.wp_dSl, QL.seqP_nx, QL.seqP_rt, QL.seqP_bk, QL.seqP_ct, ↓QL.wp_dSeq, ↓QL.wp_dNx, ↓QL.wp_dPass, ↓QL.wp_dBrk, ↓QL.wp_dCnt, ↓QL.wp_dRetN, ↓QL.wp_dRet, ↓QL.wp_dExpr, ↓QL.wp_dIfS, ↓QL.wp_dAsg, QL.gN_eq, QL.gNil_nil, QL.gCons_cons, QL.gTp_tup, ↓QL.wp_dSetO, ↓QL.wp_dSetF, ↓QL.wp_dParNN, ↓QL.wp_dParNE, ↓QL.wp_dParEN, QL.parO_two, ↓QL.wp_dPar, QL.ownS_own, ↓QL.wp_dApp, ↓QL.wp_dStI, ↓QL.wp_dExt, QL.lstO_lst, ↓QL.wp_dFrz, QL.frzS_own, QL.frzS_val, QL.frzS_non, QL.frz_zero, QL.frz_succ, ↓QL.wp_dNEN, ↓QL.wp_dEEN, ↓QL.wp_dENE, ↓QL.wp_dCat, QL.catO_ll, QL.catO_bl, QL.catO_lb, QL.catO_bb, ↓QL.wp_dFor, ↓QL.wp_lcl_nil, ↓QL.wp_lcl_cons, QL.rngL_length, QL.rE_zero, ↓QL.wp_dLc, QL.notOwn_val, QL.notOwn_non, QL.notOwn_own, QL.notOwn_deep, QL.notOwn_jk, ↓QL.wp_lc1, ↓QL.wp_dYes, QL.fit_int, QL.fit_bl, QL.fit_non, QL.fit_lst, QL.fit_tup, QL.ex_and_eq, ↓QL.wp_dIdx, ↓QL.wp_dRev, QL.revO_lst, QL.revO_brw, QL.tupleD_lst, QL.tupleD_brw, QL.tupleD_tup, QL.sortSetD_lst, QL.sortG_brw, QL.maxG_brw, QL.minG_brw, QL.ltV_int, QL.leV_int, QL.gtV_int, QL.geV_int, QL.okE_int, QL.okE_non, QL.okE_lst, QL.okE_tup, QL.eqO_brwR, QL.eqO_brwL, ↓QL.wp_forl_nil, ↓QL.wp_forl_cons, QL.forP_nx, QL.forP_ct, QL.forP_bk, QL.forP_rt, QL.eqO_non_int, QL.eqO_int_non, QL.eqO_non_non, QL.eqO_non_tup, QL.eqO_tup_non, QL.startE, List.map_cons, List.map_nil, List.isEmpty_cons, List.isEmpty_nil, List.append_nil, List.nil_append, List.cons_append, List.length_cons, List.length_nil, Nat.reduceAdd, Nat.reduceSub, Nat.reduceLeDiff, Nat.reduceLT, Nat.reduceMul, Nat.reduceEqDiff, List.replicate_succ, List.replicate_zero, List.getElem?_cons_zero, List.getElem?_cons_succ, List.set_cons_zero, List.set_cons_succ, Option.bind_some, Option.bind_none, Option.some.injEq, QL.D.bl.injEq, QL.D.int.injEq, QL.D.str.injEq, QL.D.lst.injEq, QL.D.tup.injEq, QL.Out.nx.injEq, QL.Out.rt.injEq, QL.Slot.val.injEq, QL.Slot.own.injEq, List.cons.injEq, exists_eq_left, exists_eq_left', exists_eq_right, exists_eq_right', exists_eq, exists_eq', exists_and_left, exists_and_right, decide_eq_true_eq, decide_eq_false_iff_not, Bool.not_true, Bool.not_false, Bool.false_xor, Bool.true_xor, Bool.xor_true, Bool.xor_false, Bool.and_true, Bool.true_and, Bool.and_self, Bool.or_true, Bool.true_or, Bool.or_self, Bool.or_false, Bool.false_or, List.all_cons, List.all_nil, true_and, and_true, and_self, true_or, or_true, if_true, if_false, Bool.not_eq_true', not_false_eq_true, not_true_eq_false, Bool.false_eq_true, Bool.true_eq_false, reduceCtorEq, and_false, false_and, QL.ex_ite, QL.wipeE, QL.noOwn_eq, Option.toList, Int.reduceNeg, Int.reduceToNat, Int.reduceLT, Int.reduceLE, Int.reduceSub, Int.reduceAdd, Int.reduceMul, Int.toNat_zero, Int.cast_ofNat_Int, Int.reduceEq, ite_self, Option.ite_none_right_eq_some])
local macro_rules | `(tactic| walk_at "e") => `(tactic| try simp only [QL.optP_some, QL.optP_none, QL.optP_ite, ↓QL.wp_some, ↓QL.wp_none, ↓QL.wp_mr, ↓QL.wp_ml, ↓QL.wp_mb, QL.LIM_eq, QL.strip_int', QL.strip_bl, QL.strip_str', QL.strip_non, QL.strip_hd, QL.strip_lst, QL.strip_tup, QL.strip_brw, QL.plain_int, QL.plain_bl, QL.plain_str, QL.plain_non, QL.plain_hd, QL.plain_lst, QL.plain_tup, QL.plain_brw, QL.plO_eq, QL.scal0_int, QL.scal0_bl, QL.scal0_non, QL.addD_int, QL.subD_int, QL.mulD_int, QL.small64_eq, QL.fdivD_int, QL.modD_int, QL.negD_int, QL.ltD_int, QL.leD_int, QL.gtD_int, QL.geD_int, QL.isND_non, QL.isND_int, QL.isND_bl, QL.isND_str, QL.isND_tup, QL.isND_lst, QL.str2_str, QL.eqO_str, QL.eqO_int, QL.eqO_bl, QL.idxD_lst, QL.idxD_tup, QL.idxD_brw, QL.atI_zero, QL.atI_one, QL.atI_two, QL.atI_three, QL.atI_four, QL.atI_five, QL.addD_tup, QL.truD_bl, QL.truD_int, QL.truD_non, QL.truD_lst, QL.truD_tup, QL.rds_val, QL.rds_own, QL.rds_non, QL.rds_deep, ↓QL.wp_dVar, ↓QL.wp_dC, ↓QL.wp_dOp, ↓QL.wp_dU, ↓QL.wp_dNil, ↓QL.wp_dCons, ↓QL.wp_dTup, ↓QL.wp_dPl, ↓QL.wp_dFz, QL.blO_bl, ↓QL.wp_dTst, ↓QL.wp_dTru, ↓QL.wp_dAnd, ↓QL.wp_dOr, ↓QL.wp_dNot, ↓QL.wp_dAndV, ↓QL.wp_dOrV, ↓QL.wp_dNotV, ↓QL.wp_dIf, ↓QL.wp_dChn, ↓QL.wp_dCall, ↓QL.wp_dCallR, ↓QL.wp_dB, ↓QL.wp_dBN, QL.lenD_lst, QL.lenD_tup, QL.lenD_brw, QL.absD_int, QL.intD_int, QL.intD_bl, QL.max2D_int, QL.min2D_int, QL.lst1_lst, QL.lst1_brw, QL.listD_lst, QL.listD_tup, QL.listD_brw, ↓QL.wp_dIS, QL.seqO_lst, QL.seqO_tup, ↓QL.wp_dIR, QL.optP_rng1, QL.optP_rng2, QL.enuD_lst, QL.zipD_lst, ↓QL.wp_dNoP, QL.intO_int, ↓QL.wp_dPrt, QL.optP_lrg, ↓QL.wp_dLrg1, QL.sortD_lst, QL.sortD_brw, QL.slA_lst, QL.slA_brw, QL.slA_tup, ↓QL.wp_dSlA, QL.slO_lst, QL.slO_brw, ↓QL.wp_dSl, QL.seqP_nx, QL.seqP_rt, QL.seqP_bk, QL.seqP_ct, ↓QL.wp_dSeq, ↓QL.wp_dNx, ↓QL.wp_dPass, ↓QL.wp_dBrk, ↓QL.wp_dCnt, ↓QL.wp_dRetN, ↓QL.wp_dRet, ↓QL.wp_dExpr, ↓QL.wp_dIfS, ↓QL.wp_dAsg, QL.gN_eq, QL.gNil_nil, QL.gCons_cons, QL.gTp_tup, ↓QL.wp_dSetO, ↓QL.wp_dSetF, ↓QL.wp_dParNN, ↓QL.wp_dParNE, ↓QL.wp_dParEN, QL.parO_two, ↓QL.wp_dPar, QL.ownS_own, ↓QL.wp_dApp, ↓QL.wp_dStI, ↓QL.wp_dExt, QL.lstO_lst, ↓QL.wp_dFrz, QL.frzS_own, QL.frzS_val, QL.frzS_non, QL.frz_zero, QL.frz_succ, ↓QL.wp_dNEN, ↓QL.wp_dEEN, ↓QL.wp_dENE, ↓QL.wp_dCat, QL.catO_ll, QL.catO_bl, QL.catO_lb, QL.catO_bb, ↓QL.wp_dFor, ↓QL.wp_lcl_nil, ↓QL.wp_lcl_cons, QL.rngL_length, QL.rE_zero, ↓QL.wp_dLc, QL.notOwn_val, QL.notOwn_non, QL.notOwn_own, QL.notOwn_deep, QL.notOwn_jk, ↓QL.wp_lc1, ↓QL.wp_dYes, QL.fit_int, QL.fit_bl, QL.fit_non, QL.fit_lst, QL.fit_tup, QL.ex_and_eq, ↓QL.wp_dIdx, ↓QL.wp_dRev, QL.revO_lst, QL.revO_brw, QL.tupleD_lst, QL.tupleD_brw, QL.tupleD_tup, QL.sortSetD_lst, QL.sortG_brw, QL.maxG_brw, QL.minG_brw, QL.ltV_int, QL.leV_int, QL.gtV_int, QL.geV_int, QL.okE_int, QL.okE_non, QL.okE_lst, QL.okE_tup, QL.eqO_brwR, QL.eqO_brwL, ↓QL.wp_forl_nil, ↓QL.wp_forl_cons, QL.forP_nx, QL.forP_ct, QL.forP_bk, QL.forP_rt, QL.eqO_non_int, QL.eqO_int_non, QL.eqO_non_non, QL.eqO_non_tup, QL.eqO_tup_non, QL.startE, List.map_cons, List.map_nil, List.isEmpty_cons, List.isEmpty_nil, List.append_nil, List.nil_append, List.cons_append, List.length_cons, List.length_nil, Nat.reduceAdd, Nat.reduceSub, Nat.reduceLeDiff, Nat.reduceLT, Nat.reduceMul, Nat.reduceEqDiff, List.replicate_succ, List.replicate_zero, List.getElem?_cons_zero, List.getElem?_cons_succ, List.set_cons_zero, List.set_cons_succ, Option.bind_some, Option.bind_none, Option.some.injEq, QL.D.bl.injEq, QL.D.int.injEq, QL.D.str.injEq, QL.D.lst.injEq, QL.D.tup.injEq, QL.Out.nx.injEq, QL.Out.rt.injEq, QL.Slot.val.injEq, QL.Slot.own.injEq, List.cons.injEq, exists_eq_left, exists_eq_left', exists_eq_right, exists_eq_right', exists_eq, exists_eq', exists_and_left, exists_and_right, decide_eq_true_eq, decide_eq_false_iff_not, Bool.not_true, Bool.not_false, Bool.false_xor, Bool.true_xor, Bool.xor_true, Bool.xor_false, Bool.and_true, Bool.true_and, Bool.and_self, Bool.or_true, Bool.true_or, Bool.or_self, Bool.or_false, Bool.false_or, List.all_cons, List.all_nil, true_and, and_true, and_self, true_or, or_true, if_true, if_false, Bool.not_eq_true', not_false_eq_true, not_true_eq_false, Bool.false_eq_true, Bool.true_eq_false, reduceCtorEq, and_false, false_and, QL.ex_ite, QL.wipeE, QL.noOwn_eq, Option.toList, Int.reduceNeg, Int.reduceToNat, Int.reduceLT, Int.reduceLE, Int.reduceSub, Int.reduceAdd, Int.reduceMul, Int.toNat_zero, Int.cast_ofNat_Int, Int.reduceEq, ite_self, Option.ite_none_right_eq_some])
namespace K_k44
local macro_rules | `(tactic| walk_at "ev") => `(tactic| simp only [QL.optP_some, QL.optP_none, QL.optP_ite, ↓QL.wp_some, ↓QL.wp_none, ↓QL.wp_mr, ↓QL.wp_ml, ↓QL.wp_mb, QL.LIM_eq, QL.strip_int', QL.strip_bl, QL.strip_str', QL.strip_non, QL.strip_hd, QL.strip_lst, QL.strip_tup, QL.strip_brw, QL.plain_int, QL.plain_bl, QL.plain_str, QL.plain_non, QL.plain_hd, QL.plain_lst, QL.plain_tup, QL.plain_brw, QL.plO_eq, QL.scal0_int, QL.scal0_bl, QL.scal0_non, QL.addD_int, QL.subD_int, QL.mulD_int, QL.small64_eq, QL.fdivD_int, QL.modD_int, QL.negD_int, QL.ltD_int, QL.leD_int, QL.gtD_int, QL.geD_int, QL.isND_non, QL.isND_int, QL.isND_bl, QL.isND_str, QL.isND_tup, QL.isND_lst, QL.str2_str, QL.eqO_str, QL.eqO_int, QL.eqO_bl, QL.idxD_lst, QL.idxD_tup, QL.idxD_brw, QL.atI_zero, QL.atI_one, QL.atI_two, QL.atI_three, QL.atI_four, QL.atI_five, QL.addD_tup, QL.truD_bl, QL.truD_int, QL.truD_non, QL.truD_lst, QL.truD_tup, QL.rds_val, QL.rds_own, QL.rds_non, QL.rds_deep, ↓QL.wp_dVar, ↓QL.wp_dC, ↓QL.wp_dOp, ↓QL.wp_dU, ↓QL.wp_dNil, ↓QL.wp_dCons, ↓QL.wp_dTup, ↓QL.wp_dPl, ↓QL.wp_dFz, QL.blO_bl, ↓QL.wp_dTst, ↓QL.wp_dTru, ↓QL.wp_dAnd, ↓QL.wp_dOr, ↓QL.wp_dNot, ↓QL.wp_dAndV, ↓QL.wp_dOrV, ↓QL.wp_dNotV, ↓QL.wp_dIf, ↓QL.wp_dChn, ↓QL.wp_dCall, ↓QL.wp_dCallR, ↓QL.wp_dB, ↓QL.wp_dBN, QL.lenD_lst, QL.lenD_tup, QL.lenD_brw, QL.absD_int, QL.intD_int, QL.intD_bl, QL.max2D_int, QL.min2D_int, QL.lst1_lst, QL.lst1_brw, QL.listD_lst, QL.listD_tup, QL.listD_brw, ↓QL.wp_dIS, QL.seqO_lst, QL.seqO_tup, ↓QL.wp_dIR, QL.optP_rng1, QL.optP_rng2, QL.enuD_lst, QL.zipD_lst, ↓QL.wp_dNoP, QL.intO_int, ↓QL.wp_dPrt, QL.optP_lrg, ↓QL.wp_dLrg1, QL.sortD_lst, QL.sortD_brw, QL.slA_lst, QL.slA_brw, QL.slA_tup, ↓QL.wp_dSlA, QL.slO_lst, QL.slO_brw, ↓QL.wp_dSl, QL.seqP_nx, QL.seqP_rt, QL.seqP_bk, QL.seqP_ct, ↓QL.wp_dSeq, ↓QL.wp_dNx, ↓QL.wp_dPass, ↓QL.wp_dBrk, ↓QL.wp_dCnt, ↓QL.wp_dRetN, ↓QL.wp_dRet, ↓QL.wp_dExpr, ↓QL.wp_dIfS, ↓QL.wp_dAsg, QL.gN_eq, QL.gNil_nil, QL.gCons_cons, QL.gTp_tup, ↓QL.wp_dSetO, ↓QL.wp_dSetF, ↓QL.wp_dParNN, ↓QL.wp_dParNE, ↓QL.wp_dParEN, QL.parO_two, ↓QL.wp_dPar, QL.ownS_own, ↓QL.wp_dApp, ↓QL.wp_dStI, ↓QL.wp_dExt, QL.lstO_lst, ↓QL.wp_dFrz, QL.frzS_own, QL.frzS_val, QL.frzS_non, QL.frz_zero, QL.frz_succ, ↓QL.wp_dNEN, ↓QL.wp_dEEN, ↓QL.wp_dENE, ↓QL.wp_dCat, QL.catO_ll, QL.catO_bl, QL.catO_lb, QL.catO_bb, ↓QL.wp_dFor, ↓QL.wp_lcl_nil, ↓QL.wp_lcl_cons, QL.rngL_length, QL.rE_zero, ↓QL.wp_dLc, QL.notOwn_val, QL.notOwn_non, QL.notOwn_own, QL.notOwn_deep, QL.notOwn_jk, ↓QL.wp_lc1, ↓QL.wp_dYes, QL.fit_int, QL.fit_bl, QL.fit_non, QL.fit_lst, QL.fit_tup, QL.ex_and_eq, ↓QL.wp_dIdx, ↓QL.wp_dRev, QL.revO_lst, QL.revO_brw, QL.tupleD_lst, QL.tupleD_brw, QL.tupleD_tup, QL.sortSetD_lst, QL.sortG_brw, QL.maxG_brw, QL.minG_brw, QL.ltV_int, QL.leV_int, QL.gtV_int, QL.geV_int, QL.okE_int, QL.okE_non, QL.okE_lst, QL.okE_tup, QL.eqO_brwR, QL.eqO_brwL, ↓QL.wp_forl_nil, ↓QL.wp_forl_cons, QL.forP_nx, QL.forP_ct, QL.forP_bk, QL.forP_rt, QL.eqO_non_int, QL.eqO_int_non, QL.eqO_non_non, QL.eqO_non_tup, QL.eqO_tup_non, sumD_eq, encN_eq, QL.startE, List.map_cons, List.map_nil, List.isEmpty_cons, List.isEmpty_nil, List.append_nil, List.nil_append, List.cons_append, List.length_cons, List.length_nil, Nat.reduceAdd, Nat.reduceSub, Nat.reduceLeDiff, Nat.reduceLT, Nat.reduceMul, Nat.reduceEqDiff, List.replicate_succ, List.replicate_zero, List.getElem?_cons_zero, List.getElem?_cons_succ, List.set_cons_zero, List.set_cons_succ, Option.bind_some, Option.bind_none, Option.some.injEq, QL.D.bl.injEq, QL.D.int.injEq, QL.D.str.injEq, QL.D.lst.injEq, QL.D.tup.injEq, QL.Out.nx.injEq, QL.Out.rt.injEq, QL.Slot.val.injEq, QL.Slot.own.injEq, List.cons.injEq, exists_eq_left, exists_eq_left', exists_eq_right, exists_eq_right', exists_eq, exists_eq', exists_and_left, exists_and_right, decide_eq_true_eq, decide_eq_false_iff_not, Bool.not_true, Bool.not_false, Bool.false_xor, Bool.true_xor, Bool.xor_true, Bool.xor_false, Bool.and_true, Bool.true_and, Bool.and_self, Bool.or_true, Bool.true_or, Bool.or_self, Bool.or_false, Bool.false_or, List.all_cons, List.all_nil, true_and, and_true, and_self, true_or, or_true, if_true, if_false, Bool.not_eq_true', not_false_eq_true, not_true_eq_false, Bool.false_eq_true, Bool.true_eq_false, reduceCtorEq, and_false, false_and, QL.ex_ite, QL.wipeE, QL.noOwn_eq, Option.toList, Int.reduceNeg, Int.reduceToNat, Int.reduceLT, Int.reduceLE, Int.reduceSub, Int.reduceAdd, Int.reduceMul, Int.toNat_zero, Int.cast_ofNat_Int, Int.reduceEq, ite_self, Option.ite_none_right_eq_some])
local macro_rules | `(tactic| walk_at "e") => `(tactic| try simp only [QL.optP_some, QL.optP_none, QL.optP_ite, ↓QL.wp_some, ↓QL.wp_none, ↓QL.wp_mr, ↓QL.wp_ml, ↓QL.wp_mb, QL.LIM_eq, QL.strip_int', QL.strip_bl, QL.strip_str', QL.strip_non, QL.strip_hd, QL.strip_lst, QL.strip_tup, QL.strip_brw, QL.plain_int, QL.plain_bl, QL.plain_str, QL.plain_non, QL.plain_hd, QL.plain_lst, QL.plain_tup, QL.plain_brw, QL.plO_eq, QL.scal0_int, QL.scal0_bl, QL.scal0_non, QL.addD_int, QL.subD_int, QL.mulD_int, QL.small64_eq, QL.fdivD_int, QL.modD_int, QL.negD_int, QL.ltD_int, QL.leD_int, QL.gtD_int, QL.geD_int, QL.isND_non, QL.isND_int, QL.isND_bl, QL.isND_str, QL.isND_tup, QL.isND_lst, QL.str2_str, QL.eqO_str, QL.eqO_int, QL.eqO_bl, QL.idxD_lst, QL.idxD_tup, QL.idxD_brw, QL.atI_zero, QL.atI_one, QL.atI_two, QL.atI_three, QL.atI_four, QL.atI_five, QL.addD_tup, QL.truD_bl, QL.truD_int, QL.truD_non, QL.truD_lst, QL.truD_tup, QL.rds_val, QL.rds_own, QL.rds_non, QL.rds_deep, ↓QL.wp_dVar, ↓QL.wp_dC, ↓QL.wp_dOp, ↓QL.wp_dU, ↓QL.wp_dNil, ↓QL.wp_dCons, ↓QL.wp_dTup, ↓QL.wp_dPl, ↓QL.wp_dFz, QL.blO_bl, ↓QL.wp_dTst, ↓QL.wp_dTru, ↓QL.wp_dAnd, ↓QL.wp_dOr, ↓QL.wp_dNot, ↓QL.wp_dAndV, ↓QL.wp_dOrV, ↓QL.wp_dNotV, ↓QL.wp_dIf, ↓QL.wp_dChn, ↓QL.wp_dCall, ↓QL.wp_dCallR, ↓QL.wp_dB, ↓QL.wp_dBN, QL.lenD_lst, QL.lenD_tup, QL.lenD_brw, QL.absD_int, QL.intD_int, QL.intD_bl, QL.max2D_int, QL.min2D_int, QL.lst1_lst, QL.lst1_brw, QL.listD_lst, QL.listD_tup, QL.listD_brw, ↓QL.wp_dIS, QL.seqO_lst, QL.seqO_tup, ↓QL.wp_dIR, QL.optP_rng1, QL.optP_rng2, QL.enuD_lst, QL.zipD_lst, ↓QL.wp_dNoP, QL.intO_int, ↓QL.wp_dPrt, QL.optP_lrg, ↓QL.wp_dLrg1, QL.sortD_lst, QL.sortD_brw, QL.slA_lst, QL.slA_brw, QL.slA_tup, ↓QL.wp_dSlA, QL.slO_lst, QL.slO_brw, ↓QL.wp_dSl, QL.seqP_nx, QL.seqP_rt, QL.seqP_bk, QL.seqP_ct, ↓QL.wp_dSeq, ↓QL.wp_dNx, ↓QL.wp_dPass, ↓QL.wp_dBrk, ↓QL.wp_dCnt, ↓QL.wp_dRetN, ↓QL.wp_dRet, ↓QL.wp_dExpr, ↓QL.wp_dIfS, ↓QL.wp_dAsg, QL.gN_eq, QL.gNil_nil, QL.gCons_cons, QL.gTp_tup, ↓QL.wp_dSetO, ↓QL.wp_dSetF, ↓QL.wp_dParNN, ↓QL.wp_dParNE, ↓QL.wp_dParEN, QL.parO_two, ↓QL.wp_dPar, QL.ownS_own, ↓QL.wp_dApp, ↓QL.wp_dStI, ↓QL.wp_dExt, QL.lstO_lst, ↓QL.wp_dFrz, QL.frzS_own, QL.frzS_val, QL.frzS_non, QL.frz_zero, QL.frz_succ, ↓QL.wp_dNEN, ↓QL.wp_dEEN, ↓QL.wp_dENE, ↓QL.wp_dCat, QL.catO_ll, QL.catO_bl, QL.catO_lb, QL.catO_bb, ↓QL.wp_dFor, ↓QL.wp_lcl_nil, ↓QL.wp_lcl_cons, QL.rngL_length, QL.rE_zero, ↓QL.wp_dLc, QL.notOwn_val, QL.notOwn_non, QL.notOwn_own, QL.notOwn_deep, QL.notOwn_jk, ↓QL.wp_lc1, ↓QL.wp_dYes, QL.fit_int, QL.fit_bl, QL.fit_non, QL.fit_lst, QL.fit_tup, QL.ex_and_eq, ↓QL.wp_dIdx, ↓QL.wp_dRev, QL.revO_lst, QL.revO_brw, QL.tupleD_lst, QL.tupleD_brw, QL.tupleD_tup, QL.sortSetD_lst, QL.sortG_brw, QL.maxG_brw, QL.minG_brw, QL.ltV_int, QL.leV_int, QL.gtV_int, QL.geV_int, QL.okE_int, QL.okE_non, QL.okE_lst, QL.okE_tup, QL.eqO_brwR, QL.eqO_brwL, ↓QL.wp_forl_nil, ↓QL.wp_forl_cons, QL.forP_nx, QL.forP_ct, QL.forP_bk, QL.forP_rt, QL.eqO_non_int, QL.eqO_int_non, QL.eqO_non_non, QL.eqO_non_tup, QL.eqO_tup_non, sumD_eq, encN_eq, QL.startE, List.map_cons, List.map_nil, List.isEmpty_cons, List.isEmpty_nil, List.append_nil, List.nil_append, List.cons_append, List.length_cons, List.length_nil, Nat.reduceAdd, Nat.reduceSub, Nat.reduceLeDiff, Nat.reduceLT, Nat.reduceMul, Nat.reduceEqDiff, List.replicate_succ, List.replicate_zero, List.getElem?_cons_zero, List.getElem?_cons_succ, List.set_cons_zero, List.set_cons_succ, Option.bind_some, Option.bind_none, Option.some.injEq, QL.D.bl.injEq, QL.D.int.injEq, QL.D.str.injEq, QL.D.lst.injEq, QL.D.tup.injEq, QL.Out.nx.injEq, QL.Out.rt.injEq, QL.Slot.val.injEq, QL.Slot.own.injEq, List.cons.injEq, exists_eq_left, exists_eq_left', exists_eq_right, exists_eq_right', exists_eq, exists_eq', exists_and_left, exists_and_right, decide_eq_true_eq, decide_eq_false_iff_not, Bool.not_true, Bool.not_false, Bool.false_xor, Bool.true_xor, Bool.xor_true, Bool.xor_false, Bool.and_true, Bool.true_and, Bool.and_self, Bool.or_true, Bool.true_or, Bool.or_self, Bool.or_false, Bool.false_or, List.all_cons, List.all_nil, true_and, and_true, and_self, true_or, or_true, if_true, if_false, Bool.not_eq_true', not_false_eq_true, not_true_eq_false, Bool.false_eq_true, Bool.true_eq_false, reduceCtorEq, and_false, false_and, QL.ex_ite, QL.wipeE, QL.noOwn_eq, Option.toList, Int.reduceNeg, Int.reduceToNat, Int.reduceLT, Int.reduceLE, Int.reduceSub, Int.reduceAdd, Int.reduceMul, Int.toNat_zero, Int.cast_ofNat_Int, Int.reduceEq, ite_self, Option.ite_none_right_eq_some])
theorem fold_rev (p : Nat → Bool) : ∀ (xs : List Nat), (xs.reverse).foldl (fun (b : Option Int) k => if p k = true then some (k : Int) else b) none = (xs.find? p).map fun (k : Nat) => (k : Int)
  | [] => rfl
  | x :: xs => by
    rw [List.reverse_cons, List.foldl_append, fold_rev p xs, List.find?_cons]
    show (if p x = true then _ else _) = _
    cases p x <;> rfl
theorem rng20 : rng3 [.int 20, .int (-1), .int (-1)] = some ((List.range 21).reverse.map fun (k : Nat) => D.int (k : Int)) := by kernel_rfl
theorem log21 : ∀ k : Nat, k < 21 → ((k : Int).natAbs).log2 < 1920 := by decide
theorem repr_best (L : List Int) (m : Int) : ∃ z, reprA [encO (bestF L m)] = some (.str z) := by
  cases h : (List.range 21).find? fun (e : Nat) => decide (((days (e : Int) L).length : Int) ≤ m) with
  | none => exact ⟨_, by rw [show bestF L m = none by unfold bestF; rw [h]; rfl]; exact reprA_non⟩
  | some k =>
    have := List.mem_range.mp (List.mem_of_find?_eq_some h)
    exact ⟨_, by rw [show bestF L m = some (k : Int) by unfold bestF; rw [h]; rfl]; exact reprA_int (log21 k this)⟩
structure okL (L : List Int) : Prop where
  n : L.length ≤ 7
  b : ∀ x ∈ L, 0 ≤ x ∧ x < 20
theorem law_r9 {L : List Int} (o : okL L) {e : Int} {z : PySem.Str} (hz : reprA [eI L] = some (.str z)) {j2 j3 j4 j5 j6 j7 j8 j9 j10 j14 j15 j16 j17 j19 j20 j21 j22 j23 j24 : Slot} {j18 j25 j26 : Option D} (s : S3) : Wp (d_law_r9 [.val (.hd 1), .val (.hd 0), j2, j3, j4, j5, j6, j7, j8, j9, j10, .val (eI L), .val (.int e), .val (.str z), j14, j15, j16, j17, jk j18, j19, j20, j21, j22, j23, j24, jk j25, jk j26] s) fun o _ => o = .rt (.bl true) := by
  have hn := o.n
  unfold d_law_r9
  walk_at "e"
  refine wp_draw (by decide) (by decide) fun m s2 a b => ?_
  walk_at "e"
  unfold d_law_r8
  walk_at "e"
  unfold d_law_r7
  walk_at "e"
  rw [rng20]
  refine opt_at rfl ?_
  refine (show D.non = encO none from rfl) ▸ forl_fold (J := Option D) (fun (k : Nat) => D.int (k : Int)) (fun (b : Option Int) j25 => [.val (.hd 1), .val (.hd 0), j2, j3, j4, j5, j6, j7, j8, j9, j10, .val (eI L), .val (.int e), .val (.str z), j14, j15, j16, j17, jk j18, j19, j20, j21, j22, .val (.int m), .val (encO b), jk j25, jk j26]) (fun b k => if (fun (k : Nat) => decide (((days (k : Int) L).length : Int) ≤ m)) k = true then some (k : Int) else b) (fun _ _ => True) (List.range 21).reverse 0 none j25 s2 trivial (fun i x hi b' j p => ?_) (fun j p => ?_)
  · walk_at "e"
    unfold d_law_b5
    walk_at "e"
    rw [least_ev (by omega) (by omega)]
    walk_at "e"
    refine ite_i (fun c => ?_) (fun c => ?_)
    · exact fe_nx (some (.int x)) (by rw [if_pos c]; rfl) trivial
    · exact fe_nx (some (.int x)) (by rw [if_neg c]; rfl) trivial
  · rw [fold_rev]
    unfold d_law_r6
    walk_at "e"
    rw [early_ev (by omega) o.b a, show (((List.range 21).find? fun (k : Nat) => decide (((days (k : Int) L).length : Int) ≤ m)).map fun (k : Nat) => (k : Int)) = bestF L m from rfl]
    obtain ⟨y, hy⟩ := repr_best L m
    walk_at "e"
    rw [hy]
    walk_at "e"
    rw [hz]
    walk_at "e"
theorem gd_next {e : Int} (he : 0 ≤ e) : ∀ (xs : List Int) (l : Option Int), xs.Pairwise (· ≤ ·) → (∀ d, l = some d → ∀ x ∈ xs, d + e < x → 0 < (gd e l xs).length ∧ (gd e l xs).getD 0 0 ≤ x) ∧ (∀ k, k + 1 < (gd e l xs).length → ∀ x ∈ xs, (gd e l xs).getD k 0 + e < x → (gd e l xs).getD (k + 1) 0 ≤ x)
  | [], l, _ => ⟨fun _ _ x h => (by cases h), fun _ _ x h => (by cases h)⟩
  | x :: xs, l, h => by
    have hx := List.pairwise_cons.mp h
    have add : (∀ k, k + 1 < (x :: gd e (some x) xs).length → ∀ y ∈ x :: xs, (x :: gd e (some x) xs).getD k 0 + e < y → (x :: gd e (some x) xs).getD (k + 1) 0 ≤ y) := fun k hk y hy hlt => by
      obtain ⟨i1, i2⟩ := gd_next he xs (some x) hx.2
      rw [List.length_cons] at hk
      cases k with
      | zero =>
        rw [List.getD_cons_zero] at hlt
        rw [List.getD_cons_succ]
        rcases List.mem_cons.mp hy with rfl | hy
        · omega
        · exact (i1 x rfl y hy hlt).2
      | succ k =>
        rw [List.getD_cons_succ] at hlt ⊢
        rcases List.mem_cons.mp hy with rfl | hy
        · have hm : (gd e (some y) xs).getD k 0 ∈ xs := (gd_sub e (some y) xs).mem (by rw [List.getD_eq_getElem?_getD, List.getElem?_eq_getElem (show k < _ by omega)]; exact List.getElem_mem _)
          have := hx.1 _ hm
          omega
        · exact i2 k (by omega) y hy hlt
    cases l with
    | none => unfold gd; exact ⟨fun _ z => (by cases z), add⟩
    | some l =>
      unfold gd
      by_cases c : l < x - e
      · rw [if_pos c]
        refine ⟨fun d hd y hy _ => ⟨by simp, ?_⟩, add⟩
        rw [List.getD_cons_zero]
        rcases List.mem_cons.mp hy with rfl | hy
        · exact Int.le_refl _
        · exact hx.1 y hy
      · rw [if_neg c]
        obtain ⟨i1, i2⟩ := gd_next he xs (some l) hx.2
        refine ⟨fun d hd y hy hlt => ?_, fun k hk y hy hlt => ?_⟩
        · cases hd
          rcases List.mem_cons.mp hy with rfl | hy
          · omega
          · exact i1 l rfl y hy hlt
        · rcases List.mem_cons.mp hy with rfl | hy
          · have hm : (gd e (some l) xs).getD k 0 ∈ xs := (gd_sub e (some l) xs).mem (by rw [List.getD_eq_getElem?_getD, List.getElem?_eq_getElem (show k < _ by omega)]; exact List.getElem_mem _)
            have := hx.1 _ hm
            omega
          · exact i2 k hk y hy hlt
end K_k44
end
section
set_option Elab.async false
set_option linter.all false
set_option maxRecDepth 100000
set_option maxHeartbeats 4000000
open QL
local macro_rules | `(tactic| walk_at "ev") => `(tactic| simp only [QL.optP_some, QL.optP_none, QL.optP_ite, ↓QL.wp_some, ↓QL.wp_none, ↓QL.wp_mr, ↓QL.wp_ml, ↓QL.wp_mb, QL.LIM_eq, QL.strip_int', QL.strip_bl, QL.strip_str', QL.strip_non, QL.strip_hd, QL.strip_lst, QL.strip_tup, QL.strip_brw, QL.plain_int, QL.plain_bl, QL.plain_str, QL.plain_non, QL.plain_hd, QL.plain_lst, QL.plain_tup, QL.plain_brw, QL.plO_eq, QL.scal0_int, QL.scal0_bl, QL.scal0_non, QL.addD_int, QL.subD_int, QL.mulD_int, QL.small64_eq, QL.fdivD_int, QL.modD_int, QL.negD_int, QL.ltD_int, QL.leD_int, QL.gtD_int, QL.geD_int, QL.isND_non, QL.isND_int, QL.isND_bl, QL.isND_str, QL.isND_tup, QL.isND_lst, QL.str2_str, QL.eqO_str, QL.eqO_int, QL.eqO_bl, QL.idxD_lst, QL.idxD_tup, QL.idxD_brw, QL.atI_zero, QL.atI_one, QL.atI_two, QL.atI_three, QL.atI_four, QL.atI_five, QL.addD_tup, QL.truD_bl, QL.truD_int, QL.truD_non, QL.truD_lst, QL.truD_tup, QL.rds_val, QL.rds_own, QL.rds_non, QL.rds_deep, ↓QL.wp_dVar, ↓QL.wp_dC, ↓QL.wp_dOp, ↓QL.wp_dU, ↓QL.wp_dNil, ↓QL.wp_dCons, ↓QL.wp_dTup, ↓QL.wp_dPl, ↓QL.wp_dFz, QL.blO_bl, ↓QL.wp_dTst, ↓QL.wp_dTru, ↓QL.wp_dAnd, ↓QL.wp_dOr, ↓QL.wp_dNot, ↓QL.wp_dAndV, ↓QL.wp_dOrV, ↓QL.wp_dNotV, ↓QL.wp_dIf, ↓QL.wp_dChn, ↓QL.wp_dCall, ↓QL.wp_dCallR, ↓QL.wp_dB, ↓QL.wp_dBN, QL.lenD_lst, QL.lenD_tup, QL.lenD_brw, QL.absD_int, QL.intD_int, QL.intD_bl, QL.max2D_int, QL.min2D_int, QL.lst1_lst, QL.lst1_brw, QL.listD_lst, QL.listD_tup, QL.listD_brw, ↓QL.wp_dIS, QL.seqO_lst, QL.seqO_tup, ↓QL.wp_dIR, QL.optP_rng1, QL.optP_rng2, QL.enuD_lst, QL.zipD_lst, ↓QL.wp_dNoP, QL.intO_int, ↓QL.wp_dPrt, QL.optP_lrg, ↓QL.wp_dLrg1, QL.sortD_lst, QL.sortD_brw, QL.slA_lst, QL.slA_brw, QL.slA_tup, ↓QL.wp_dSlA, QL.slO_lst, QL.slO_brw, ↓QL.wp_dSl, QL.seqP_nx, QL.seqP_rt, QL.seqP_bk, QL.seqP_ct, ↓QL.wp_dSeq, ↓QL.wp_dNx, ↓QL.wp_dPass, ↓QL.wp_dBrk, ↓QL.wp_dCnt, ↓QL.wp_dRetN, ↓QL.wp_dRet, ↓QL.wp_dExpr, ↓QL.wp_dIfS, ↓QL.wp_dAsg, QL.gN_eq, QL.gNil_nil, QL.gCons_cons, QL.gTp_tup, ↓QL.wp_dSetO, ↓QL.wp_dSetF, ↓QL.wp_dParNN, ↓QL.wp_dParNE, ↓QL.wp_dParEN, QL.parO_two, ↓QL.wp_dPar, QL.ownS_own, ↓QL.wp_dApp, ↓QL.wp_dStI, ↓QL.wp_dExt, QL.lstO_lst, ↓QL.wp_dFrz, QL.frzS_own, QL.frzS_val, QL.frzS_non, QL.frz_zero, QL.frz_succ, ↓QL.wp_dNEN, ↓QL.wp_dEEN, ↓QL.wp_dENE, ↓QL.wp_dCat, QL.catO_ll, QL.catO_bl, QL.catO_lb, QL.catO_bb, ↓QL.wp_dFor, ↓QL.wp_lcl_nil, ↓QL.wp_lcl_cons, QL.rngL_length, QL.rE_zero, ↓QL.wp_dLc, QL.notOwn_val, QL.notOwn_non, QL.notOwn_own, QL.notOwn_deep, QL.notOwn_jk, ↓QL.wp_lc1, ↓QL.wp_dYes, QL.fit_int, QL.fit_bl, QL.fit_non, QL.fit_lst, QL.fit_tup, QL.ex_and_eq, ↓QL.wp_dIdx, ↓QL.wp_dRev, QL.revO_lst, QL.revO_brw, QL.tupleD_lst, QL.tupleD_brw, QL.tupleD_tup, QL.sortSetD_lst, QL.sortG_brw, QL.maxG_brw, QL.minG_brw, QL.ltV_int, QL.leV_int, QL.gtV_int, QL.geV_int, QL.okE_int, QL.okE_non, QL.okE_lst, QL.okE_tup, QL.eqO_brwR, QL.eqO_brwL, ↓QL.wp_forl_nil, ↓QL.wp_forl_cons, QL.forP_nx, QL.forP_ct, QL.forP_bk, QL.forP_rt, QL.eqO_non_int, QL.eqO_int_non, QL.eqO_non_non, QL.eqO_non_tup, QL.eqO_tup_non, QL.startE, List.map_cons, List.map_nil, List.isEmpty_cons, List.isEmpty_nil, List.append_nil, List.nil_append, List.cons_append, List.length_cons, List.length_nil, Nat.reduceAdd, Nat.reduceSub, Nat.reduceLeDiff, Nat.reduceLT, Nat.reduceMul, Nat.reduceEqDiff, List.replicate_succ, List.replicate_zero, List.getElem?_cons_zero, List.getElem?_cons_succ, List.set_cons_zero, List.set_cons_succ, Option.bind_some, Option.bind_none, Option.some.injEq, QL.D.bl.injEq, QL.D.int.injEq, QL.D.str.injEq, QL.D.lst.injEq, QL.D.tup.injEq, QL.Out.nx.injEq, QL.Out.rt.injEq, QL.Slot.val.injEq, QL.Slot.own.injEq, List.cons.injEq, exists_eq_left, exists_eq_left', exists_eq_right, exists_eq_right', exists_eq, exists_eq', exists_and_left, exists_and_right, decide_eq_true_eq, decide_eq_false_iff_not, Bool.not_true, Bool.not_false, Bool.false_xor, Bool.true_xor, Bool.xor_true, Bool.xor_false, Bool.and_true, Bool.true_and, Bool.and_self, Bool.or_true, Bool.true_or, Bool.or_self, Bool.or_false, Bool.false_or, List.all_cons, List.all_nil, true_and, and_true, and_self, true_or, or_true, if_true, if_false, Bool.not_eq_true', not_false_eq_true, not_true_eq_false, Bool.false_eq_true, Bool.true_eq_false, reduceCtorEq, and_false, false_and, QL.ex_ite, QL.wipeE, QL.noOwn_eq, Option.toList, Int.reduceNeg, Int.reduceToNat, Int.reduceLT, Int.reduceLE, Int.reduceSub, Int.reduceAdd, Int.reduceMul, Int.toNat_zero, Int.cast_ofNat_Int, Int.reduceEq, ite_self, Option.ite_none_right_eq_some])
local macro_rules | `(tactic| walk_at "e") => `(tactic| try simp only [QL.optP_some, QL.optP_none, QL.optP_ite, ↓QL.wp_some, ↓QL.wp_none, ↓QL.wp_mr, ↓QL.wp_ml, ↓QL.wp_mb, QL.LIM_eq, QL.strip_int', QL.strip_bl, QL.strip_str', QL.strip_non, QL.strip_hd, QL.strip_lst, QL.strip_tup, QL.strip_brw, QL.plain_int, QL.plain_bl, QL.plain_str, QL.plain_non, QL.plain_hd, QL.plain_lst, QL.plain_tup, QL.plain_brw, QL.plO_eq, QL.scal0_int, QL.scal0_bl, QL.scal0_non, QL.addD_int, QL.subD_int, QL.mulD_int, QL.small64_eq, QL.fdivD_int, QL.modD_int, QL.negD_int, QL.ltD_int, QL.leD_int, QL.gtD_int, QL.geD_int, QL.isND_non, QL.isND_int, QL.isND_bl, QL.isND_str, QL.isND_tup, QL.isND_lst, QL.str2_str, QL.eqO_str, QL.eqO_int, QL.eqO_bl, QL.idxD_lst, QL.idxD_tup, QL.idxD_brw, QL.atI_zero, QL.atI_one, QL.atI_two, QL.atI_three, QL.atI_four, QL.atI_five, QL.addD_tup, QL.truD_bl, QL.truD_int, QL.truD_non, QL.truD_lst, QL.truD_tup, QL.rds_val, QL.rds_own, QL.rds_non, QL.rds_deep, ↓QL.wp_dVar, ↓QL.wp_dC, ↓QL.wp_dOp, ↓QL.wp_dU, ↓QL.wp_dNil, ↓QL.wp_dCons, ↓QL.wp_dTup, ↓QL.wp_dPl, ↓QL.wp_dFz, QL.blO_bl, ↓QL.wp_dTst, ↓QL.wp_dTru, ↓QL.wp_dAnd, ↓QL.wp_dOr, ↓QL.wp_dNot, ↓QL.wp_dAndV, ↓QL.wp_dOrV, ↓QL.wp_dNotV, ↓QL.wp_dIf, ↓QL.wp_dChn, ↓QL.wp_dCall, ↓QL.wp_dCallR, ↓QL.wp_dB, ↓QL.wp_dBN, QL.lenD_lst, QL.lenD_tup, QL.lenD_brw, QL.absD_int, QL.intD_int, QL.intD_bl, QL.max2D_int, QL.min2D_int, QL.lst1_lst, QL.lst1_brw, QL.listD_lst, QL.listD_tup, QL.listD_brw, ↓QL.wp_dIS, QL.seqO_lst, QL.seqO_tup, ↓QL.wp_dIR, QL.optP_rng1, QL.optP_rng2, QL.enuD_lst, QL.zipD_lst, ↓QL.wp_dNoP, QL.intO_int, ↓QL.wp_dPrt, QL.optP_lrg, ↓QL.wp_dLrg1, QL.sortD_lst, QL.sortD_brw, QL.slA_lst, QL.slA_brw, QL.slA_tup, ↓QL.wp_dSlA, QL.slO_lst, QL.slO_brw, ↓QL.wp_dSl, QL.seqP_nx, QL.seqP_rt, QL.seqP_bk, QL.seqP_ct, ↓QL.wp_dSeq, ↓QL.wp_dNx, ↓QL.wp_dPass, ↓QL.wp_dBrk, ↓QL.wp_dCnt, ↓QL.wp_dRetN, ↓QL.wp_dRet, ↓QL.wp_dExpr, ↓QL.wp_dIfS, ↓QL.wp_dAsg, QL.gN_eq, QL.gNil_nil, QL.gCons_cons, QL.gTp_tup, ↓QL.wp_dSetO, ↓QL.wp_dSetF, ↓QL.wp_dParNN, ↓QL.wp_dParNE, ↓QL.wp_dParEN, QL.parO_two, ↓QL.wp_dPar, QL.ownS_own, ↓QL.wp_dApp, ↓QL.wp_dStI, ↓QL.wp_dExt, QL.lstO_lst, ↓QL.wp_dFrz, QL.frzS_own, QL.frzS_val, QL.frzS_non, QL.frz_zero, QL.frz_succ, ↓QL.wp_dNEN, ↓QL.wp_dEEN, ↓QL.wp_dENE, ↓QL.wp_dCat, QL.catO_ll, QL.catO_bl, QL.catO_lb, QL.catO_bb, ↓QL.wp_dFor, ↓QL.wp_lcl_nil, ↓QL.wp_lcl_cons, QL.rngL_length, QL.rE_zero, ↓QL.wp_dLc, QL.notOwn_val, QL.notOwn_non, QL.notOwn_own, QL.notOwn_deep, QL.notOwn_jk, ↓QL.wp_lc1, ↓QL.wp_dYes, QL.fit_int, QL.fit_bl, QL.fit_non, QL.fit_lst, QL.fit_tup, QL.ex_and_eq, ↓QL.wp_dIdx, ↓QL.wp_dRev, QL.revO_lst, QL.revO_brw, QL.tupleD_lst, QL.tupleD_brw, QL.tupleD_tup, QL.sortSetD_lst, QL.sortG_brw, QL.maxG_brw, QL.minG_brw, QL.ltV_int, QL.leV_int, QL.gtV_int, QL.geV_int, QL.okE_int, QL.okE_non, QL.okE_lst, QL.okE_tup, QL.eqO_brwR, QL.eqO_brwL, ↓QL.wp_forl_nil, ↓QL.wp_forl_cons, QL.forP_nx, QL.forP_ct, QL.forP_bk, QL.forP_rt, QL.eqO_non_int, QL.eqO_int_non, QL.eqO_non_non, QL.eqO_non_tup, QL.eqO_tup_non, QL.startE, List.map_cons, List.map_nil, List.isEmpty_cons, List.isEmpty_nil, List.append_nil, List.nil_append, List.cons_append, List.length_cons, List.length_nil, Nat.reduceAdd, Nat.reduceSub, Nat.reduceLeDiff, Nat.reduceLT, Nat.reduceMul, Nat.reduceEqDiff, List.replicate_succ, List.replicate_zero, List.getElem?_cons_zero, List.getElem?_cons_succ, List.set_cons_zero, List.set_cons_succ, Option.bind_some, Option.bind_none, Option.some.injEq, QL.D.bl.injEq, QL.D.int.injEq, QL.D.str.injEq, QL.D.lst.injEq, QL.D.tup.injEq, QL.Out.nx.injEq, QL.Out.rt.injEq, QL.Slot.val.injEq, QL.Slot.own.injEq, List.cons.injEq, exists_eq_left, exists_eq_left', exists_eq_right, exists_eq_right', exists_eq, exists_eq', exists_and_left, exists_and_right, decide_eq_true_eq, decide_eq_false_iff_not, Bool.not_true, Bool.not_false, Bool.false_xor, Bool.true_xor, Bool.xor_true, Bool.xor_false, Bool.and_true, Bool.true_and, Bool.and_self, Bool.or_true, Bool.true_or, Bool.or_self, Bool.or_false, Bool.false_or, List.all_cons, List.all_nil, true_and, and_true, and_self, true_or, or_true, if_true, if_false, Bool.not_eq_true', not_false_eq_true, not_true_eq_false, Bool.false_eq_true, Bool.true_eq_false, reduceCtorEq, and_false, false_and, QL.ex_ite, QL.wipeE, QL.noOwn_eq, Option.toList, Int.reduceNeg, Int.reduceToNat, Int.reduceLT, Int.reduceLE, Int.reduceSub, Int.reduceAdd, Int.reduceMul, Int.toNat_zero, Int.cast_ofNat_Int, Int.reduceEq, ite_self, Option.ite_none_right_eq_some])
namespace K_k44
local macro_rules | `(tactic| walk_at "ev") => `(tactic| simp only [QL.optP_some, QL.optP_none, QL.optP_ite, ↓QL.wp_some, ↓QL.wp_none, ↓QL.wp_mr, ↓QL.wp_ml, ↓QL.wp_mb, QL.LIM_eq, QL.strip_int', QL.strip_bl, QL.strip_str', QL.strip_non, QL.strip_hd, QL.strip_lst, QL.strip_tup, QL.strip_brw, QL.plain_int, QL.plain_bl, QL.plain_str, QL.plain_non, QL.plain_hd, QL.plain_lst, QL.plain_tup, QL.plain_brw, QL.plO_eq, QL.scal0_int, QL.scal0_bl, QL.scal0_non, QL.addD_int, QL.subD_int, QL.mulD_int, QL.small64_eq, QL.fdivD_int, QL.modD_int, QL.negD_int, QL.ltD_int, QL.leD_int, QL.gtD_int, QL.geD_int, QL.isND_non, QL.isND_int, QL.isND_bl, QL.isND_str, QL.isND_tup, QL.isND_lst, QL.str2_str, QL.eqO_str, QL.eqO_int, QL.eqO_bl, QL.idxD_lst, QL.idxD_tup, QL.idxD_brw, QL.atI_zero, QL.atI_one, QL.atI_two, QL.atI_three, QL.atI_four, QL.atI_five, QL.addD_tup, QL.truD_bl, QL.truD_int, QL.truD_non, QL.truD_lst, QL.truD_tup, QL.rds_val, QL.rds_own, QL.rds_non, QL.rds_deep, ↓QL.wp_dVar, ↓QL.wp_dC, ↓QL.wp_dOp, ↓QL.wp_dU, ↓QL.wp_dNil, ↓QL.wp_dCons, ↓QL.wp_dTup, ↓QL.wp_dPl, ↓QL.wp_dFz, QL.blO_bl, ↓QL.wp_dTst, ↓QL.wp_dTru, ↓QL.wp_dAnd, ↓QL.wp_dOr, ↓QL.wp_dNot, ↓QL.wp_dAndV, ↓QL.wp_dOrV, ↓QL.wp_dNotV, ↓QL.wp_dIf, ↓QL.wp_dChn, ↓QL.wp_dCall, ↓QL.wp_dCallR, ↓QL.wp_dB, ↓QL.wp_dBN, QL.lenD_lst, QL.lenD_tup, QL.lenD_brw, QL.absD_int, QL.intD_int, QL.intD_bl, QL.max2D_int, QL.min2D_int, QL.lst1_lst, QL.lst1_brw, QL.listD_lst, QL.listD_tup, QL.listD_brw, ↓QL.wp_dIS, QL.seqO_lst, QL.seqO_tup, ↓QL.wp_dIR, QL.optP_rng1, QL.optP_rng2, QL.enuD_lst, QL.zipD_lst, ↓QL.wp_dNoP, QL.intO_int, ↓QL.wp_dPrt, QL.optP_lrg, ↓QL.wp_dLrg1, QL.sortD_lst, QL.sortD_brw, QL.slA_lst, QL.slA_brw, QL.slA_tup, ↓QL.wp_dSlA, QL.slO_lst, QL.slO_brw, ↓QL.wp_dSl, QL.seqP_nx, QL.seqP_rt, QL.seqP_bk, QL.seqP_ct, ↓QL.wp_dSeq, ↓QL.wp_dNx, ↓QL.wp_dPass, ↓QL.wp_dBrk, ↓QL.wp_dCnt, ↓QL.wp_dRetN, ↓QL.wp_dRet, ↓QL.wp_dExpr, ↓QL.wp_dIfS, ↓QL.wp_dAsg, QL.gN_eq, QL.gNil_nil, QL.gCons_cons, QL.gTp_tup, ↓QL.wp_dSetO, ↓QL.wp_dSetF, ↓QL.wp_dParNN, ↓QL.wp_dParNE, ↓QL.wp_dParEN, QL.parO_two, ↓QL.wp_dPar, QL.ownS_own, ↓QL.wp_dApp, ↓QL.wp_dStI, ↓QL.wp_dExt, QL.lstO_lst, ↓QL.wp_dFrz, QL.frzS_own, QL.frzS_val, QL.frzS_non, QL.frz_zero, QL.frz_succ, ↓QL.wp_dNEN, ↓QL.wp_dEEN, ↓QL.wp_dENE, ↓QL.wp_dCat, QL.catO_ll, QL.catO_bl, QL.catO_lb, QL.catO_bb, ↓QL.wp_dFor, ↓QL.wp_lcl_nil, ↓QL.wp_lcl_cons, QL.rngL_length, QL.rE_zero, ↓QL.wp_dLc, QL.notOwn_val, QL.notOwn_non, QL.notOwn_own, QL.notOwn_deep, QL.notOwn_jk, ↓QL.wp_lc1, ↓QL.wp_dYes, QL.fit_int, QL.fit_bl, QL.fit_non, QL.fit_lst, QL.fit_tup, QL.ex_and_eq, ↓QL.wp_dIdx, ↓QL.wp_dRev, QL.revO_lst, QL.revO_brw, QL.tupleD_lst, QL.tupleD_brw, QL.tupleD_tup, QL.sortSetD_lst, QL.sortG_brw, QL.maxG_brw, QL.minG_brw, QL.ltV_int, QL.leV_int, QL.gtV_int, QL.geV_int, QL.okE_int, QL.okE_non, QL.okE_lst, QL.okE_tup, QL.eqO_brwR, QL.eqO_brwL, ↓QL.wp_forl_nil, ↓QL.wp_forl_cons, QL.forP_nx, QL.forP_ct, QL.forP_bk, QL.forP_rt, QL.eqO_non_int, QL.eqO_int_non, QL.eqO_non_non, QL.eqO_non_tup, QL.eqO_tup_non, sumD_eq, encN_eq, QL.startE, List.map_cons, List.map_nil, List.isEmpty_cons, List.isEmpty_nil, List.append_nil, List.nil_append, List.cons_append, List.length_cons, List.length_nil, Nat.reduceAdd, Nat.reduceSub, Nat.reduceLeDiff, Nat.reduceLT, Nat.reduceMul, Nat.reduceEqDiff, List.replicate_succ, List.replicate_zero, List.getElem?_cons_zero, List.getElem?_cons_succ, List.set_cons_zero, List.set_cons_succ, Option.bind_some, Option.bind_none, Option.some.injEq, QL.D.bl.injEq, QL.D.int.injEq, QL.D.str.injEq, QL.D.lst.injEq, QL.D.tup.injEq, QL.Out.nx.injEq, QL.Out.rt.injEq, QL.Slot.val.injEq, QL.Slot.own.injEq, List.cons.injEq, exists_eq_left, exists_eq_left', exists_eq_right, exists_eq_right', exists_eq, exists_eq', exists_and_left, exists_and_right, decide_eq_true_eq, decide_eq_false_iff_not, Bool.not_true, Bool.not_false, Bool.false_xor, Bool.true_xor, Bool.xor_true, Bool.xor_false, Bool.and_true, Bool.true_and, Bool.and_self, Bool.or_true, Bool.true_or, Bool.or_self, Bool.or_false, Bool.false_or, List.all_cons, List.all_nil, true_and, and_true, and_self, true_or, or_true, if_true, if_false, Bool.not_eq_true', not_false_eq_true, not_true_eq_false, Bool.false_eq_true, Bool.true_eq_false, reduceCtorEq, and_false, false_and, QL.ex_ite, QL.wipeE, QL.noOwn_eq, Option.toList, Int.reduceNeg, Int.reduceToNat, Int.reduceLT, Int.reduceLE, Int.reduceSub, Int.reduceAdd, Int.reduceMul, Int.toNat_zero, Int.cast_ofNat_Int, Int.reduceEq, ite_self, Option.ite_none_right_eq_some])
local macro_rules | `(tactic| walk_at "e") => `(tactic| try simp only [QL.optP_some, QL.optP_none, QL.optP_ite, ↓QL.wp_some, ↓QL.wp_none, ↓QL.wp_mr, ↓QL.wp_ml, ↓QL.wp_mb, QL.LIM_eq, QL.strip_int', QL.strip_bl, QL.strip_str', QL.strip_non, QL.strip_hd, QL.strip_lst, QL.strip_tup, QL.strip_brw, QL.plain_int, QL.plain_bl, QL.plain_str, QL.plain_non, QL.plain_hd, QL.plain_lst, QL.plain_tup, QL.plain_brw, QL.plO_eq, QL.scal0_int, QL.scal0_bl, QL.scal0_non, QL.addD_int, QL.subD_int, QL.mulD_int, QL.small64_eq, QL.fdivD_int, QL.modD_int, QL.negD_int, QL.ltD_int, QL.leD_int, QL.gtD_int, QL.geD_int, QL.isND_non, QL.isND_int, QL.isND_bl, QL.isND_str, QL.isND_tup, QL.isND_lst, QL.str2_str, QL.eqO_str, QL.eqO_int, QL.eqO_bl, QL.idxD_lst, QL.idxD_tup, QL.idxD_brw, QL.atI_zero, QL.atI_one, QL.atI_two, QL.atI_three, QL.atI_four, QL.atI_five, QL.addD_tup, QL.truD_bl, QL.truD_int, QL.truD_non, QL.truD_lst, QL.truD_tup, QL.rds_val, QL.rds_own, QL.rds_non, QL.rds_deep, ↓QL.wp_dVar, ↓QL.wp_dC, ↓QL.wp_dOp, ↓QL.wp_dU, ↓QL.wp_dNil, ↓QL.wp_dCons, ↓QL.wp_dTup, ↓QL.wp_dPl, ↓QL.wp_dFz, QL.blO_bl, ↓QL.wp_dTst, ↓QL.wp_dTru, ↓QL.wp_dAnd, ↓QL.wp_dOr, ↓QL.wp_dNot, ↓QL.wp_dAndV, ↓QL.wp_dOrV, ↓QL.wp_dNotV, ↓QL.wp_dIf, ↓QL.wp_dChn, ↓QL.wp_dCall, ↓QL.wp_dCallR, ↓QL.wp_dB, ↓QL.wp_dBN, QL.lenD_lst, QL.lenD_tup, QL.lenD_brw, QL.absD_int, QL.intD_int, QL.intD_bl, QL.max2D_int, QL.min2D_int, QL.lst1_lst, QL.lst1_brw, QL.listD_lst, QL.listD_tup, QL.listD_brw, ↓QL.wp_dIS, QL.seqO_lst, QL.seqO_tup, ↓QL.wp_dIR, QL.optP_rng1, QL.optP_rng2, QL.enuD_lst, QL.zipD_lst, ↓QL.wp_dNoP, QL.intO_int, ↓QL.wp_dPrt, QL.optP_lrg, ↓QL.wp_dLrg1, QL.sortD_lst, QL.sortD_brw, QL.slA_lst, QL.slA_brw, QL.slA_tup, ↓QL.wp_dSlA, QL.slO_lst, QL.slO_brw, ↓QL.wp_dSl, QL.seqP_nx, QL.seqP_rt, QL.seqP_bk, QL.seqP_ct, ↓QL.wp_dSeq, ↓QL.wp_dNx, ↓QL.wp_dPass, ↓QL.wp_dBrk, ↓QL.wp_dCnt, ↓QL.wp_dRetN, ↓QL.wp_dRet, ↓QL.wp_dExpr, ↓QL.wp_dIfS, ↓QL.wp_dAsg, QL.gN_eq, QL.gNil_nil, QL.gCons_cons, QL.gTp_tup, ↓QL.wp_dSetO, ↓QL.wp_dSetF, ↓QL.wp_dParNN, ↓QL.wp_dParNE, ↓QL.wp_dParEN, QL.parO_two, ↓QL.wp_dPar, QL.ownS_own, ↓QL.wp_dApp, ↓QL.wp_dStI, ↓QL.wp_dExt, QL.lstO_lst, ↓QL.wp_dFrz, QL.frzS_own, QL.frzS_val, QL.frzS_non, QL.frz_zero, QL.frz_succ, ↓QL.wp_dNEN, ↓QL.wp_dEEN, ↓QL.wp_dENE, ↓QL.wp_dCat, QL.catO_ll, QL.catO_bl, QL.catO_lb, QL.catO_bb, ↓QL.wp_dFor, ↓QL.wp_lcl_nil, ↓QL.wp_lcl_cons, QL.rngL_length, QL.rE_zero, ↓QL.wp_dLc, QL.notOwn_val, QL.notOwn_non, QL.notOwn_own, QL.notOwn_deep, QL.notOwn_jk, ↓QL.wp_lc1, ↓QL.wp_dYes, QL.fit_int, QL.fit_bl, QL.fit_non, QL.fit_lst, QL.fit_tup, QL.ex_and_eq, ↓QL.wp_dIdx, ↓QL.wp_dRev, QL.revO_lst, QL.revO_brw, QL.tupleD_lst, QL.tupleD_brw, QL.tupleD_tup, QL.sortSetD_lst, QL.sortG_brw, QL.maxG_brw, QL.minG_brw, QL.ltV_int, QL.leV_int, QL.gtV_int, QL.geV_int, QL.okE_int, QL.okE_non, QL.okE_lst, QL.okE_tup, QL.eqO_brwR, QL.eqO_brwL, ↓QL.wp_forl_nil, ↓QL.wp_forl_cons, QL.forP_nx, QL.forP_ct, QL.forP_bk, QL.forP_rt, QL.eqO_non_int, QL.eqO_int_non, QL.eqO_non_non, QL.eqO_non_tup, QL.eqO_tup_non, sumD_eq, encN_eq, QL.startE, List.map_cons, List.map_nil, List.isEmpty_cons, List.isEmpty_nil, List.append_nil, List.nil_append, List.cons_append, List.length_cons, List.length_nil, Nat.reduceAdd, Nat.reduceSub, Nat.reduceLeDiff, Nat.reduceLT, Nat.reduceMul, Nat.reduceEqDiff, List.replicate_succ, List.replicate_zero, List.getElem?_cons_zero, List.getElem?_cons_succ, List.set_cons_zero, List.set_cons_succ, Option.bind_some, Option.bind_none, Option.some.injEq, QL.D.bl.injEq, QL.D.int.injEq, QL.D.str.injEq, QL.D.lst.injEq, QL.D.tup.injEq, QL.Out.nx.injEq, QL.Out.rt.injEq, QL.Slot.val.injEq, QL.Slot.own.injEq, List.cons.injEq, exists_eq_left, exists_eq_left', exists_eq_right, exists_eq_right', exists_eq, exists_eq', exists_and_left, exists_and_right, decide_eq_true_eq, decide_eq_false_iff_not, Bool.not_true, Bool.not_false, Bool.false_xor, Bool.true_xor, Bool.xor_true, Bool.xor_false, Bool.and_true, Bool.true_and, Bool.and_self, Bool.or_true, Bool.true_or, Bool.or_self, Bool.or_false, Bool.false_or, List.all_cons, List.all_nil, true_and, and_true, and_self, true_or, or_true, if_true, if_false, Bool.not_eq_true', not_false_eq_true, not_true_eq_false, Bool.false_eq_true, Bool.true_eq_false, reduceCtorEq, and_false, false_and, QL.ex_ite, QL.wipeE, QL.noOwn_eq, Option.toList, Int.reduceNeg, Int.reduceToNat, Int.reduceLT, Int.reduceLE, Int.reduceSub, Int.reduceAdd, Int.reduceMul, Int.toNat_zero, Int.cast_ofNat_Int, Int.reduceEq, ite_self, Option.ite_none_right_eq_some])
theorem far_next {e : Int} (he : 0 ≤ e) (L : List Int) {k : Nat} (hk : k + 1 < (days e L).length) : minG [.lst ((L.filter fun x => decide (x > (days e L).getD k 0 + e)).map .int)] = some (.int ((days e L).getD (k + 1) 0)) := by
  have h1 := days_far he L
  have g1 : (days e L).getD k 0 = (days e L)[k] := by rw [List.getD_eq_getElem?_getD, List.getElem?_eq_getElem (by omega)]; rfl
  have g2 : (days e L).getD (k + 1) 0 = (days e L)[k + 1] := by rw [List.getD_eq_getElem?_getD, List.getElem?_eq_getElem (by omega)]; rfl
  have h2 := List.pairwise_iff_getElem.mp h1 k (k + 1) (by omega) hk (by omega)
  have hm : (days e L).getD (k + 1) 0 ∈ L.filter fun x => decide (x > (days e L).getD k 0 + e) := List.mem_filter.mpr ⟨days_mem (by rw [g2]; exact List.getElem_mem _), decide_eq_true (by omega)⟩
  obtain ⟨m, em, h3, h4⟩ := minG_spec (List.ne_nil_of_mem hm)
  rw [em]
  have h5 := h4 _ hm
  obtain ⟨h6, h7⟩ := List.mem_filter.mp h3
  have h8 := (gd_next he (sortI L) none (sortI_sorted L)).2 k hk m ((sortI_perm L).mem_iff.mpr h6) (by have := of_decide_eq_true h7; show (days e L).getD k 0 + e < m; omega)
  have h8 : (days e L).getD (k + 1) 0 ≤ m := h8
  rw [show m = (days e L).getD (k + 1) 0 by omega]
theorem law_r10 {L : List Int} (o : okL L) {e : Int} (he : 0 ≤ e) {z : PySem.Str} (hz : reprA [eI L] = some (.str z)) {j2 j3 j4 j5 j6 j7 j8 j9 j10 j14 j15 j16 j17 j19 j20 j22 j23 j24 : Slot} {j18 j25 j26 : Option D} (s : S3) : Wp (d_law_r10 [.val (.hd 1), .val (.hd 0), j2, j3, j4, j5, j6, j7, j8, j9, j10, .val (eI L), .val (.int e), .val (.str z), j14, j15, j16, j17, jk j18, j19, j20, .val (eI (days e L)), j22, j23, j24, jk j25, jk j26] s) fun o _ => o = .rt (.bl true) := by
  have hn := o.n
  have hd : (days e L).length ≤ 7 := by
    have := (gd_sub e none (sortI L)).length_le
    have := (sortI_perm L).length_eq
    show (gd e none (sortI L)).length ≤ 7
    omega
  unfold d_law_r10
  walk_at "e"
  refine ⟨⟨rngOk_of (by decide) (by decide), rngOk_nat (by rw [List.length_map]; omega)⟩, ?_⟩
  rw [rngL_eq, List.length_map, show ((((days e L).length : Nat) : Int) - 1).toNat = (days e L).length - 1 by omega]
  refine forl_find (J := Option D × Slot) (rE 1) (fun j => (fun (j18 : Option D) (j22 : Slot) => [.val (.hd 1), .val (.hd 0), j2, j3, j4, j5, j6, j7, j8, j9, j10, .val (eI L), .val (.int e), .val (.str z), j14, j15, j16, j17, jk j18, j19, j20, .val (eI (days e L)), j22, j23, j24, jk j25, jk j26]) j.1 j.2) (fun _ => false) (fun _ => .non) (List.range ((days e L).length - 1)) (j18, j22) s (fun k hk j => ?_) (fun p z => ?_) (fun _ j => ?_)
  · have hk := List.mem_range.mp hk
    have e1 : (1 : Int) + (k : Nat) = ((k + 1 : Nat) : Int) := by omega
    rw [show rE 1 k = .int ((k + 1 : Nat) : Int) from by unfold rE; rw [e1]]
    walk_at "e"
    unfold d_law_b4
    walk_at "e"
    refine opt_at (getD_int (show k + 1 < (days e L).length by omega)) ?_
    walk_at "e"
    refine ⟨by rw [List.length_map]; omega, ?_⟩
    refine lcl_filter D.int (fun x => decide (x > (days e L).getD k 0 + e)) D.int L (fun x _ s => ?_) ?_
    · walk_at "e"
      rw [show (((k + 1 : Nat) : Int) - 1) = ((k : Nat) : Int) by omega]
      refine opt_at (getD_int (show k < (days e L).length by omega)) ?_
      walk_at "e"
      split <;> simp_all
    · rw [far_next he L (by omega)]
      walk_at "e"
      exact ff_nx (j.1, .val (.int ((k + 1 : Nat) : Int))) (by decide) rfl
  · have := List.find?_some z; cases this
  · walk_at "e"
    exact law_r9 o hz s
theorem repr_serv : ∀ k : Nat, k < 8 → reprB (.tup [.str "service", .int (k : Nat)]) = true := by decide +kernel
theorem repr_fault {L : List Int} (o : okL L) (e : Int) (ds rs : List Int) : ∃ z, reprA [faultD L e ds rs] = some (.str z) := by
  unfold faultD
  split
  · exact ⟨_, reprA_of (by decide +kernel) rfl⟩
  · cases h : (List.range L.length).find? (badK L e ds rs) with
    | some k =>
      have hk := List.mem_range.mp (List.mem_of_find?_eq_some h)
      have := o.n
      exact ⟨_, reprA_of (repr_serv k (by omega)) rfl⟩
    | none =>
      dsimp only
      split
      · exact ⟨_, reprA_non⟩
      · exact ⟨_, reprA_of (by decide +kernel) rfl⟩
theorem cut1 (xs : List Int) : cutD (xs.map D.int) none (some 1) = (xs.take 1).map D.int := by rw [List.map_take]; exact cutD_to _ 1
theorem days_head (e : Int) (L : List Int) : (days e L).take 1 = (sortI L).take 1 := by
  unfold days
  cases sortI L with
  | nil => simp [gd]
  | cons x xs => simp [gd]
theorem law_r13 {L : List Int} (o : okL L) {e : Int} (he : 0 ≤ e) {z : PySem.Str} (hz : reprA [eI L] = some (.str z)) {P : List (List Int × List Int)} (hP : P.length ≤ 7) (hp : ∀ p ∈ P, p.1.length ≤ 50 ∧ p.2.length ≤ 50) {j2 j3 j4 j5 j6 j7 j8 j9 j10 j14 j16 j17 j20 j21 j22 j23 j24 : Slot} {j18 j25 j26 : Option D} (s : S3) : Wp (d_law_r13 [.val (.hd 1), .val (.hd 0), j2, j3, j4, j5, j6, j7, j8, j9, j10, .val (eI L), .val (.int e), .val (.str z), j14, .val (.int ((days e L).length : Nat)), j16, j17, jk j18, .val (.lst (P.map fun p => .tup [eI p.1, eI p.2])), j20, j21, j22, j23, j24, jk j25, jk j26] s) fun o _ => o = .rt (.bl true) := by
  have hn := o.n
  unfold d_law_r13
  walk_at "e"
  refine forl_find (J := Slot) (fun (p : List Int × List Int) => D.tup [eI p.1, eI p.2]) (fun j20 => [.val (.hd 1), .val (.hd 0), j2, j3, j4, j5, j6, j7, j8, j9, j10, .val (eI L), .val (.int e), .val (.str z), j14, .val (.int ((days e L).length : Nat)), j16, j17, jk j18, .val (.lst (P.map fun p => .tup [eI p.1, eI p.2])), j20, j21, j22, j23, j24, jk j25, jk j26]) (fun _ => false) (fun _ => .non) P j20 s (fun p hp' j => ?_) (fun p z => ?_) (fun _ j20 => ?_)
  · obtain ⟨p1, p2⟩ := hp p hp'
    walk_at "e"
    unfold d_law_b3
    walk_at "e"
    rw [fault_ev (by omega) p1 p2 he, tfault_ev (by omega) p1 p2 he]
    obtain ⟨y, hy⟩ := repr_fault o e p.1 p.2
    walk_at "e"
    rw [hy]
    walk_at "e"
    exact ff_nx _ (by decide) rfl
  · have := List.find?_some z; cases this
  · unfold d_law_r12
    walk_at "e"
    rw [far_ev (by omega)]
    walk_at "e"
    unfold d_law_r11
    walk_at "e"
    rw [sortG_ints]
    walk_at "e"
    have hd : (days e L).length ≤ 7 := by
      have := (gd_sub e none (sortI L)).length_le
      have := (sortI_perm L).length_eq
      show (gd e none (sortI L)).length ≤ 7
      omega
    rw [List.length_map, if_neg (by simp), cut1, cut1, days_head, eqO_ints]
    walk_at "e"
    refine ⟨by omega, ?_⟩
    refine lcl_filter D.int (fun _ => false) D.int (days e L) (fun x hx s => ?_) ?_
    · walk_at "e"
      rw [in_int, decide_eq_true (days_mem hx)]
      walk_at "e"
    · walk_at "e"
      rw [show (days e L).filter (fun _ => false) = [] from List.filter_eq_nil_iff.mpr fun _ _ z => by cases z]
      walk_at "e"
      exact law_r10 o he hz s
end K_k44
end
section
set_option Elab.async false
set_option linter.all false
set_option maxRecDepth 100000
set_option maxHeartbeats 4000000
open QL
local macro_rules | `(tactic| walk_at "ev") => `(tactic| simp only [QL.optP_some, QL.optP_none, QL.optP_ite, ↓QL.wp_some, ↓QL.wp_none, ↓QL.wp_mr, ↓QL.wp_ml, ↓QL.wp_mb, QL.LIM_eq, QL.strip_int', QL.strip_bl, QL.strip_str', QL.strip_non, QL.strip_hd, QL.strip_lst, QL.strip_tup, QL.strip_brw, QL.plain_int, QL.plain_bl, QL.plain_str, QL.plain_non, QL.plain_hd, QL.plain_lst, QL.plain_tup, QL.plain_brw, QL.plO_eq, QL.scal0_int, QL.scal0_bl, QL.scal0_non, QL.addD_int, QL.subD_int, QL.mulD_int, QL.small64_eq, QL.fdivD_int, QL.modD_int, QL.negD_int, QL.ltD_int, QL.leD_int, QL.gtD_int, QL.geD_int, QL.isND_non, QL.isND_int, QL.isND_bl, QL.isND_str, QL.isND_tup, QL.isND_lst, QL.str2_str, QL.eqO_str, QL.eqO_int, QL.eqO_bl, QL.idxD_lst, QL.idxD_tup, QL.idxD_brw, QL.atI_zero, QL.atI_one, QL.atI_two, QL.atI_three, QL.atI_four, QL.atI_five, QL.addD_tup, QL.truD_bl, QL.truD_int, QL.truD_non, QL.truD_lst, QL.truD_tup, QL.rds_val, QL.rds_own, QL.rds_non, QL.rds_deep, ↓QL.wp_dVar, ↓QL.wp_dC, ↓QL.wp_dOp, ↓QL.wp_dU, ↓QL.wp_dNil, ↓QL.wp_dCons, ↓QL.wp_dTup, ↓QL.wp_dPl, ↓QL.wp_dFz, QL.blO_bl, ↓QL.wp_dTst, ↓QL.wp_dTru, ↓QL.wp_dAnd, ↓QL.wp_dOr, ↓QL.wp_dNot, ↓QL.wp_dAndV, ↓QL.wp_dOrV, ↓QL.wp_dNotV, ↓QL.wp_dIf, ↓QL.wp_dChn, ↓QL.wp_dCall, ↓QL.wp_dCallR, ↓QL.wp_dB, ↓QL.wp_dBN, QL.lenD_lst, QL.lenD_tup, QL.lenD_brw, QL.absD_int, QL.intD_int, QL.intD_bl, QL.max2D_int, QL.min2D_int, QL.lst1_lst, QL.lst1_brw, QL.listD_lst, QL.listD_tup, QL.listD_brw, ↓QL.wp_dIS, QL.seqO_lst, QL.seqO_tup, ↓QL.wp_dIR, QL.optP_rng1, QL.optP_rng2, QL.enuD_lst, QL.zipD_lst, ↓QL.wp_dNoP, QL.intO_int, ↓QL.wp_dPrt, QL.optP_lrg, ↓QL.wp_dLrg1, QL.sortD_lst, QL.sortD_brw, QL.slA_lst, QL.slA_brw, QL.slA_tup, ↓QL.wp_dSlA, QL.slO_lst, QL.slO_brw, ↓QL.wp_dSl, QL.seqP_nx, QL.seqP_rt, QL.seqP_bk, QL.seqP_ct, ↓QL.wp_dSeq, ↓QL.wp_dNx, ↓QL.wp_dPass, ↓QL.wp_dBrk, ↓QL.wp_dCnt, ↓QL.wp_dRetN, ↓QL.wp_dRet, ↓QL.wp_dExpr, ↓QL.wp_dIfS, ↓QL.wp_dAsg, QL.gN_eq, QL.gNil_nil, QL.gCons_cons, QL.gTp_tup, ↓QL.wp_dSetO, ↓QL.wp_dSetF, ↓QL.wp_dParNN, ↓QL.wp_dParNE, ↓QL.wp_dParEN, QL.parO_two, ↓QL.wp_dPar, QL.ownS_own, ↓QL.wp_dApp, ↓QL.wp_dStI, ↓QL.wp_dExt, QL.lstO_lst, ↓QL.wp_dFrz, QL.frzS_own, QL.frzS_val, QL.frzS_non, QL.frz_zero, QL.frz_succ, ↓QL.wp_dNEN, ↓QL.wp_dEEN, ↓QL.wp_dENE, ↓QL.wp_dCat, QL.catO_ll, QL.catO_bl, QL.catO_lb, QL.catO_bb, ↓QL.wp_dFor, ↓QL.wp_lcl_nil, ↓QL.wp_lcl_cons, QL.rngL_length, QL.rE_zero, ↓QL.wp_dLc, QL.notOwn_val, QL.notOwn_non, QL.notOwn_own, QL.notOwn_deep, QL.notOwn_jk, ↓QL.wp_lc1, ↓QL.wp_dYes, QL.fit_int, QL.fit_bl, QL.fit_non, QL.fit_lst, QL.fit_tup, QL.ex_and_eq, ↓QL.wp_dIdx, ↓QL.wp_dRev, QL.revO_lst, QL.revO_brw, QL.tupleD_lst, QL.tupleD_brw, QL.tupleD_tup, QL.sortSetD_lst, QL.sortG_brw, QL.maxG_brw, QL.minG_brw, QL.ltV_int, QL.leV_int, QL.gtV_int, QL.geV_int, QL.okE_int, QL.okE_non, QL.okE_lst, QL.okE_tup, QL.eqO_brwR, QL.eqO_brwL, ↓QL.wp_forl_nil, ↓QL.wp_forl_cons, QL.forP_nx, QL.forP_ct, QL.forP_bk, QL.forP_rt, QL.eqO_non_int, QL.eqO_int_non, QL.eqO_non_non, QL.eqO_non_tup, QL.eqO_tup_non, QL.startE, List.map_cons, List.map_nil, List.isEmpty_cons, List.isEmpty_nil, List.append_nil, List.nil_append, List.cons_append, List.length_cons, List.length_nil, Nat.reduceAdd, Nat.reduceSub, Nat.reduceLeDiff, Nat.reduceLT, Nat.reduceMul, Nat.reduceEqDiff, List.replicate_succ, List.replicate_zero, List.getElem?_cons_zero, List.getElem?_cons_succ, List.set_cons_zero, List.set_cons_succ, Option.bind_some, Option.bind_none, Option.some.injEq, QL.D.bl.injEq, QL.D.int.injEq, QL.D.str.injEq, QL.D.lst.injEq, QL.D.tup.injEq, QL.Out.nx.injEq, QL.Out.rt.injEq, QL.Slot.val.injEq, QL.Slot.own.injEq, List.cons.injEq, exists_eq_left, exists_eq_left', exists_eq_right, exists_eq_right', exists_eq, exists_eq', exists_and_left, exists_and_right, decide_eq_true_eq, decide_eq_false_iff_not, Bool.not_true, Bool.not_false, Bool.false_xor, Bool.true_xor, Bool.xor_true, Bool.xor_false, Bool.and_true, Bool.true_and, Bool.and_self, Bool.or_true, Bool.true_or, Bool.or_self, Bool.or_false, Bool.false_or, List.all_cons, List.all_nil, true_and, and_true, and_self, true_or, or_true, if_true, if_false, Bool.not_eq_true', not_false_eq_true, not_true_eq_false, Bool.false_eq_true, Bool.true_eq_false, reduceCtorEq, and_false, false_and, QL.ex_ite, QL.wipeE, QL.noOwn_eq, Option.toList, Int.reduceNeg, Int.reduceToNat, Int.reduceLT, Int.reduceLE, Int.reduceSub, Int.reduceAdd, Int.reduceMul, Int.toNat_zero, Int.cast_ofNat_Int, Int.reduceEq, ite_self, Option.ite_none_right_eq_some])
local macro_rules | `(tactic| walk_at "e") => `(tactic| try simp only [QL.optP_some, QL.optP_none, QL.optP_ite, ↓QL.wp_some, ↓QL.wp_none, ↓QL.wp_mr, ↓QL.wp_ml, ↓QL.wp_mb, QL.LIM_eq, QL.strip_int', QL.strip_bl, QL.strip_str', QL.strip_non, QL.strip_hd, QL.strip_lst, QL.strip_tup, QL.strip_brw, QL.plain_int, QL.plain_bl, QL.plain_str, QL.plain_non, QL.plain_hd, QL.plain_lst, QL.plain_tup, QL.plain_brw, QL.plO_eq, QL.scal0_int, QL.scal0_bl, QL.scal0_non, QL.addD_int, QL.subD_int, QL.mulD_int, QL.small64_eq, QL.fdivD_int, QL.modD_int, QL.negD_int, QL.ltD_int, QL.leD_int, QL.gtD_int, QL.geD_int, QL.isND_non, QL.isND_int, QL.isND_bl, QL.isND_str, QL.isND_tup, QL.isND_lst, QL.str2_str, QL.eqO_str, QL.eqO_int, QL.eqO_bl, QL.idxD_lst, QL.idxD_tup, QL.idxD_brw, QL.atI_zero, QL.atI_one, QL.atI_two, QL.atI_three, QL.atI_four, QL.atI_five, QL.addD_tup, QL.truD_bl, QL.truD_int, QL.truD_non, QL.truD_lst, QL.truD_tup, QL.rds_val, QL.rds_own, QL.rds_non, QL.rds_deep, ↓QL.wp_dVar, ↓QL.wp_dC, ↓QL.wp_dOp, ↓QL.wp_dU, ↓QL.wp_dNil, ↓QL.wp_dCons, ↓QL.wp_dTup, ↓QL.wp_dPl, ↓QL.wp_dFz, QL.blO_bl, ↓QL.wp_dTst, ↓QL.wp_dTru, ↓QL.wp_dAnd, ↓QL.wp_dOr, ↓QL.wp_dNot, ↓QL.wp_dAndV, ↓QL.wp_dOrV, ↓QL.wp_dNotV, ↓QL.wp_dIf, ↓QL.wp_dChn, ↓QL.wp_dCall, ↓QL.wp_dCallR, ↓QL.wp_dB, ↓QL.wp_dBN, QL.lenD_lst, QL.lenD_tup, QL.lenD_brw, QL.absD_int, QL.intD_int, QL.intD_bl, QL.max2D_int, QL.min2D_int, QL.lst1_lst, QL.lst1_brw, QL.listD_lst, QL.listD_tup, QL.listD_brw, ↓QL.wp_dIS, QL.seqO_lst, QL.seqO_tup, ↓QL.wp_dIR, QL.optP_rng1, QL.optP_rng2, QL.enuD_lst, QL.zipD_lst, ↓QL.wp_dNoP, QL.intO_int, ↓QL.wp_dPrt, QL.optP_lrg, ↓QL.wp_dLrg1, QL.sortD_lst, QL.sortD_brw, QL.slA_lst, QL.slA_brw, QL.slA_tup, ↓QL.wp_dSlA, QL.slO_lst, QL.slO_brw, ↓QL.wp_dSl, QL.seqP_nx, QL.seqP_rt, QL.seqP_bk, QL.seqP_ct, ↓QL.wp_dSeq, ↓QL.wp_dNx, ↓QL.wp_dPass, ↓QL.wp_dBrk, ↓QL.wp_dCnt, ↓QL.wp_dRetN, ↓QL.wp_dRet, ↓QL.wp_dExpr, ↓QL.wp_dIfS, ↓QL.wp_dAsg, QL.gN_eq, QL.gNil_nil, QL.gCons_cons, QL.gTp_tup, ↓QL.wp_dSetO, ↓QL.wp_dSetF, ↓QL.wp_dParNN, ↓QL.wp_dParNE, ↓QL.wp_dParEN, QL.parO_two, ↓QL.wp_dPar, QL.ownS_own, ↓QL.wp_dApp, ↓QL.wp_dStI, ↓QL.wp_dExt, QL.lstO_lst, ↓QL.wp_dFrz, QL.frzS_own, QL.frzS_val, QL.frzS_non, QL.frz_zero, QL.frz_succ, ↓QL.wp_dNEN, ↓QL.wp_dEEN, ↓QL.wp_dENE, ↓QL.wp_dCat, QL.catO_ll, QL.catO_bl, QL.catO_lb, QL.catO_bb, ↓QL.wp_dFor, ↓QL.wp_lcl_nil, ↓QL.wp_lcl_cons, QL.rngL_length, QL.rE_zero, ↓QL.wp_dLc, QL.notOwn_val, QL.notOwn_non, QL.notOwn_own, QL.notOwn_deep, QL.notOwn_jk, ↓QL.wp_lc1, ↓QL.wp_dYes, QL.fit_int, QL.fit_bl, QL.fit_non, QL.fit_lst, QL.fit_tup, QL.ex_and_eq, ↓QL.wp_dIdx, ↓QL.wp_dRev, QL.revO_lst, QL.revO_brw, QL.tupleD_lst, QL.tupleD_brw, QL.tupleD_tup, QL.sortSetD_lst, QL.sortG_brw, QL.maxG_brw, QL.minG_brw, QL.ltV_int, QL.leV_int, QL.gtV_int, QL.geV_int, QL.okE_int, QL.okE_non, QL.okE_lst, QL.okE_tup, QL.eqO_brwR, QL.eqO_brwL, ↓QL.wp_forl_nil, ↓QL.wp_forl_cons, QL.forP_nx, QL.forP_ct, QL.forP_bk, QL.forP_rt, QL.eqO_non_int, QL.eqO_int_non, QL.eqO_non_non, QL.eqO_non_tup, QL.eqO_tup_non, QL.startE, List.map_cons, List.map_nil, List.isEmpty_cons, List.isEmpty_nil, List.append_nil, List.nil_append, List.cons_append, List.length_cons, List.length_nil, Nat.reduceAdd, Nat.reduceSub, Nat.reduceLeDiff, Nat.reduceLT, Nat.reduceMul, Nat.reduceEqDiff, List.replicate_succ, List.replicate_zero, List.getElem?_cons_zero, List.getElem?_cons_succ, List.set_cons_zero, List.set_cons_succ, Option.bind_some, Option.bind_none, Option.some.injEq, QL.D.bl.injEq, QL.D.int.injEq, QL.D.str.injEq, QL.D.lst.injEq, QL.D.tup.injEq, QL.Out.nx.injEq, QL.Out.rt.injEq, QL.Slot.val.injEq, QL.Slot.own.injEq, List.cons.injEq, exists_eq_left, exists_eq_left', exists_eq_right, exists_eq_right', exists_eq, exists_eq', exists_and_left, exists_and_right, decide_eq_true_eq, decide_eq_false_iff_not, Bool.not_true, Bool.not_false, Bool.false_xor, Bool.true_xor, Bool.xor_true, Bool.xor_false, Bool.and_true, Bool.true_and, Bool.and_self, Bool.or_true, Bool.true_or, Bool.or_self, Bool.or_false, Bool.false_or, List.all_cons, List.all_nil, true_and, and_true, and_self, true_or, or_true, if_true, if_false, Bool.not_eq_true', not_false_eq_true, not_true_eq_false, Bool.false_eq_true, Bool.true_eq_false, reduceCtorEq, and_false, false_and, QL.ex_ite, QL.wipeE, QL.noOwn_eq, Option.toList, Int.reduceNeg, Int.reduceToNat, Int.reduceLT, Int.reduceLE, Int.reduceSub, Int.reduceAdd, Int.reduceMul, Int.toNat_zero, Int.cast_ofNat_Int, Int.reduceEq, ite_self, Option.ite_none_right_eq_some])
namespace K_k44
local macro_rules | `(tactic| walk_at "ev") => `(tactic| simp only [QL.optP_some, QL.optP_none, QL.optP_ite, ↓QL.wp_some, ↓QL.wp_none, ↓QL.wp_mr, ↓QL.wp_ml, ↓QL.wp_mb, QL.LIM_eq, QL.strip_int', QL.strip_bl, QL.strip_str', QL.strip_non, QL.strip_hd, QL.strip_lst, QL.strip_tup, QL.strip_brw, QL.plain_int, QL.plain_bl, QL.plain_str, QL.plain_non, QL.plain_hd, QL.plain_lst, QL.plain_tup, QL.plain_brw, QL.plO_eq, QL.scal0_int, QL.scal0_bl, QL.scal0_non, QL.addD_int, QL.subD_int, QL.mulD_int, QL.small64_eq, QL.fdivD_int, QL.modD_int, QL.negD_int, QL.ltD_int, QL.leD_int, QL.gtD_int, QL.geD_int, QL.isND_non, QL.isND_int, QL.isND_bl, QL.isND_str, QL.isND_tup, QL.isND_lst, QL.str2_str, QL.eqO_str, QL.eqO_int, QL.eqO_bl, QL.idxD_lst, QL.idxD_tup, QL.idxD_brw, QL.atI_zero, QL.atI_one, QL.atI_two, QL.atI_three, QL.atI_four, QL.atI_five, QL.addD_tup, QL.truD_bl, QL.truD_int, QL.truD_non, QL.truD_lst, QL.truD_tup, QL.rds_val, QL.rds_own, QL.rds_non, QL.rds_deep, ↓QL.wp_dVar, ↓QL.wp_dC, ↓QL.wp_dOp, ↓QL.wp_dU, ↓QL.wp_dNil, ↓QL.wp_dCons, ↓QL.wp_dTup, ↓QL.wp_dPl, ↓QL.wp_dFz, QL.blO_bl, ↓QL.wp_dTst, ↓QL.wp_dTru, ↓QL.wp_dAnd, ↓QL.wp_dOr, ↓QL.wp_dNot, ↓QL.wp_dAndV, ↓QL.wp_dOrV, ↓QL.wp_dNotV, ↓QL.wp_dIf, ↓QL.wp_dChn, ↓QL.wp_dCall, ↓QL.wp_dCallR, ↓QL.wp_dB, ↓QL.wp_dBN, QL.lenD_lst, QL.lenD_tup, QL.lenD_brw, QL.absD_int, QL.intD_int, QL.intD_bl, QL.max2D_int, QL.min2D_int, QL.lst1_lst, QL.lst1_brw, QL.listD_lst, QL.listD_tup, QL.listD_brw, ↓QL.wp_dIS, QL.seqO_lst, QL.seqO_tup, ↓QL.wp_dIR, QL.optP_rng1, QL.optP_rng2, QL.enuD_lst, QL.zipD_lst, ↓QL.wp_dNoP, QL.intO_int, ↓QL.wp_dPrt, QL.optP_lrg, ↓QL.wp_dLrg1, QL.sortD_lst, QL.sortD_brw, QL.slA_lst, QL.slA_brw, QL.slA_tup, ↓QL.wp_dSlA, QL.slO_lst, QL.slO_brw, ↓QL.wp_dSl, QL.seqP_nx, QL.seqP_rt, QL.seqP_bk, QL.seqP_ct, ↓QL.wp_dSeq, ↓QL.wp_dNx, ↓QL.wp_dPass, ↓QL.wp_dBrk, ↓QL.wp_dCnt, ↓QL.wp_dRetN, ↓QL.wp_dRet, ↓QL.wp_dExpr, ↓QL.wp_dIfS, ↓QL.wp_dAsg, QL.gN_eq, QL.gNil_nil, QL.gCons_cons, QL.gTp_tup, ↓QL.wp_dSetO, ↓QL.wp_dSetF, ↓QL.wp_dParNN, ↓QL.wp_dParNE, ↓QL.wp_dParEN, QL.parO_two, ↓QL.wp_dPar, QL.ownS_own, ↓QL.wp_dApp, ↓QL.wp_dStI, ↓QL.wp_dExt, QL.lstO_lst, ↓QL.wp_dFrz, QL.frzS_own, QL.frzS_val, QL.frzS_non, QL.frz_zero, QL.frz_succ, ↓QL.wp_dNEN, ↓QL.wp_dEEN, ↓QL.wp_dENE, ↓QL.wp_dCat, QL.catO_ll, QL.catO_bl, QL.catO_lb, QL.catO_bb, ↓QL.wp_dFor, ↓QL.wp_lcl_nil, ↓QL.wp_lcl_cons, QL.rngL_length, QL.rE_zero, ↓QL.wp_dLc, QL.notOwn_val, QL.notOwn_non, QL.notOwn_own, QL.notOwn_deep, QL.notOwn_jk, ↓QL.wp_lc1, ↓QL.wp_dYes, QL.fit_int, QL.fit_bl, QL.fit_non, QL.fit_lst, QL.fit_tup, QL.ex_and_eq, ↓QL.wp_dIdx, ↓QL.wp_dRev, QL.revO_lst, QL.revO_brw, QL.tupleD_lst, QL.tupleD_brw, QL.tupleD_tup, QL.sortSetD_lst, QL.sortG_brw, QL.maxG_brw, QL.minG_brw, QL.ltV_int, QL.leV_int, QL.gtV_int, QL.geV_int, QL.okE_int, QL.okE_non, QL.okE_lst, QL.okE_tup, QL.eqO_brwR, QL.eqO_brwL, ↓QL.wp_forl_nil, ↓QL.wp_forl_cons, QL.forP_nx, QL.forP_ct, QL.forP_bk, QL.forP_rt, QL.eqO_non_int, QL.eqO_int_non, QL.eqO_non_non, QL.eqO_non_tup, QL.eqO_tup_non, sumD_eq, encN_eq, QL.startE, List.map_cons, List.map_nil, List.isEmpty_cons, List.isEmpty_nil, List.append_nil, List.nil_append, List.cons_append, List.length_cons, List.length_nil, Nat.reduceAdd, Nat.reduceSub, Nat.reduceLeDiff, Nat.reduceLT, Nat.reduceMul, Nat.reduceEqDiff, List.replicate_succ, List.replicate_zero, List.getElem?_cons_zero, List.getElem?_cons_succ, List.set_cons_zero, List.set_cons_succ, Option.bind_some, Option.bind_none, Option.some.injEq, QL.D.bl.injEq, QL.D.int.injEq, QL.D.str.injEq, QL.D.lst.injEq, QL.D.tup.injEq, QL.Out.nx.injEq, QL.Out.rt.injEq, QL.Slot.val.injEq, QL.Slot.own.injEq, List.cons.injEq, exists_eq_left, exists_eq_left', exists_eq_right, exists_eq_right', exists_eq, exists_eq', exists_and_left, exists_and_right, decide_eq_true_eq, decide_eq_false_iff_not, Bool.not_true, Bool.not_false, Bool.false_xor, Bool.true_xor, Bool.xor_true, Bool.xor_false, Bool.and_true, Bool.true_and, Bool.and_self, Bool.or_true, Bool.true_or, Bool.or_self, Bool.or_false, Bool.false_or, List.all_cons, List.all_nil, true_and, and_true, and_self, true_or, or_true, if_true, if_false, Bool.not_eq_true', not_false_eq_true, not_true_eq_false, Bool.false_eq_true, Bool.true_eq_false, reduceCtorEq, and_false, false_and, QL.ex_ite, QL.wipeE, QL.noOwn_eq, Option.toList, Int.reduceNeg, Int.reduceToNat, Int.reduceLT, Int.reduceLE, Int.reduceSub, Int.reduceAdd, Int.reduceMul, Int.toNat_zero, Int.cast_ofNat_Int, Int.reduceEq, ite_self, Option.ite_none_right_eq_some])
local macro_rules | `(tactic| walk_at "e") => `(tactic| try simp only [QL.optP_some, QL.optP_none, QL.optP_ite, ↓QL.wp_some, ↓QL.wp_none, ↓QL.wp_mr, ↓QL.wp_ml, ↓QL.wp_mb, QL.LIM_eq, QL.strip_int', QL.strip_bl, QL.strip_str', QL.strip_non, QL.strip_hd, QL.strip_lst, QL.strip_tup, QL.strip_brw, QL.plain_int, QL.plain_bl, QL.plain_str, QL.plain_non, QL.plain_hd, QL.plain_lst, QL.plain_tup, QL.plain_brw, QL.plO_eq, QL.scal0_int, QL.scal0_bl, QL.scal0_non, QL.addD_int, QL.subD_int, QL.mulD_int, QL.small64_eq, QL.fdivD_int, QL.modD_int, QL.negD_int, QL.ltD_int, QL.leD_int, QL.gtD_int, QL.geD_int, QL.isND_non, QL.isND_int, QL.isND_bl, QL.isND_str, QL.isND_tup, QL.isND_lst, QL.str2_str, QL.eqO_str, QL.eqO_int, QL.eqO_bl, QL.idxD_lst, QL.idxD_tup, QL.idxD_brw, QL.atI_zero, QL.atI_one, QL.atI_two, QL.atI_three, QL.atI_four, QL.atI_five, QL.addD_tup, QL.truD_bl, QL.truD_int, QL.truD_non, QL.truD_lst, QL.truD_tup, QL.rds_val, QL.rds_own, QL.rds_non, QL.rds_deep, ↓QL.wp_dVar, ↓QL.wp_dC, ↓QL.wp_dOp, ↓QL.wp_dU, ↓QL.wp_dNil, ↓QL.wp_dCons, ↓QL.wp_dTup, ↓QL.wp_dPl, ↓QL.wp_dFz, QL.blO_bl, ↓QL.wp_dTst, ↓QL.wp_dTru, ↓QL.wp_dAnd, ↓QL.wp_dOr, ↓QL.wp_dNot, ↓QL.wp_dAndV, ↓QL.wp_dOrV, ↓QL.wp_dNotV, ↓QL.wp_dIf, ↓QL.wp_dChn, ↓QL.wp_dCall, ↓QL.wp_dCallR, ↓QL.wp_dB, ↓QL.wp_dBN, QL.lenD_lst, QL.lenD_tup, QL.lenD_brw, QL.absD_int, QL.intD_int, QL.intD_bl, QL.max2D_int, QL.min2D_int, QL.lst1_lst, QL.lst1_brw, QL.listD_lst, QL.listD_tup, QL.listD_brw, ↓QL.wp_dIS, QL.seqO_lst, QL.seqO_tup, ↓QL.wp_dIR, QL.optP_rng1, QL.optP_rng2, QL.enuD_lst, QL.zipD_lst, ↓QL.wp_dNoP, QL.intO_int, ↓QL.wp_dPrt, QL.optP_lrg, ↓QL.wp_dLrg1, QL.sortD_lst, QL.sortD_brw, QL.slA_lst, QL.slA_brw, QL.slA_tup, ↓QL.wp_dSlA, QL.slO_lst, QL.slO_brw, ↓QL.wp_dSl, QL.seqP_nx, QL.seqP_rt, QL.seqP_bk, QL.seqP_ct, ↓QL.wp_dSeq, ↓QL.wp_dNx, ↓QL.wp_dPass, ↓QL.wp_dBrk, ↓QL.wp_dCnt, ↓QL.wp_dRetN, ↓QL.wp_dRet, ↓QL.wp_dExpr, ↓QL.wp_dIfS, ↓QL.wp_dAsg, QL.gN_eq, QL.gNil_nil, QL.gCons_cons, QL.gTp_tup, ↓QL.wp_dSetO, ↓QL.wp_dSetF, ↓QL.wp_dParNN, ↓QL.wp_dParNE, ↓QL.wp_dParEN, QL.parO_two, ↓QL.wp_dPar, QL.ownS_own, ↓QL.wp_dApp, ↓QL.wp_dStI, ↓QL.wp_dExt, QL.lstO_lst, ↓QL.wp_dFrz, QL.frzS_own, QL.frzS_val, QL.frzS_non, QL.frz_zero, QL.frz_succ, ↓QL.wp_dNEN, ↓QL.wp_dEEN, ↓QL.wp_dENE, ↓QL.wp_dCat, QL.catO_ll, QL.catO_bl, QL.catO_lb, QL.catO_bb, ↓QL.wp_dFor, ↓QL.wp_lcl_nil, ↓QL.wp_lcl_cons, QL.rngL_length, QL.rE_zero, ↓QL.wp_dLc, QL.notOwn_val, QL.notOwn_non, QL.notOwn_own, QL.notOwn_deep, QL.notOwn_jk, ↓QL.wp_lc1, ↓QL.wp_dYes, QL.fit_int, QL.fit_bl, QL.fit_non, QL.fit_lst, QL.fit_tup, QL.ex_and_eq, ↓QL.wp_dIdx, ↓QL.wp_dRev, QL.revO_lst, QL.revO_brw, QL.tupleD_lst, QL.tupleD_brw, QL.tupleD_tup, QL.sortSetD_lst, QL.sortG_brw, QL.maxG_brw, QL.minG_brw, QL.ltV_int, QL.leV_int, QL.gtV_int, QL.geV_int, QL.okE_int, QL.okE_non, QL.okE_lst, QL.okE_tup, QL.eqO_brwR, QL.eqO_brwL, ↓QL.wp_forl_nil, ↓QL.wp_forl_cons, QL.forP_nx, QL.forP_ct, QL.forP_bk, QL.forP_rt, QL.eqO_non_int, QL.eqO_int_non, QL.eqO_non_non, QL.eqO_non_tup, QL.eqO_tup_non, sumD_eq, encN_eq, QL.startE, List.map_cons, List.map_nil, List.isEmpty_cons, List.isEmpty_nil, List.append_nil, List.nil_append, List.cons_append, List.length_cons, List.length_nil, Nat.reduceAdd, Nat.reduceSub, Nat.reduceLeDiff, Nat.reduceLT, Nat.reduceMul, Nat.reduceEqDiff, List.replicate_succ, List.replicate_zero, List.getElem?_cons_zero, List.getElem?_cons_succ, List.set_cons_zero, List.set_cons_succ, Option.bind_some, Option.bind_none, Option.some.injEq, QL.D.bl.injEq, QL.D.int.injEq, QL.D.str.injEq, QL.D.lst.injEq, QL.D.tup.injEq, QL.Out.nx.injEq, QL.Out.rt.injEq, QL.Slot.val.injEq, QL.Slot.own.injEq, List.cons.injEq, exists_eq_left, exists_eq_left', exists_eq_right, exists_eq_right', exists_eq, exists_eq', exists_and_left, exists_and_right, decide_eq_true_eq, decide_eq_false_iff_not, Bool.not_true, Bool.not_false, Bool.false_xor, Bool.true_xor, Bool.xor_true, Bool.xor_false, Bool.and_true, Bool.true_and, Bool.and_self, Bool.or_true, Bool.true_or, Bool.or_self, Bool.or_false, Bool.false_or, List.all_cons, List.all_nil, true_and, and_true, and_self, true_or, or_true, if_true, if_false, Bool.not_eq_true', not_false_eq_true, not_true_eq_false, Bool.false_eq_true, Bool.true_eq_false, reduceCtorEq, and_false, false_and, QL.ex_ite, QL.wipeE, QL.noOwn_eq, Option.toList, Int.reduceNeg, Int.reduceToNat, Int.reduceLT, Int.reduceLE, Int.reduceSub, Int.reduceAdd, Int.reduceMul, Int.toNat_zero, Int.cast_ofNat_Int, Int.reduceEq, ite_self, Option.ite_none_right_eq_some])
theorem cutF (xs : List Int) : cutD (xs.map D.int) (some 1) none = (xs.drop 1).map D.int := by rw [List.map_drop]; exact cutD_from _ 1
abbrev toldD (e : Int) (L : List Int) : D := .tup [eI (days e L), eI (rowsF e L)]
theorem law_r14 {L : List Int} (o : okL L) {e : Int} (he : 0 ≤ e) {z : PySem.Str} (hz : reprA [eI L] = some (.str z)) {R : List Int} (hR : R.length ≤ 7) {j2 j3 j4 j5 j6 j7 j8 j9 j10 j19 j20 j21 j22 j23 j24 : Slot} {j18 j25 j26 : Option D} (s : S3) : Wp (d_law_r14 [.val (.hd 1), .val (.hd 0), j2, j3, j4, j5, j6, j7, j8, j9, j10, .val (eI L), .val (.int e), .val (.str z), .val (toldD e L), .val (.int ((days e L).length : Nat)), .val (eI (uniqI L)), .own (eI R), jk j18, j19, j20, j21, j22, j23, j24, jk j25, jk j26] s) fun o _ => o = .rt (.bl true) := by
  have hn := o.n
  have hd : (days e L).length ≤ 7 := by
    have := (gd_sub e none (sortI L)).length_le
    have := (sortI_perm L).length_eq
    show (gd e none (sortI L)).length ≤ 7
    omega
  have hu := uniqI_len L
  have hr := rowsF_len e L
  have hs := (sortI_perm L).length_eq
  unfold d_law_r14
  walk_at "e"
  rw [sortG_ints]
  walk_at "e"
  rw [cutF, cutF]
  refine ⟨by rw [List.length_map]; omega, ?_⟩
  refine lcl_map D.int (fun y => .int (y + 1)) (rowsF e L) (fun y _ s => ?_) ?_
  · walk_at "e"
  · rw [show addD (eI (days e L)) (D.lst [D.int 99]) = some (eI (days e L ++ [99])) from by rw [eI, eI, List.map_append]; exact addD_lst _ _ (by rw [List.length_map]; show _ + 1 ≤ _; unfold LIM; omega)]
    walk_at "e"
    rw [← List.map_reverse]
    have hP := law_r13 o he hz (P := [(uniqI L, R), (uniqI L, sortI L), ((days e L).drop 1, rowsF e L), (days e L, (rowsF e L).drop 1), (days e L, (rowsF e L).map (· + 1)), ((days e L).reverse, rowsF e L), (days e L ++ [99], rowsF e L)]) (Nat.le_refl 7) (fun p hp => by
      simp only [List.mem_cons, List.not_mem_nil, or_false] at hp
      rcases hp with rfl | rfl | rfl | rfl | rfl | rfl | rfl <;> refine ⟨?_, ?_⟩ <;> (try simp only [List.length_append, List.length_drop, List.length_map, List.length_reverse, List.length_cons, List.length_nil]) <;> omega) (j2 := j2) (j3 := j3) (j4 := j4) (j5 := j5) (j6 := j6) (j7 := j7) (j8 := j8) (j9 := j9) (j10 := j10) (j18 := j18) (j20 := j20) (j21 := j21) (j22 := j22) (j23 := j23) (j24 := j24) (j25 := j25) (j26 := j26) (j14 := .val (toldD e L)) (j16 := .val (eI (uniqI L))) (j17 := .val (eI R)) s
    simp only [List.map_cons, List.map_nil] at hP
    rw [show eI ((rowsF e L).map (· + 1)) = .lst ((rowsF e L).map fun y => D.int (y + 1)) by rw [eI, List.map_map]; rfl] at hP
    exact hP
theorem law_r18 {L : List Int} (o : okL L) {e : Int} (he : 0 ≤ e) {z : PySem.Str} (hz : reprA [eI L] = some (.str z)) {j2 j3 j4 j5 j6 j7 j8 j9 j10 j16 j17 j19 j20 j21 j22 j23 j24 : Slot} {j18 j25 j26 : Option D} (s : S3) : Wp (d_law_r18 [.val (.hd 1), .val (.hd 0), j2, j3, j4, j5, j6, j7, j8, j9, j10, .val (eI L), .val (.int e), .val (.str z), .val (toldD e L), .val (.int ((days e L).length : Nat)), j16, j17, jk j18, j19, j20, j21, j22, j23, j24, jk j25, jk j26] s) fun o _ => o = .rt (.bl true) := by
  have hn := o.n
  have hd : (days e L).length ≤ 7 := by
    have := (gd_sub e none (sortI L)).length_le
    have := (sortI_perm L).length_eq
    show (gd e none (sortI L)).length ≤ 7
    omega
  have hu := uniqI_len L
  have hr := rowsF_len e L
  have hs := (sortI_perm L).length_eq
  unfold d_law_r18
  walk_at "e"
  rw [fault_ev (by omega) (by omega) (by omega) he, tfault_ev (by omega) (by omega) (by omega) he, told_ok he]
  walk_at "e"
  rw [List.length_map, if_neg (by simp)]
  unfold d_law_r17
  walk_at "e"
  refine ⟨⟨by omega, by omega⟩, ?_⟩
  unfold d_law_r16
  walk_at "e"
  unfold d_law_r15
  walk_at "e"
  rw [sortG_ints]
  walk_at "e"
  let pick : Int → Int := fun x => ((uniqI L).filter fun y => decide (x - e ≤ y ∧ y ≤ x)).headD 0
  refine (show D.lst [] = eI [] from rfl) ▸ forl_fold (J := Option D × Option D) D.int (fun (R : List Int) j => (fun (j18 j25 : Option D) => [.val (.hd 1), .val (.hd 0), j2, j3, j4, j5, j6, j7, j8, j9, j10, .val (eI L), .val (.int e), .val (.str z), .val (toldD e L), .val (.int ((days e L).length : Nat)), .val (eI (uniqI L)), .own (eI R), jk j18, j19, j20, j21, j22, j23, j24, jk j25, jk j26]) j.1 j.2) (fun R x => R ++ [pick x]) (fun n R => R.length ≤ n) (sortI L) 0 [] (j18, j25) s (Nat.le_refl _) (fun i x hi R j p => ?_) (fun j p => ?_)
  · have hi := List.getElem?_eq_some_iff.mp hi
    have hx : x ∈ L := (sortI_perm L).mem_iff.mp (by obtain ⟨h, e⟩ := hi; rw [← e]; exact List.getElem_mem h)
    obtain ⟨hi, _⟩ := hi
    walk_at "e"
    unfold d_law_b2
    walk_at "e"
    refine ⟨by rw [List.length_map]; omega, ?_⟩
    refine lcl_filter D.int (fun y => decide (x - e ≤ y ∧ y ≤ x)) D.int (uniqI L) (fun y _ s => ?_) ?_
    · walk_at "e"
      by_cases c1 : x - e ≤ y <;> by_cases c2 : y ≤ x <;> simp [c1, c2]
    · have hm : x ∈ (uniqI L).filter fun y => decide (x - e ≤ y ∧ y ≤ x) := List.mem_filter.mpr ⟨mem_uniqI.mpr hx, decide_eq_true ⟨by omega, by omega⟩⟩
      have hat : L2.atI (((uniqI L).filter fun y => decide (x - e ≤ y ∧ y ≤ x)).map D.int) 0 = some (D.int (pick x)) := by
        show L2.atI _ 0 = some (D.int (((uniqI L).filter fun y => decide (x - e ≤ y ∧ y ≤ x)).headD 0))
        cases hc : (uniqI L).filter fun y => decide (x - e ≤ y ∧ y ≤ x) with
        | nil => rw [hc] at hm; cases hm
        | cons y ys => exact getD_int (row := y :: ys) (i := 0) (by simp)
      walk_at "e"
      refine opt_at hat ?_
      refine ⟨rfl, by rw [List.length_map]; omega, ?_⟩
      refine fe_nx (some (D.int x), j.2) ?_ (by rw [List.length_append]; simp only [List.length_cons, List.length_nil]; omega)
      dsimp only
      rw [show eI (R ++ [pick x]) = .lst (R.map D.int ++ [D.int (pick x)]) by rw [eI, List.map_append]; rfl]
      rfl
  · exact law_r14 o he hz (by rw [hs, Nat.zero_add] at p; omega) s
end K_k44
end
section
set_option Elab.async false
set_option linter.all false
set_option maxRecDepth 100000
set_option maxHeartbeats 4000000
open QL
local macro_rules | `(tactic| walk_at "ev") => `(tactic| simp only [QL.optP_some, QL.optP_none, QL.optP_ite, ↓QL.wp_some, ↓QL.wp_none, ↓QL.wp_mr, ↓QL.wp_ml, ↓QL.wp_mb, QL.LIM_eq, QL.strip_int', QL.strip_bl, QL.strip_str', QL.strip_non, QL.strip_hd, QL.strip_lst, QL.strip_tup, QL.strip_brw, QL.plain_int, QL.plain_bl, QL.plain_str, QL.plain_non, QL.plain_hd, QL.plain_lst, QL.plain_tup, QL.plain_brw, QL.plO_eq, QL.scal0_int, QL.scal0_bl, QL.scal0_non, QL.addD_int, QL.subD_int, QL.mulD_int, QL.small64_eq, QL.fdivD_int, QL.modD_int, QL.negD_int, QL.ltD_int, QL.leD_int, QL.gtD_int, QL.geD_int, QL.isND_non, QL.isND_int, QL.isND_bl, QL.isND_str, QL.isND_tup, QL.isND_lst, QL.str2_str, QL.eqO_str, QL.eqO_int, QL.eqO_bl, QL.idxD_lst, QL.idxD_tup, QL.idxD_brw, QL.atI_zero, QL.atI_one, QL.atI_two, QL.atI_three, QL.atI_four, QL.atI_five, QL.addD_tup, QL.truD_bl, QL.truD_int, QL.truD_non, QL.truD_lst, QL.truD_tup, QL.rds_val, QL.rds_own, QL.rds_non, QL.rds_deep, ↓QL.wp_dVar, ↓QL.wp_dC, ↓QL.wp_dOp, ↓QL.wp_dU, ↓QL.wp_dNil, ↓QL.wp_dCons, ↓QL.wp_dTup, ↓QL.wp_dPl, ↓QL.wp_dFz, QL.blO_bl, ↓QL.wp_dTst, ↓QL.wp_dTru, ↓QL.wp_dAnd, ↓QL.wp_dOr, ↓QL.wp_dNot, ↓QL.wp_dAndV, ↓QL.wp_dOrV, ↓QL.wp_dNotV, ↓QL.wp_dIf, ↓QL.wp_dChn, ↓QL.wp_dCall, ↓QL.wp_dCallR, ↓QL.wp_dB, ↓QL.wp_dBN, QL.lenD_lst, QL.lenD_tup, QL.lenD_brw, QL.absD_int, QL.intD_int, QL.intD_bl, QL.max2D_int, QL.min2D_int, QL.lst1_lst, QL.lst1_brw, QL.listD_lst, QL.listD_tup, QL.listD_brw, ↓QL.wp_dIS, QL.seqO_lst, QL.seqO_tup, ↓QL.wp_dIR, QL.optP_rng1, QL.optP_rng2, QL.enuD_lst, QL.zipD_lst, ↓QL.wp_dNoP, QL.intO_int, ↓QL.wp_dPrt, QL.optP_lrg, ↓QL.wp_dLrg1, QL.sortD_lst, QL.sortD_brw, QL.slA_lst, QL.slA_brw, QL.slA_tup, ↓QL.wp_dSlA, QL.slO_lst, QL.slO_brw, ↓QL.wp_dSl, QL.seqP_nx, QL.seqP_rt, QL.seqP_bk, QL.seqP_ct, ↓QL.wp_dSeq, ↓QL.wp_dNx, ↓QL.wp_dPass, ↓QL.wp_dBrk, ↓QL.wp_dCnt, ↓QL.wp_dRetN, ↓QL.wp_dRet, ↓QL.wp_dExpr, ↓QL.wp_dIfS, ↓QL.wp_dAsg, QL.gN_eq, QL.gNil_nil, QL.gCons_cons, QL.gTp_tup, ↓QL.wp_dSetO, ↓QL.wp_dSetF, ↓QL.wp_dParNN, ↓QL.wp_dParNE, ↓QL.wp_dParEN, QL.parO_two, ↓QL.wp_dPar, QL.ownS_own, ↓QL.wp_dApp, ↓QL.wp_dStI, ↓QL.wp_dExt, QL.lstO_lst, ↓QL.wp_dFrz, QL.frzS_own, QL.frzS_val, QL.frzS_non, QL.frz_zero, QL.frz_succ, ↓QL.wp_dNEN, ↓QL.wp_dEEN, ↓QL.wp_dENE, ↓QL.wp_dCat, QL.catO_ll, QL.catO_bl, QL.catO_lb, QL.catO_bb, ↓QL.wp_dFor, ↓QL.wp_lcl_nil, ↓QL.wp_lcl_cons, QL.rngL_length, QL.rE_zero, ↓QL.wp_dLc, QL.notOwn_val, QL.notOwn_non, QL.notOwn_own, QL.notOwn_deep, QL.notOwn_jk, ↓QL.wp_lc1, ↓QL.wp_dYes, QL.fit_int, QL.fit_bl, QL.fit_non, QL.fit_lst, QL.fit_tup, QL.ex_and_eq, ↓QL.wp_dIdx, ↓QL.wp_dRev, QL.revO_lst, QL.revO_brw, QL.tupleD_lst, QL.tupleD_brw, QL.tupleD_tup, QL.sortSetD_lst, QL.sortG_brw, QL.maxG_brw, QL.minG_brw, QL.ltV_int, QL.leV_int, QL.gtV_int, QL.geV_int, QL.okE_int, QL.okE_non, QL.okE_lst, QL.okE_tup, QL.eqO_brwR, QL.eqO_brwL, ↓QL.wp_forl_nil, ↓QL.wp_forl_cons, QL.forP_nx, QL.forP_ct, QL.forP_bk, QL.forP_rt, QL.eqO_non_int, QL.eqO_int_non, QL.eqO_non_non, QL.eqO_non_tup, QL.eqO_tup_non, QL.startE, List.map_cons, List.map_nil, List.isEmpty_cons, List.isEmpty_nil, List.append_nil, List.nil_append, List.cons_append, List.length_cons, List.length_nil, Nat.reduceAdd, Nat.reduceSub, Nat.reduceLeDiff, Nat.reduceLT, Nat.reduceMul, Nat.reduceEqDiff, List.replicate_succ, List.replicate_zero, List.getElem?_cons_zero, List.getElem?_cons_succ, List.set_cons_zero, List.set_cons_succ, Option.bind_some, Option.bind_none, Option.some.injEq, QL.D.bl.injEq, QL.D.int.injEq, QL.D.str.injEq, QL.D.lst.injEq, QL.D.tup.injEq, QL.Out.nx.injEq, QL.Out.rt.injEq, QL.Slot.val.injEq, QL.Slot.own.injEq, List.cons.injEq, exists_eq_left, exists_eq_left', exists_eq_right, exists_eq_right', exists_eq, exists_eq', exists_and_left, exists_and_right, decide_eq_true_eq, decide_eq_false_iff_not, Bool.not_true, Bool.not_false, Bool.false_xor, Bool.true_xor, Bool.xor_true, Bool.xor_false, Bool.and_true, Bool.true_and, Bool.and_self, Bool.or_true, Bool.true_or, Bool.or_self, Bool.or_false, Bool.false_or, List.all_cons, List.all_nil, true_and, and_true, and_self, true_or, or_true, if_true, if_false, Bool.not_eq_true', not_false_eq_true, not_true_eq_false, Bool.false_eq_true, Bool.true_eq_false, reduceCtorEq, and_false, false_and, QL.ex_ite, QL.wipeE, QL.noOwn_eq, Option.toList, Int.reduceNeg, Int.reduceToNat, Int.reduceLT, Int.reduceLE, Int.reduceSub, Int.reduceAdd, Int.reduceMul, Int.toNat_zero, Int.cast_ofNat_Int, Int.reduceEq, ite_self, Option.ite_none_right_eq_some])
local macro_rules | `(tactic| walk_at "e") => `(tactic| try simp only [QL.optP_some, QL.optP_none, QL.optP_ite, ↓QL.wp_some, ↓QL.wp_none, ↓QL.wp_mr, ↓QL.wp_ml, ↓QL.wp_mb, QL.LIM_eq, QL.strip_int', QL.strip_bl, QL.strip_str', QL.strip_non, QL.strip_hd, QL.strip_lst, QL.strip_tup, QL.strip_brw, QL.plain_int, QL.plain_bl, QL.plain_str, QL.plain_non, QL.plain_hd, QL.plain_lst, QL.plain_tup, QL.plain_brw, QL.plO_eq, QL.scal0_int, QL.scal0_bl, QL.scal0_non, QL.addD_int, QL.subD_int, QL.mulD_int, QL.small64_eq, QL.fdivD_int, QL.modD_int, QL.negD_int, QL.ltD_int, QL.leD_int, QL.gtD_int, QL.geD_int, QL.isND_non, QL.isND_int, QL.isND_bl, QL.isND_str, QL.isND_tup, QL.isND_lst, QL.str2_str, QL.eqO_str, QL.eqO_int, QL.eqO_bl, QL.idxD_lst, QL.idxD_tup, QL.idxD_brw, QL.atI_zero, QL.atI_one, QL.atI_two, QL.atI_three, QL.atI_four, QL.atI_five, QL.addD_tup, QL.truD_bl, QL.truD_int, QL.truD_non, QL.truD_lst, QL.truD_tup, QL.rds_val, QL.rds_own, QL.rds_non, QL.rds_deep, ↓QL.wp_dVar, ↓QL.wp_dC, ↓QL.wp_dOp, ↓QL.wp_dU, ↓QL.wp_dNil, ↓QL.wp_dCons, ↓QL.wp_dTup, ↓QL.wp_dPl, ↓QL.wp_dFz, QL.blO_bl, ↓QL.wp_dTst, ↓QL.wp_dTru, ↓QL.wp_dAnd, ↓QL.wp_dOr, ↓QL.wp_dNot, ↓QL.wp_dAndV, ↓QL.wp_dOrV, ↓QL.wp_dNotV, ↓QL.wp_dIf, ↓QL.wp_dChn, ↓QL.wp_dCall, ↓QL.wp_dCallR, ↓QL.wp_dB, ↓QL.wp_dBN, QL.lenD_lst, QL.lenD_tup, QL.lenD_brw, QL.absD_int, QL.intD_int, QL.intD_bl, QL.max2D_int, QL.min2D_int, QL.lst1_lst, QL.lst1_brw, QL.listD_lst, QL.listD_tup, QL.listD_brw, ↓QL.wp_dIS, QL.seqO_lst, QL.seqO_tup, ↓QL.wp_dIR, QL.optP_rng1, QL.optP_rng2, QL.enuD_lst, QL.zipD_lst, ↓QL.wp_dNoP, QL.intO_int, ↓QL.wp_dPrt, QL.optP_lrg, ↓QL.wp_dLrg1, QL.sortD_lst, QL.sortD_brw, QL.slA_lst, QL.slA_brw, QL.slA_tup, ↓QL.wp_dSlA, QL.slO_lst, QL.slO_brw, ↓QL.wp_dSl, QL.seqP_nx, QL.seqP_rt, QL.seqP_bk, QL.seqP_ct, ↓QL.wp_dSeq, ↓QL.wp_dNx, ↓QL.wp_dPass, ↓QL.wp_dBrk, ↓QL.wp_dCnt, ↓QL.wp_dRetN, ↓QL.wp_dRet, ↓QL.wp_dExpr, ↓QL.wp_dIfS, ↓QL.wp_dAsg, QL.gN_eq, QL.gNil_nil, QL.gCons_cons, QL.gTp_tup, ↓QL.wp_dSetO, ↓QL.wp_dSetF, ↓QL.wp_dParNN, ↓QL.wp_dParNE, ↓QL.wp_dParEN, QL.parO_two, ↓QL.wp_dPar, QL.ownS_own, ↓QL.wp_dApp, ↓QL.wp_dStI, ↓QL.wp_dExt, QL.lstO_lst, ↓QL.wp_dFrz, QL.frzS_own, QL.frzS_val, QL.frzS_non, QL.frz_zero, QL.frz_succ, ↓QL.wp_dNEN, ↓QL.wp_dEEN, ↓QL.wp_dENE, ↓QL.wp_dCat, QL.catO_ll, QL.catO_bl, QL.catO_lb, QL.catO_bb, ↓QL.wp_dFor, ↓QL.wp_lcl_nil, ↓QL.wp_lcl_cons, QL.rngL_length, QL.rE_zero, ↓QL.wp_dLc, QL.notOwn_val, QL.notOwn_non, QL.notOwn_own, QL.notOwn_deep, QL.notOwn_jk, ↓QL.wp_lc1, ↓QL.wp_dYes, QL.fit_int, QL.fit_bl, QL.fit_non, QL.fit_lst, QL.fit_tup, QL.ex_and_eq, ↓QL.wp_dIdx, ↓QL.wp_dRev, QL.revO_lst, QL.revO_brw, QL.tupleD_lst, QL.tupleD_brw, QL.tupleD_tup, QL.sortSetD_lst, QL.sortG_brw, QL.maxG_brw, QL.minG_brw, QL.ltV_int, QL.leV_int, QL.gtV_int, QL.geV_int, QL.okE_int, QL.okE_non, QL.okE_lst, QL.okE_tup, QL.eqO_brwR, QL.eqO_brwL, ↓QL.wp_forl_nil, ↓QL.wp_forl_cons, QL.forP_nx, QL.forP_ct, QL.forP_bk, QL.forP_rt, QL.eqO_non_int, QL.eqO_int_non, QL.eqO_non_non, QL.eqO_non_tup, QL.eqO_tup_non, QL.startE, List.map_cons, List.map_nil, List.isEmpty_cons, List.isEmpty_nil, List.append_nil, List.nil_append, List.cons_append, List.length_cons, List.length_nil, Nat.reduceAdd, Nat.reduceSub, Nat.reduceLeDiff, Nat.reduceLT, Nat.reduceMul, Nat.reduceEqDiff, List.replicate_succ, List.replicate_zero, List.getElem?_cons_zero, List.getElem?_cons_succ, List.set_cons_zero, List.set_cons_succ, Option.bind_some, Option.bind_none, Option.some.injEq, QL.D.bl.injEq, QL.D.int.injEq, QL.D.str.injEq, QL.D.lst.injEq, QL.D.tup.injEq, QL.Out.nx.injEq, QL.Out.rt.injEq, QL.Slot.val.injEq, QL.Slot.own.injEq, List.cons.injEq, exists_eq_left, exists_eq_left', exists_eq_right, exists_eq_right', exists_eq, exists_eq', exists_and_left, exists_and_right, decide_eq_true_eq, decide_eq_false_iff_not, Bool.not_true, Bool.not_false, Bool.false_xor, Bool.true_xor, Bool.xor_true, Bool.xor_false, Bool.and_true, Bool.true_and, Bool.and_self, Bool.or_true, Bool.true_or, Bool.or_self, Bool.or_false, Bool.false_or, List.all_cons, List.all_nil, true_and, and_true, and_self, true_or, or_true, if_true, if_false, Bool.not_eq_true', not_false_eq_true, not_true_eq_false, Bool.false_eq_true, Bool.true_eq_false, reduceCtorEq, and_false, false_and, QL.ex_ite, QL.wipeE, QL.noOwn_eq, Option.toList, Int.reduceNeg, Int.reduceToNat, Int.reduceLT, Int.reduceLE, Int.reduceSub, Int.reduceAdd, Int.reduceMul, Int.toNat_zero, Int.cast_ofNat_Int, Int.reduceEq, ite_self, Option.ite_none_right_eq_some])
namespace K_k44
local macro_rules | `(tactic| walk_at "ev") => `(tactic| simp only [QL.optP_some, QL.optP_none, QL.optP_ite, ↓QL.wp_some, ↓QL.wp_none, ↓QL.wp_mr, ↓QL.wp_ml, ↓QL.wp_mb, QL.LIM_eq, QL.strip_int', QL.strip_bl, QL.strip_str', QL.strip_non, QL.strip_hd, QL.strip_lst, QL.strip_tup, QL.strip_brw, QL.plain_int, QL.plain_bl, QL.plain_str, QL.plain_non, QL.plain_hd, QL.plain_lst, QL.plain_tup, QL.plain_brw, QL.plO_eq, QL.scal0_int, QL.scal0_bl, QL.scal0_non, QL.addD_int, QL.subD_int, QL.mulD_int, QL.small64_eq, QL.fdivD_int, QL.modD_int, QL.negD_int, QL.ltD_int, QL.leD_int, QL.gtD_int, QL.geD_int, QL.isND_non, QL.isND_int, QL.isND_bl, QL.isND_str, QL.isND_tup, QL.isND_lst, QL.str2_str, QL.eqO_str, QL.eqO_int, QL.eqO_bl, QL.idxD_lst, QL.idxD_tup, QL.idxD_brw, QL.atI_zero, QL.atI_one, QL.atI_two, QL.atI_three, QL.atI_four, QL.atI_five, QL.addD_tup, QL.truD_bl, QL.truD_int, QL.truD_non, QL.truD_lst, QL.truD_tup, QL.rds_val, QL.rds_own, QL.rds_non, QL.rds_deep, ↓QL.wp_dVar, ↓QL.wp_dC, ↓QL.wp_dOp, ↓QL.wp_dU, ↓QL.wp_dNil, ↓QL.wp_dCons, ↓QL.wp_dTup, ↓QL.wp_dPl, ↓QL.wp_dFz, QL.blO_bl, ↓QL.wp_dTst, ↓QL.wp_dTru, ↓QL.wp_dAnd, ↓QL.wp_dOr, ↓QL.wp_dNot, ↓QL.wp_dAndV, ↓QL.wp_dOrV, ↓QL.wp_dNotV, ↓QL.wp_dIf, ↓QL.wp_dChn, ↓QL.wp_dCall, ↓QL.wp_dCallR, ↓QL.wp_dB, ↓QL.wp_dBN, QL.lenD_lst, QL.lenD_tup, QL.lenD_brw, QL.absD_int, QL.intD_int, QL.intD_bl, QL.max2D_int, QL.min2D_int, QL.lst1_lst, QL.lst1_brw, QL.listD_lst, QL.listD_tup, QL.listD_brw, ↓QL.wp_dIS, QL.seqO_lst, QL.seqO_tup, ↓QL.wp_dIR, QL.optP_rng1, QL.optP_rng2, QL.enuD_lst, QL.zipD_lst, ↓QL.wp_dNoP, QL.intO_int, ↓QL.wp_dPrt, QL.optP_lrg, ↓QL.wp_dLrg1, QL.sortD_lst, QL.sortD_brw, QL.slA_lst, QL.slA_brw, QL.slA_tup, ↓QL.wp_dSlA, QL.slO_lst, QL.slO_brw, ↓QL.wp_dSl, QL.seqP_nx, QL.seqP_rt, QL.seqP_bk, QL.seqP_ct, ↓QL.wp_dSeq, ↓QL.wp_dNx, ↓QL.wp_dPass, ↓QL.wp_dBrk, ↓QL.wp_dCnt, ↓QL.wp_dRetN, ↓QL.wp_dRet, ↓QL.wp_dExpr, ↓QL.wp_dIfS, ↓QL.wp_dAsg, QL.gN_eq, QL.gNil_nil, QL.gCons_cons, QL.gTp_tup, ↓QL.wp_dSetO, ↓QL.wp_dSetF, ↓QL.wp_dParNN, ↓QL.wp_dParNE, ↓QL.wp_dParEN, QL.parO_two, ↓QL.wp_dPar, QL.ownS_own, ↓QL.wp_dApp, ↓QL.wp_dStI, ↓QL.wp_dExt, QL.lstO_lst, ↓QL.wp_dFrz, QL.frzS_own, QL.frzS_val, QL.frzS_non, QL.frz_zero, QL.frz_succ, ↓QL.wp_dNEN, ↓QL.wp_dEEN, ↓QL.wp_dENE, ↓QL.wp_dCat, QL.catO_ll, QL.catO_bl, QL.catO_lb, QL.catO_bb, ↓QL.wp_dFor, ↓QL.wp_lcl_nil, ↓QL.wp_lcl_cons, QL.rngL_length, QL.rE_zero, ↓QL.wp_dLc, QL.notOwn_val, QL.notOwn_non, QL.notOwn_own, QL.notOwn_deep, QL.notOwn_jk, ↓QL.wp_lc1, ↓QL.wp_dYes, QL.fit_int, QL.fit_bl, QL.fit_non, QL.fit_lst, QL.fit_tup, QL.ex_and_eq, ↓QL.wp_dIdx, ↓QL.wp_dRev, QL.revO_lst, QL.revO_brw, QL.tupleD_lst, QL.tupleD_brw, QL.tupleD_tup, QL.sortSetD_lst, QL.sortG_brw, QL.maxG_brw, QL.minG_brw, QL.ltV_int, QL.leV_int, QL.gtV_int, QL.geV_int, QL.okE_int, QL.okE_non, QL.okE_lst, QL.okE_tup, QL.eqO_brwR, QL.eqO_brwL, ↓QL.wp_forl_nil, ↓QL.wp_forl_cons, QL.forP_nx, QL.forP_ct, QL.forP_bk, QL.forP_rt, QL.eqO_non_int, QL.eqO_int_non, QL.eqO_non_non, QL.eqO_non_tup, QL.eqO_tup_non, sumD_eq, encN_eq, QL.startE, List.map_cons, List.map_nil, List.isEmpty_cons, List.isEmpty_nil, List.append_nil, List.nil_append, List.cons_append, List.length_cons, List.length_nil, Nat.reduceAdd, Nat.reduceSub, Nat.reduceLeDiff, Nat.reduceLT, Nat.reduceMul, Nat.reduceEqDiff, List.replicate_succ, List.replicate_zero, List.getElem?_cons_zero, List.getElem?_cons_succ, List.set_cons_zero, List.set_cons_succ, Option.bind_some, Option.bind_none, Option.some.injEq, QL.D.bl.injEq, QL.D.int.injEq, QL.D.str.injEq, QL.D.lst.injEq, QL.D.tup.injEq, QL.Out.nx.injEq, QL.Out.rt.injEq, QL.Slot.val.injEq, QL.Slot.own.injEq, List.cons.injEq, exists_eq_left, exists_eq_left', exists_eq_right, exists_eq_right', exists_eq, exists_eq', exists_and_left, exists_and_right, decide_eq_true_eq, decide_eq_false_iff_not, Bool.not_true, Bool.not_false, Bool.false_xor, Bool.true_xor, Bool.xor_true, Bool.xor_false, Bool.and_true, Bool.true_and, Bool.and_self, Bool.or_true, Bool.true_or, Bool.or_self, Bool.or_false, Bool.false_or, List.all_cons, List.all_nil, true_and, and_true, and_self, true_or, or_true, if_true, if_false, Bool.not_eq_true', not_false_eq_true, not_true_eq_false, Bool.false_eq_true, Bool.true_eq_false, reduceCtorEq, and_false, false_and, QL.ex_ite, QL.wipeE, QL.noOwn_eq, Option.toList, Int.reduceNeg, Int.reduceToNat, Int.reduceLT, Int.reduceLE, Int.reduceSub, Int.reduceAdd, Int.reduceMul, Int.toNat_zero, Int.cast_ofNat_Int, Int.reduceEq, ite_self, Option.ite_none_right_eq_some])
local macro_rules | `(tactic| walk_at "e") => `(tactic| try simp only [QL.optP_some, QL.optP_none, QL.optP_ite, ↓QL.wp_some, ↓QL.wp_none, ↓QL.wp_mr, ↓QL.wp_ml, ↓QL.wp_mb, QL.LIM_eq, QL.strip_int', QL.strip_bl, QL.strip_str', QL.strip_non, QL.strip_hd, QL.strip_lst, QL.strip_tup, QL.strip_brw, QL.plain_int, QL.plain_bl, QL.plain_str, QL.plain_non, QL.plain_hd, QL.plain_lst, QL.plain_tup, QL.plain_brw, QL.plO_eq, QL.scal0_int, QL.scal0_bl, QL.scal0_non, QL.addD_int, QL.subD_int, QL.mulD_int, QL.small64_eq, QL.fdivD_int, QL.modD_int, QL.negD_int, QL.ltD_int, QL.leD_int, QL.gtD_int, QL.geD_int, QL.isND_non, QL.isND_int, QL.isND_bl, QL.isND_str, QL.isND_tup, QL.isND_lst, QL.str2_str, QL.eqO_str, QL.eqO_int, QL.eqO_bl, QL.idxD_lst, QL.idxD_tup, QL.idxD_brw, QL.atI_zero, QL.atI_one, QL.atI_two, QL.atI_three, QL.atI_four, QL.atI_five, QL.addD_tup, QL.truD_bl, QL.truD_int, QL.truD_non, QL.truD_lst, QL.truD_tup, QL.rds_val, QL.rds_own, QL.rds_non, QL.rds_deep, ↓QL.wp_dVar, ↓QL.wp_dC, ↓QL.wp_dOp, ↓QL.wp_dU, ↓QL.wp_dNil, ↓QL.wp_dCons, ↓QL.wp_dTup, ↓QL.wp_dPl, ↓QL.wp_dFz, QL.blO_bl, ↓QL.wp_dTst, ↓QL.wp_dTru, ↓QL.wp_dAnd, ↓QL.wp_dOr, ↓QL.wp_dNot, ↓QL.wp_dAndV, ↓QL.wp_dOrV, ↓QL.wp_dNotV, ↓QL.wp_dIf, ↓QL.wp_dChn, ↓QL.wp_dCall, ↓QL.wp_dCallR, ↓QL.wp_dB, ↓QL.wp_dBN, QL.lenD_lst, QL.lenD_tup, QL.lenD_brw, QL.absD_int, QL.intD_int, QL.intD_bl, QL.max2D_int, QL.min2D_int, QL.lst1_lst, QL.lst1_brw, QL.listD_lst, QL.listD_tup, QL.listD_brw, ↓QL.wp_dIS, QL.seqO_lst, QL.seqO_tup, ↓QL.wp_dIR, QL.optP_rng1, QL.optP_rng2, QL.enuD_lst, QL.zipD_lst, ↓QL.wp_dNoP, QL.intO_int, ↓QL.wp_dPrt, QL.optP_lrg, ↓QL.wp_dLrg1, QL.sortD_lst, QL.sortD_brw, QL.slA_lst, QL.slA_brw, QL.slA_tup, ↓QL.wp_dSlA, QL.slO_lst, QL.slO_brw, ↓QL.wp_dSl, QL.seqP_nx, QL.seqP_rt, QL.seqP_bk, QL.seqP_ct, ↓QL.wp_dSeq, ↓QL.wp_dNx, ↓QL.wp_dPass, ↓QL.wp_dBrk, ↓QL.wp_dCnt, ↓QL.wp_dRetN, ↓QL.wp_dRet, ↓QL.wp_dExpr, ↓QL.wp_dIfS, ↓QL.wp_dAsg, QL.gN_eq, QL.gNil_nil, QL.gCons_cons, QL.gTp_tup, ↓QL.wp_dSetO, ↓QL.wp_dSetF, ↓QL.wp_dParNN, ↓QL.wp_dParNE, ↓QL.wp_dParEN, QL.parO_two, ↓QL.wp_dPar, QL.ownS_own, ↓QL.wp_dApp, ↓QL.wp_dStI, ↓QL.wp_dExt, QL.lstO_lst, ↓QL.wp_dFrz, QL.frzS_own, QL.frzS_val, QL.frzS_non, QL.frz_zero, QL.frz_succ, ↓QL.wp_dNEN, ↓QL.wp_dEEN, ↓QL.wp_dENE, ↓QL.wp_dCat, QL.catO_ll, QL.catO_bl, QL.catO_lb, QL.catO_bb, ↓QL.wp_dFor, ↓QL.wp_lcl_nil, ↓QL.wp_lcl_cons, QL.rngL_length, QL.rE_zero, ↓QL.wp_dLc, QL.notOwn_val, QL.notOwn_non, QL.notOwn_own, QL.notOwn_deep, QL.notOwn_jk, ↓QL.wp_lc1, ↓QL.wp_dYes, QL.fit_int, QL.fit_bl, QL.fit_non, QL.fit_lst, QL.fit_tup, QL.ex_and_eq, ↓QL.wp_dIdx, ↓QL.wp_dRev, QL.revO_lst, QL.revO_brw, QL.tupleD_lst, QL.tupleD_brw, QL.tupleD_tup, QL.sortSetD_lst, QL.sortG_brw, QL.maxG_brw, QL.minG_brw, QL.ltV_int, QL.leV_int, QL.gtV_int, QL.geV_int, QL.okE_int, QL.okE_non, QL.okE_lst, QL.okE_tup, QL.eqO_brwR, QL.eqO_brwL, ↓QL.wp_forl_nil, ↓QL.wp_forl_cons, QL.forP_nx, QL.forP_ct, QL.forP_bk, QL.forP_rt, QL.eqO_non_int, QL.eqO_int_non, QL.eqO_non_non, QL.eqO_non_tup, QL.eqO_tup_non, sumD_eq, encN_eq, QL.startE, List.map_cons, List.map_nil, List.isEmpty_cons, List.isEmpty_nil, List.append_nil, List.nil_append, List.cons_append, List.length_cons, List.length_nil, Nat.reduceAdd, Nat.reduceSub, Nat.reduceLeDiff, Nat.reduceLT, Nat.reduceMul, Nat.reduceEqDiff, List.replicate_succ, List.replicate_zero, List.getElem?_cons_zero, List.getElem?_cons_succ, List.set_cons_zero, List.set_cons_succ, Option.bind_some, Option.bind_none, Option.some.injEq, QL.D.bl.injEq, QL.D.int.injEq, QL.D.str.injEq, QL.D.lst.injEq, QL.D.tup.injEq, QL.Out.nx.injEq, QL.Out.rt.injEq, QL.Slot.val.injEq, QL.Slot.own.injEq, List.cons.injEq, exists_eq_left, exists_eq_left', exists_eq_right, exists_eq_right', exists_eq, exists_eq', exists_and_left, exists_and_right, decide_eq_true_eq, decide_eq_false_iff_not, Bool.not_true, Bool.not_false, Bool.false_xor, Bool.true_xor, Bool.xor_true, Bool.xor_false, Bool.and_true, Bool.true_and, Bool.and_self, Bool.or_true, Bool.true_or, Bool.or_self, Bool.or_false, Bool.false_or, List.all_cons, List.all_nil, true_and, and_true, and_self, true_or, or_true, if_true, if_false, Bool.not_eq_true', not_false_eq_true, not_true_eq_false, Bool.false_eq_true, Bool.true_eq_false, reduceCtorEq, and_false, false_and, QL.ex_ite, QL.wipeE, QL.noOwn_eq, Option.toList, Int.reduceNeg, Int.reduceToNat, Int.reduceLT, Int.reduceLE, Int.reduceSub, Int.reduceAdd, Int.reduceMul, Int.toNat_zero, Int.cast_ofNat_Int, Int.reduceEq, ite_self, Option.ite_none_right_eq_some])
theorem repr_L {L : List Int} (o : okL L) : reprA [eI L] = some (.str (reprS (eI L))) := by
  refine reprA_of (reprB_of rfl ?_ ?_) rfl
  · exact okR_list (n := 8) (f := D.int) L fun x hx => by
      have := o.b x hx
      exact decide_eq_true (by omega)
  · have hn := o.n
    exact Nat.le_trans (szR_list (n := 8) (f := D.int) (c := 100) L fun q hq => (by show 70 + 2 ≤ 100; decide)) (by omega)
theorem law_r22 {L : List Int} (o : okL L) (s : S3) {j2 j3 j4 j5 j6 j7 j8 j9 j10 : Slot} {j25 j26 : Option D} : Wp (d_law_r22 [.val (.hd 1), .val (.hd 0), j2, j3, j4, j5, j6, j7, j8, j9, j10, .val (eI L), .non, .non, .non, .non, .non, .non, .non, .non, .non, .non, .non, .non, .non, jk j25, jk j26] s) fun o _ => o = .rt (.bl true) := by
  have hn := o.n
  unfold d_law_r22
  walk_at "e"
  refine wp_draw (by decide) (by decide) fun e s2 a b => ?_
  walk_at "e"
  unfold d_law_r21
  walk_at "e"
  rw [repr_L o]
  walk_at "e"
  unfold d_law_r20
  walk_at "e"
  rw [trips_ev (by omega)]
  walk_at "e"
  unfold d_law_r19
  walk_at "e"
  rw [least_ev (by omega) a]
  walk_at "e"
  exact law_r18 o a (repr_L o) (j18 := none) s2
end K_k44
end
section
set_option Elab.async false
set_option linter.all false
set_option maxRecDepth 100000
set_option maxHeartbeats 4000000
open QL
local macro_rules | `(tactic| walk_at "ev") => `(tactic| simp only [QL.optP_some, QL.optP_none, QL.optP_ite, ↓QL.wp_some, ↓QL.wp_none, ↓QL.wp_mr, ↓QL.wp_ml, ↓QL.wp_mb, QL.LIM_eq, QL.strip_int', QL.strip_bl, QL.strip_str', QL.strip_non, QL.strip_hd, QL.strip_lst, QL.strip_tup, QL.strip_brw, QL.plain_int, QL.plain_bl, QL.plain_str, QL.plain_non, QL.plain_hd, QL.plain_lst, QL.plain_tup, QL.plain_brw, QL.plO_eq, QL.scal0_int, QL.scal0_bl, QL.scal0_non, QL.addD_int, QL.subD_int, QL.mulD_int, QL.small64_eq, QL.fdivD_int, QL.modD_int, QL.negD_int, QL.ltD_int, QL.leD_int, QL.gtD_int, QL.geD_int, QL.isND_non, QL.isND_int, QL.isND_bl, QL.isND_str, QL.isND_tup, QL.isND_lst, QL.str2_str, QL.eqO_str, QL.eqO_int, QL.eqO_bl, QL.idxD_lst, QL.idxD_tup, QL.idxD_brw, QL.atI_zero, QL.atI_one, QL.atI_two, QL.atI_three, QL.atI_four, QL.atI_five, QL.addD_tup, QL.truD_bl, QL.truD_int, QL.truD_non, QL.truD_lst, QL.truD_tup, QL.rds_val, QL.rds_own, QL.rds_non, QL.rds_deep, ↓QL.wp_dVar, ↓QL.wp_dC, ↓QL.wp_dOp, ↓QL.wp_dU, ↓QL.wp_dNil, ↓QL.wp_dCons, ↓QL.wp_dTup, ↓QL.wp_dPl, ↓QL.wp_dFz, QL.blO_bl, ↓QL.wp_dTst, ↓QL.wp_dTru, ↓QL.wp_dAnd, ↓QL.wp_dOr, ↓QL.wp_dNot, ↓QL.wp_dAndV, ↓QL.wp_dOrV, ↓QL.wp_dNotV, ↓QL.wp_dIf, ↓QL.wp_dChn, ↓QL.wp_dCall, ↓QL.wp_dCallR, ↓QL.wp_dB, ↓QL.wp_dBN, QL.lenD_lst, QL.lenD_tup, QL.lenD_brw, QL.absD_int, QL.intD_int, QL.intD_bl, QL.max2D_int, QL.min2D_int, QL.lst1_lst, QL.lst1_brw, QL.listD_lst, QL.listD_tup, QL.listD_brw, ↓QL.wp_dIS, QL.seqO_lst, QL.seqO_tup, ↓QL.wp_dIR, QL.optP_rng1, QL.optP_rng2, QL.enuD_lst, QL.zipD_lst, ↓QL.wp_dNoP, QL.intO_int, ↓QL.wp_dPrt, QL.optP_lrg, ↓QL.wp_dLrg1, QL.sortD_lst, QL.sortD_brw, QL.slA_lst, QL.slA_brw, QL.slA_tup, ↓QL.wp_dSlA, QL.slO_lst, QL.slO_brw, ↓QL.wp_dSl, QL.seqP_nx, QL.seqP_rt, QL.seqP_bk, QL.seqP_ct, ↓QL.wp_dSeq, ↓QL.wp_dNx, ↓QL.wp_dPass, ↓QL.wp_dBrk, ↓QL.wp_dCnt, ↓QL.wp_dRetN, ↓QL.wp_dRet, ↓QL.wp_dExpr, ↓QL.wp_dIfS, ↓QL.wp_dAsg, QL.gN_eq, QL.gNil_nil, QL.gCons_cons, QL.gTp_tup, ↓QL.wp_dSetO, ↓QL.wp_dSetF, ↓QL.wp_dParNN, ↓QL.wp_dParNE, ↓QL.wp_dParEN, QL.parO_two, ↓QL.wp_dPar, QL.ownS_own, ↓QL.wp_dApp, ↓QL.wp_dStI, ↓QL.wp_dExt, QL.lstO_lst, ↓QL.wp_dFrz, QL.frzS_own, QL.frzS_val, QL.frzS_non, QL.frz_zero, QL.frz_succ, ↓QL.wp_dNEN, ↓QL.wp_dEEN, ↓QL.wp_dENE, ↓QL.wp_dCat, QL.catO_ll, QL.catO_bl, QL.catO_lb, QL.catO_bb, ↓QL.wp_dFor, ↓QL.wp_lcl_nil, ↓QL.wp_lcl_cons, QL.rngL_length, QL.rE_zero, ↓QL.wp_dLc, QL.notOwn_val, QL.notOwn_non, QL.notOwn_own, QL.notOwn_deep, QL.notOwn_jk, ↓QL.wp_lc1, ↓QL.wp_dYes, QL.fit_int, QL.fit_bl, QL.fit_non, QL.fit_lst, QL.fit_tup, QL.ex_and_eq, ↓QL.wp_dIdx, ↓QL.wp_dRev, QL.revO_lst, QL.revO_brw, QL.tupleD_lst, QL.tupleD_brw, QL.tupleD_tup, QL.sortSetD_lst, QL.sortG_brw, QL.maxG_brw, QL.minG_brw, QL.ltV_int, QL.leV_int, QL.gtV_int, QL.geV_int, QL.okE_int, QL.okE_non, QL.okE_lst, QL.okE_tup, QL.eqO_brwR, QL.eqO_brwL, ↓QL.wp_forl_nil, ↓QL.wp_forl_cons, QL.forP_nx, QL.forP_ct, QL.forP_bk, QL.forP_rt, QL.eqO_non_int, QL.eqO_int_non, QL.eqO_non_non, QL.eqO_non_tup, QL.eqO_tup_non, QL.startE, List.map_cons, List.map_nil, List.isEmpty_cons, List.isEmpty_nil, List.append_nil, List.nil_append, List.cons_append, List.length_cons, List.length_nil, Nat.reduceAdd, Nat.reduceSub, Nat.reduceLeDiff, Nat.reduceLT, Nat.reduceMul, Nat.reduceEqDiff, List.replicate_succ, List.replicate_zero, List.getElem?_cons_zero, List.getElem?_cons_succ, List.set_cons_zero, List.set_cons_succ, Option.bind_some, Option.bind_none, Option.some.injEq, QL.D.bl.injEq, QL.D.int.injEq, QL.D.str.injEq, QL.D.lst.injEq, QL.D.tup.injEq, QL.Out.nx.injEq, QL.Out.rt.injEq, QL.Slot.val.injEq, QL.Slot.own.injEq, List.cons.injEq, exists_eq_left, exists_eq_left', exists_eq_right, exists_eq_right', exists_eq, exists_eq', exists_and_left, exists_and_right, decide_eq_true_eq, decide_eq_false_iff_not, Bool.not_true, Bool.not_false, Bool.false_xor, Bool.true_xor, Bool.xor_true, Bool.xor_false, Bool.and_true, Bool.true_and, Bool.and_self, Bool.or_true, Bool.true_or, Bool.or_self, Bool.or_false, Bool.false_or, List.all_cons, List.all_nil, true_and, and_true, and_self, true_or, or_true, if_true, if_false, Bool.not_eq_true', not_false_eq_true, not_true_eq_false, Bool.false_eq_true, Bool.true_eq_false, reduceCtorEq, and_false, false_and, QL.ex_ite, QL.wipeE, QL.noOwn_eq, Option.toList, Int.reduceNeg, Int.reduceToNat, Int.reduceLT, Int.reduceLE, Int.reduceSub, Int.reduceAdd, Int.reduceMul, Int.toNat_zero, Int.cast_ofNat_Int, Int.reduceEq, ite_self, Option.ite_none_right_eq_some])
local macro_rules | `(tactic| walk_at "e") => `(tactic| try simp only [QL.optP_some, QL.optP_none, QL.optP_ite, ↓QL.wp_some, ↓QL.wp_none, ↓QL.wp_mr, ↓QL.wp_ml, ↓QL.wp_mb, QL.LIM_eq, QL.strip_int', QL.strip_bl, QL.strip_str', QL.strip_non, QL.strip_hd, QL.strip_lst, QL.strip_tup, QL.strip_brw, QL.plain_int, QL.plain_bl, QL.plain_str, QL.plain_non, QL.plain_hd, QL.plain_lst, QL.plain_tup, QL.plain_brw, QL.plO_eq, QL.scal0_int, QL.scal0_bl, QL.scal0_non, QL.addD_int, QL.subD_int, QL.mulD_int, QL.small64_eq, QL.fdivD_int, QL.modD_int, QL.negD_int, QL.ltD_int, QL.leD_int, QL.gtD_int, QL.geD_int, QL.isND_non, QL.isND_int, QL.isND_bl, QL.isND_str, QL.isND_tup, QL.isND_lst, QL.str2_str, QL.eqO_str, QL.eqO_int, QL.eqO_bl, QL.idxD_lst, QL.idxD_tup, QL.idxD_brw, QL.atI_zero, QL.atI_one, QL.atI_two, QL.atI_three, QL.atI_four, QL.atI_five, QL.addD_tup, QL.truD_bl, QL.truD_int, QL.truD_non, QL.truD_lst, QL.truD_tup, QL.rds_val, QL.rds_own, QL.rds_non, QL.rds_deep, ↓QL.wp_dVar, ↓QL.wp_dC, ↓QL.wp_dOp, ↓QL.wp_dU, ↓QL.wp_dNil, ↓QL.wp_dCons, ↓QL.wp_dTup, ↓QL.wp_dPl, ↓QL.wp_dFz, QL.blO_bl, ↓QL.wp_dTst, ↓QL.wp_dTru, ↓QL.wp_dAnd, ↓QL.wp_dOr, ↓QL.wp_dNot, ↓QL.wp_dAndV, ↓QL.wp_dOrV, ↓QL.wp_dNotV, ↓QL.wp_dIf, ↓QL.wp_dChn, ↓QL.wp_dCall, ↓QL.wp_dCallR, ↓QL.wp_dB, ↓QL.wp_dBN, QL.lenD_lst, QL.lenD_tup, QL.lenD_brw, QL.absD_int, QL.intD_int, QL.intD_bl, QL.max2D_int, QL.min2D_int, QL.lst1_lst, QL.lst1_brw, QL.listD_lst, QL.listD_tup, QL.listD_brw, ↓QL.wp_dIS, QL.seqO_lst, QL.seqO_tup, ↓QL.wp_dIR, QL.optP_rng1, QL.optP_rng2, QL.enuD_lst, QL.zipD_lst, ↓QL.wp_dNoP, QL.intO_int, ↓QL.wp_dPrt, QL.optP_lrg, ↓QL.wp_dLrg1, QL.sortD_lst, QL.sortD_brw, QL.slA_lst, QL.slA_brw, QL.slA_tup, ↓QL.wp_dSlA, QL.slO_lst, QL.slO_brw, ↓QL.wp_dSl, QL.seqP_nx, QL.seqP_rt, QL.seqP_bk, QL.seqP_ct, ↓QL.wp_dSeq, ↓QL.wp_dNx, ↓QL.wp_dPass, ↓QL.wp_dBrk, ↓QL.wp_dCnt, ↓QL.wp_dRetN, ↓QL.wp_dRet, ↓QL.wp_dExpr, ↓QL.wp_dIfS, ↓QL.wp_dAsg, QL.gN_eq, QL.gNil_nil, QL.gCons_cons, QL.gTp_tup, ↓QL.wp_dSetO, ↓QL.wp_dSetF, ↓QL.wp_dParNN, ↓QL.wp_dParNE, ↓QL.wp_dParEN, QL.parO_two, ↓QL.wp_dPar, QL.ownS_own, ↓QL.wp_dApp, ↓QL.wp_dStI, ↓QL.wp_dExt, QL.lstO_lst, ↓QL.wp_dFrz, QL.frzS_own, QL.frzS_val, QL.frzS_non, QL.frz_zero, QL.frz_succ, ↓QL.wp_dNEN, ↓QL.wp_dEEN, ↓QL.wp_dENE, ↓QL.wp_dCat, QL.catO_ll, QL.catO_bl, QL.catO_lb, QL.catO_bb, ↓QL.wp_dFor, ↓QL.wp_lcl_nil, ↓QL.wp_lcl_cons, QL.rngL_length, QL.rE_zero, ↓QL.wp_dLc, QL.notOwn_val, QL.notOwn_non, QL.notOwn_own, QL.notOwn_deep, QL.notOwn_jk, ↓QL.wp_lc1, ↓QL.wp_dYes, QL.fit_int, QL.fit_bl, QL.fit_non, QL.fit_lst, QL.fit_tup, QL.ex_and_eq, ↓QL.wp_dIdx, ↓QL.wp_dRev, QL.revO_lst, QL.revO_brw, QL.tupleD_lst, QL.tupleD_brw, QL.tupleD_tup, QL.sortSetD_lst, QL.sortG_brw, QL.maxG_brw, QL.minG_brw, QL.ltV_int, QL.leV_int, QL.gtV_int, QL.geV_int, QL.okE_int, QL.okE_non, QL.okE_lst, QL.okE_tup, QL.eqO_brwR, QL.eqO_brwL, ↓QL.wp_forl_nil, ↓QL.wp_forl_cons, QL.forP_nx, QL.forP_ct, QL.forP_bk, QL.forP_rt, QL.eqO_non_int, QL.eqO_int_non, QL.eqO_non_non, QL.eqO_non_tup, QL.eqO_tup_non, QL.startE, List.map_cons, List.map_nil, List.isEmpty_cons, List.isEmpty_nil, List.append_nil, List.nil_append, List.cons_append, List.length_cons, List.length_nil, Nat.reduceAdd, Nat.reduceSub, Nat.reduceLeDiff, Nat.reduceLT, Nat.reduceMul, Nat.reduceEqDiff, List.replicate_succ, List.replicate_zero, List.getElem?_cons_zero, List.getElem?_cons_succ, List.set_cons_zero, List.set_cons_succ, Option.bind_some, Option.bind_none, Option.some.injEq, QL.D.bl.injEq, QL.D.int.injEq, QL.D.str.injEq, QL.D.lst.injEq, QL.D.tup.injEq, QL.Out.nx.injEq, QL.Out.rt.injEq, QL.Slot.val.injEq, QL.Slot.own.injEq, List.cons.injEq, exists_eq_left, exists_eq_left', exists_eq_right, exists_eq_right', exists_eq, exists_eq', exists_and_left, exists_and_right, decide_eq_true_eq, decide_eq_false_iff_not, Bool.not_true, Bool.not_false, Bool.false_xor, Bool.true_xor, Bool.xor_true, Bool.xor_false, Bool.and_true, Bool.true_and, Bool.and_self, Bool.or_true, Bool.true_or, Bool.or_self, Bool.or_false, Bool.false_or, List.all_cons, List.all_nil, true_and, and_true, and_self, true_or, or_true, if_true, if_false, Bool.not_eq_true', not_false_eq_true, not_true_eq_false, Bool.false_eq_true, Bool.true_eq_false, reduceCtorEq, and_false, false_and, QL.ex_ite, QL.wipeE, QL.noOwn_eq, Option.toList, Int.reduceNeg, Int.reduceToNat, Int.reduceLT, Int.reduceLE, Int.reduceSub, Int.reduceAdd, Int.reduceMul, Int.toNat_zero, Int.cast_ofNat_Int, Int.reduceEq, ite_self, Option.ite_none_right_eq_some])
namespace K_k44
local macro_rules | `(tactic| walk_at "ev") => `(tactic| simp only [QL.optP_some, QL.optP_none, QL.optP_ite, ↓QL.wp_some, ↓QL.wp_none, ↓QL.wp_mr, ↓QL.wp_ml, ↓QL.wp_mb, QL.LIM_eq, QL.strip_int', QL.strip_bl, QL.strip_str', QL.strip_non, QL.strip_hd, QL.strip_lst, QL.strip_tup, QL.strip_brw, QL.plain_int, QL.plain_bl, QL.plain_str, QL.plain_non, QL.plain_hd, QL.plain_lst, QL.plain_tup, QL.plain_brw, QL.plO_eq, QL.scal0_int, QL.scal0_bl, QL.scal0_non, QL.addD_int, QL.subD_int, QL.mulD_int, QL.small64_eq, QL.fdivD_int, QL.modD_int, QL.negD_int, QL.ltD_int, QL.leD_int, QL.gtD_int, QL.geD_int, QL.isND_non, QL.isND_int, QL.isND_bl, QL.isND_str, QL.isND_tup, QL.isND_lst, QL.str2_str, QL.eqO_str, QL.eqO_int, QL.eqO_bl, QL.idxD_lst, QL.idxD_tup, QL.idxD_brw, QL.atI_zero, QL.atI_one, QL.atI_two, QL.atI_three, QL.atI_four, QL.atI_five, QL.addD_tup, QL.truD_bl, QL.truD_int, QL.truD_non, QL.truD_lst, QL.truD_tup, QL.rds_val, QL.rds_own, QL.rds_non, QL.rds_deep, ↓QL.wp_dVar, ↓QL.wp_dC, ↓QL.wp_dOp, ↓QL.wp_dU, ↓QL.wp_dNil, ↓QL.wp_dCons, ↓QL.wp_dTup, ↓QL.wp_dPl, ↓QL.wp_dFz, QL.blO_bl, ↓QL.wp_dTst, ↓QL.wp_dTru, ↓QL.wp_dAnd, ↓QL.wp_dOr, ↓QL.wp_dNot, ↓QL.wp_dAndV, ↓QL.wp_dOrV, ↓QL.wp_dNotV, ↓QL.wp_dIf, ↓QL.wp_dChn, ↓QL.wp_dCall, ↓QL.wp_dCallR, ↓QL.wp_dB, ↓QL.wp_dBN, QL.lenD_lst, QL.lenD_tup, QL.lenD_brw, QL.absD_int, QL.intD_int, QL.intD_bl, QL.max2D_int, QL.min2D_int, QL.lst1_lst, QL.lst1_brw, QL.listD_lst, QL.listD_tup, QL.listD_brw, ↓QL.wp_dIS, QL.seqO_lst, QL.seqO_tup, ↓QL.wp_dIR, QL.optP_rng1, QL.optP_rng2, QL.enuD_lst, QL.zipD_lst, ↓QL.wp_dNoP, QL.intO_int, ↓QL.wp_dPrt, QL.optP_lrg, ↓QL.wp_dLrg1, QL.sortD_lst, QL.sortD_brw, QL.slA_lst, QL.slA_brw, QL.slA_tup, ↓QL.wp_dSlA, QL.slO_lst, QL.slO_brw, ↓QL.wp_dSl, QL.seqP_nx, QL.seqP_rt, QL.seqP_bk, QL.seqP_ct, ↓QL.wp_dSeq, ↓QL.wp_dNx, ↓QL.wp_dPass, ↓QL.wp_dBrk, ↓QL.wp_dCnt, ↓QL.wp_dRetN, ↓QL.wp_dRet, ↓QL.wp_dExpr, ↓QL.wp_dIfS, ↓QL.wp_dAsg, QL.gN_eq, QL.gNil_nil, QL.gCons_cons, QL.gTp_tup, ↓QL.wp_dSetO, ↓QL.wp_dSetF, ↓QL.wp_dParNN, ↓QL.wp_dParNE, ↓QL.wp_dParEN, QL.parO_two, ↓QL.wp_dPar, QL.ownS_own, ↓QL.wp_dApp, ↓QL.wp_dStI, ↓QL.wp_dExt, QL.lstO_lst, ↓QL.wp_dFrz, QL.frzS_own, QL.frzS_val, QL.frzS_non, QL.frz_zero, QL.frz_succ, ↓QL.wp_dNEN, ↓QL.wp_dEEN, ↓QL.wp_dENE, ↓QL.wp_dCat, QL.catO_ll, QL.catO_bl, QL.catO_lb, QL.catO_bb, ↓QL.wp_dFor, ↓QL.wp_lcl_nil, ↓QL.wp_lcl_cons, QL.rngL_length, QL.rE_zero, ↓QL.wp_dLc, QL.notOwn_val, QL.notOwn_non, QL.notOwn_own, QL.notOwn_deep, QL.notOwn_jk, ↓QL.wp_lc1, ↓QL.wp_dYes, QL.fit_int, QL.fit_bl, QL.fit_non, QL.fit_lst, QL.fit_tup, QL.ex_and_eq, ↓QL.wp_dIdx, ↓QL.wp_dRev, QL.revO_lst, QL.revO_brw, QL.tupleD_lst, QL.tupleD_brw, QL.tupleD_tup, QL.sortSetD_lst, QL.sortG_brw, QL.maxG_brw, QL.minG_brw, QL.ltV_int, QL.leV_int, QL.gtV_int, QL.geV_int, QL.okE_int, QL.okE_non, QL.okE_lst, QL.okE_tup, QL.eqO_brwR, QL.eqO_brwL, ↓QL.wp_forl_nil, ↓QL.wp_forl_cons, QL.forP_nx, QL.forP_ct, QL.forP_bk, QL.forP_rt, QL.eqO_non_int, QL.eqO_int_non, QL.eqO_non_non, QL.eqO_non_tup, QL.eqO_tup_non, sumD_eq, encN_eq, QL.startE, List.map_cons, List.map_nil, List.isEmpty_cons, List.isEmpty_nil, List.append_nil, List.nil_append, List.cons_append, List.length_cons, List.length_nil, Nat.reduceAdd, Nat.reduceSub, Nat.reduceLeDiff, Nat.reduceLT, Nat.reduceMul, Nat.reduceEqDiff, List.replicate_succ, List.replicate_zero, List.getElem?_cons_zero, List.getElem?_cons_succ, List.set_cons_zero, List.set_cons_succ, Option.bind_some, Option.bind_none, Option.some.injEq, QL.D.bl.injEq, QL.D.int.injEq, QL.D.str.injEq, QL.D.lst.injEq, QL.D.tup.injEq, QL.Out.nx.injEq, QL.Out.rt.injEq, QL.Slot.val.injEq, QL.Slot.own.injEq, List.cons.injEq, exists_eq_left, exists_eq_left', exists_eq_right, exists_eq_right', exists_eq, exists_eq', exists_and_left, exists_and_right, decide_eq_true_eq, decide_eq_false_iff_not, Bool.not_true, Bool.not_false, Bool.false_xor, Bool.true_xor, Bool.xor_true, Bool.xor_false, Bool.and_true, Bool.true_and, Bool.and_self, Bool.or_true, Bool.true_or, Bool.or_self, Bool.or_false, Bool.false_or, List.all_cons, List.all_nil, true_and, and_true, and_self, true_or, or_true, if_true, if_false, Bool.not_eq_true', not_false_eq_true, not_true_eq_false, Bool.false_eq_true, Bool.true_eq_false, reduceCtorEq, and_false, false_and, QL.ex_ite, QL.wipeE, QL.noOwn_eq, Option.toList, Int.reduceNeg, Int.reduceToNat, Int.reduceLT, Int.reduceLE, Int.reduceSub, Int.reduceAdd, Int.reduceMul, Int.toNat_zero, Int.cast_ofNat_Int, Int.reduceEq, ite_self, Option.ite_none_right_eq_some])
local macro_rules | `(tactic| walk_at "e") => `(tactic| try simp only [QL.optP_some, QL.optP_none, QL.optP_ite, ↓QL.wp_some, ↓QL.wp_none, ↓QL.wp_mr, ↓QL.wp_ml, ↓QL.wp_mb, QL.LIM_eq, QL.strip_int', QL.strip_bl, QL.strip_str', QL.strip_non, QL.strip_hd, QL.strip_lst, QL.strip_tup, QL.strip_brw, QL.plain_int, QL.plain_bl, QL.plain_str, QL.plain_non, QL.plain_hd, QL.plain_lst, QL.plain_tup, QL.plain_brw, QL.plO_eq, QL.scal0_int, QL.scal0_bl, QL.scal0_non, QL.addD_int, QL.subD_int, QL.mulD_int, QL.small64_eq, QL.fdivD_int, QL.modD_int, QL.negD_int, QL.ltD_int, QL.leD_int, QL.gtD_int, QL.geD_int, QL.isND_non, QL.isND_int, QL.isND_bl, QL.isND_str, QL.isND_tup, QL.isND_lst, QL.str2_str, QL.eqO_str, QL.eqO_int, QL.eqO_bl, QL.idxD_lst, QL.idxD_tup, QL.idxD_brw, QL.atI_zero, QL.atI_one, QL.atI_two, QL.atI_three, QL.atI_four, QL.atI_five, QL.addD_tup, QL.truD_bl, QL.truD_int, QL.truD_non, QL.truD_lst, QL.truD_tup, QL.rds_val, QL.rds_own, QL.rds_non, QL.rds_deep, ↓QL.wp_dVar, ↓QL.wp_dC, ↓QL.wp_dOp, ↓QL.wp_dU, ↓QL.wp_dNil, ↓QL.wp_dCons, ↓QL.wp_dTup, ↓QL.wp_dPl, ↓QL.wp_dFz, QL.blO_bl, ↓QL.wp_dTst, ↓QL.wp_dTru, ↓QL.wp_dAnd, ↓QL.wp_dOr, ↓QL.wp_dNot, ↓QL.wp_dAndV, ↓QL.wp_dOrV, ↓QL.wp_dNotV, ↓QL.wp_dIf, ↓QL.wp_dChn, ↓QL.wp_dCall, ↓QL.wp_dCallR, ↓QL.wp_dB, ↓QL.wp_dBN, QL.lenD_lst, QL.lenD_tup, QL.lenD_brw, QL.absD_int, QL.intD_int, QL.intD_bl, QL.max2D_int, QL.min2D_int, QL.lst1_lst, QL.lst1_brw, QL.listD_lst, QL.listD_tup, QL.listD_brw, ↓QL.wp_dIS, QL.seqO_lst, QL.seqO_tup, ↓QL.wp_dIR, QL.optP_rng1, QL.optP_rng2, QL.enuD_lst, QL.zipD_lst, ↓QL.wp_dNoP, QL.intO_int, ↓QL.wp_dPrt, QL.optP_lrg, ↓QL.wp_dLrg1, QL.sortD_lst, QL.sortD_brw, QL.slA_lst, QL.slA_brw, QL.slA_tup, ↓QL.wp_dSlA, QL.slO_lst, QL.slO_brw, ↓QL.wp_dSl, QL.seqP_nx, QL.seqP_rt, QL.seqP_bk, QL.seqP_ct, ↓QL.wp_dSeq, ↓QL.wp_dNx, ↓QL.wp_dPass, ↓QL.wp_dBrk, ↓QL.wp_dCnt, ↓QL.wp_dRetN, ↓QL.wp_dRet, ↓QL.wp_dExpr, ↓QL.wp_dIfS, ↓QL.wp_dAsg, QL.gN_eq, QL.gNil_nil, QL.gCons_cons, QL.gTp_tup, ↓QL.wp_dSetO, ↓QL.wp_dSetF, ↓QL.wp_dParNN, ↓QL.wp_dParNE, ↓QL.wp_dParEN, QL.parO_two, ↓QL.wp_dPar, QL.ownS_own, ↓QL.wp_dApp, ↓QL.wp_dStI, ↓QL.wp_dExt, QL.lstO_lst, ↓QL.wp_dFrz, QL.frzS_own, QL.frzS_val, QL.frzS_non, QL.frz_zero, QL.frz_succ, ↓QL.wp_dNEN, ↓QL.wp_dEEN, ↓QL.wp_dENE, ↓QL.wp_dCat, QL.catO_ll, QL.catO_bl, QL.catO_lb, QL.catO_bb, ↓QL.wp_dFor, ↓QL.wp_lcl_nil, ↓QL.wp_lcl_cons, QL.rngL_length, QL.rE_zero, ↓QL.wp_dLc, QL.notOwn_val, QL.notOwn_non, QL.notOwn_own, QL.notOwn_deep, QL.notOwn_jk, ↓QL.wp_lc1, ↓QL.wp_dYes, QL.fit_int, QL.fit_bl, QL.fit_non, QL.fit_lst, QL.fit_tup, QL.ex_and_eq, ↓QL.wp_dIdx, ↓QL.wp_dRev, QL.revO_lst, QL.revO_brw, QL.tupleD_lst, QL.tupleD_brw, QL.tupleD_tup, QL.sortSetD_lst, QL.sortG_brw, QL.maxG_brw, QL.minG_brw, QL.ltV_int, QL.leV_int, QL.gtV_int, QL.geV_int, QL.okE_int, QL.okE_non, QL.okE_lst, QL.okE_tup, QL.eqO_brwR, QL.eqO_brwL, ↓QL.wp_forl_nil, ↓QL.wp_forl_cons, QL.forP_nx, QL.forP_ct, QL.forP_bk, QL.forP_rt, QL.eqO_non_int, QL.eqO_int_non, QL.eqO_non_non, QL.eqO_non_tup, QL.eqO_tup_non, sumD_eq, encN_eq, QL.startE, List.map_cons, List.map_nil, List.isEmpty_cons, List.isEmpty_nil, List.append_nil, List.nil_append, List.cons_append, List.length_cons, List.length_nil, Nat.reduceAdd, Nat.reduceSub, Nat.reduceLeDiff, Nat.reduceLT, Nat.reduceMul, Nat.reduceEqDiff, List.replicate_succ, List.replicate_zero, List.getElem?_cons_zero, List.getElem?_cons_succ, List.set_cons_zero, List.set_cons_succ, Option.bind_some, Option.bind_none, Option.some.injEq, QL.D.bl.injEq, QL.D.int.injEq, QL.D.str.injEq, QL.D.lst.injEq, QL.D.tup.injEq, QL.Out.nx.injEq, QL.Out.rt.injEq, QL.Slot.val.injEq, QL.Slot.own.injEq, List.cons.injEq, exists_eq_left, exists_eq_left', exists_eq_right, exists_eq_right', exists_eq, exists_eq', exists_and_left, exists_and_right, decide_eq_true_eq, decide_eq_false_iff_not, Bool.not_true, Bool.not_false, Bool.false_xor, Bool.true_xor, Bool.xor_true, Bool.xor_false, Bool.and_true, Bool.true_and, Bool.and_self, Bool.or_true, Bool.true_or, Bool.or_self, Bool.or_false, Bool.false_or, List.all_cons, List.all_nil, true_and, and_true, and_self, true_or, or_true, if_true, if_false, Bool.not_eq_true', not_false_eq_true, not_true_eq_false, Bool.false_eq_true, Bool.true_eq_false, reduceCtorEq, and_false, false_and, QL.ex_ite, QL.wipeE, QL.noOwn_eq, Option.toList, Int.reduceNeg, Int.reduceToNat, Int.reduceLT, Int.reduceLE, Int.reduceSub, Int.reduceAdd, Int.reduceMul, Int.toNat_zero, Int.cast_ofNat_Int, Int.reduceEq, ite_self, Option.ite_none_right_eq_some])
theorem law_r24 {r : Hr} (o : okR r) {last day : Nat} (h1 : last ≤ 40) (h2 : day ≤ 40) (s : S3) {j2 j3 j7 j8 : Slot} : Wp (d_law_r24 [.val (.hd 1), .val (.hd 0), j2, j3, .val (.int (r.h.l : Nat)), .val (eR r), .val (.int (day : Nat)), j7, j8, .val (.int (last : Nat)), .val (.int ((B r.h day : Int) - (B r.h last : Int))), .non, .non, .non, .non, .non, .non, .non, .non, .non, .non, .non, .non, .non, .non, .non, .non] s) fun o _ => o = .rt (.bl true) := by
  unfold d_law_r24
  walk_at "e"
  rw [wear_ev o h1 h2]
  walk_at "e"
  have key : ∀ a : Int, (if a > 0 then a else 0) = max 0 a := fun a => by split <;> omega
  rw [key, key, show ((r.z : Int) - ((day : Int) - last)) = (last : Int) + r.z - day by omega, eqO_same true (by rfl)]
  walk_at "e"
  unfold d_law_r23
  walk_at "e"
  refine wp_draw (by decide) (by decide) fun n s2 a2 b2 => ?_
  obtain ⟨n, rfl⟩ := nat_of a2
  walk_at "e"
  refine ⟨rngOk_nat (by omega), by omega, ?_⟩
  rw [rngL_nat]
  refine (lcl_gen (V := fun _ => True) (fun (k : Nat) => D.int (k : Int)) D.int (fun x : Int => 0 ≤ x ∧ x < 20) (List.range n) s2 trivial (fun k hk s _ => ?_)).imp fun ys s3 ⟨⟨c, e, lc, hc⟩, _⟩ => ?_
  · walk_at "e"
    refine wp_draw (by decide) (by decide) fun x s4 a4 b4 => ?_
    walk_at "e"
    exact ⟨a4, b4⟩
  · subst e
    rw [List.length_range] at lc
    walk_at "e"
    exact law_r22 ⟨by omega, hc⟩ s3 (j25 := none) (j26 := none)
theorem law_r28 {r : Hr} (o : okR r) {day c : Nat} (h1 : day ≤ 12) (h2 : c ≤ 30) (s : S3) : Wp (d_law_r28 [.val (.hd 1), .val (.hd 0), .val (.int (r.h.t : Nat)), .val (.int (r.h.b : Nat)), .val (.int (r.h.l : Nat)), .val (eR r), .val (.int (day : Nat)), .val (.int (c : Nat)), .val (.int (0 : Nat)), .non, .non, .non, .non, .non, .non, .non, .non, .non, .non, .non, .non, .non, .non, .non, .non, .non, .non] s) fun o _ => o = .rt (.bl true) := by
  obtain ⟨⟨g1, g2⟩, g3⟩ := fd_least o.h (c := c) (by omega)
  unfold d_law_r28
  walk_at "e"
  have hfd : fdF r.h c ≤ 300 := by
    by_cases q : 300 < fdF r.h c
    · have := g2 300 q
      have hb := B_ge o.h 30
      have := B_mono (h := r.h) (d := 30 * r.h.t) (e := 300) (by have := o.h.t.2; omega)
      omega
    · omega
  refine whl_inv (fun n ρ s1 => ∃ f : Nat, n = 300 - f ∧ f ≤ fdF r.h c ∧ s1 = s ∧ ρ = [.val (.hd 1), .val (.hd 0), .val (.int (r.h.t : Nat)), .val (.int (r.h.b : Nat)), .val (.int (r.h.l : Nat)), .val (eR r), .val (.int (day : Nat)), .val (.int (c : Nat)), .val (.int (f : Nat)), .non, .non, .non, .non, .non, .non, .non, .non, .non, .non, .non, .non, .non, .non, .non, .non, .non, .non]) 300 (by unfold FUEL; omega) ⟨0, rfl, by omega, rfl, rfl⟩ (fun n ρ s1 ⟨f, e1, hf, es, e2⟩ => ?_)
  subst e1 e2 es
  walk_at "e"
  refine opt_at (lblasts_ev o.h f (by omega)) ?_
  walk_at "e"
  refine ⟨fun hc => ?_, fun hc => ?_⟩
  rotate_left
  · have hlt : f < fdF r.h c := by
      by_cases q : f < fdF r.h c
      · exact q
      · rw [show f = fdF r.h c by omega] at hc; omega
    unfold d_law_b1
    walk_at "e"
    exact .inl ⟨_, .inl rfl, 300 - (f + 1), by omega, f + 1, rfl, by omega, by rfl⟩
  have hfc : f = fdF r.h c := by
    by_cases q : f < fdF r.h c
    · have := g2 f q; omega
    · omega
  unfold d_law_r27
  walk_at "e"
  rw [fd_ev o.h c (by omega), hfc]
  walk_at "e"
  rw [due_ev o, ldues_ev o]
  walk_at "e"
  rw [eqO_map (f := encN) (fun a b h => Int.ofNat.inj (D.int.inj h)) (fun _ => rfl), decide_eq_true rfl]
  walk_at "e"
  unfold d_law_r26
  walk_at "e"
  refine wp_draw (by omega) (by omega) fun last s2 a2 b2 => ?_
  obtain ⟨last, rfl⟩ := nat_of a2
  walk_at "e"
  unfold d_law_r25
  walk_at "e"
  refine opt_at (lblasts_ev o.h day (by omega)) ?_
  refine opt_at (lblasts_ev o.h last (by omega)) ?_
  walk_at "e"
  exact law_r24 o (by omega) (by omega) s2
theorem law_ev (ns : List Int) : Wp (d_law (lawS 27) (0, 0, ns)) fun o _ => o = .rt (.bl true) := by
  unfold d_law lawS
  walk_at "e"
  refine wp_draw (by decide) (by decide) fun t s1 a1 b1 => ?_
  obtain ⟨t, rfl⟩ := nat_of a1
  walk_at "e"
  unfold d_law_r35
  walk_at "e"
  refine wp_draw (by omega) (by omega) fun b s2 a2 b2 => ?_
  obtain ⟨b, rfl⟩ := nat_of a2
  walk_at "e"
  unfold d_law_r34
  walk_at "e"
  refine wp_draw (by omega) (by omega) fun l s3 a3 b3 => ?_
  obtain ⟨l, rfl⟩ := nat_of a3
  walk_at "e"
  unfold d_law_r33
  walk_at "e"
  refine wp_draw (by omega) (by omega) fun y s4 a4 b4 => ?_
  obtain ⟨y, rfl⟩ := nat_of a4
  walk_at "e"
  refine wp_draw (by omega) (by omega) fun z s5 a5 b5 => ?_
  obtain ⟨z, rfl⟩ := nat_of a5
  walk_at "e"
  have o : okR ⟨⟨t + 1, b + 1, l + 1⟩, y + 1, z + 1⟩ := ⟨⟨⟨by show 1 ≤ t + 1; omega, by show t + 1 ≤ 9; omega⟩, ⟨by show 1 ≤ b + 1; omega, by show b + 1 ≤ t + 1; omega⟩, ⟨by show 1 ≤ l + 1; omega, by show l + 1 ≤ 12; omega⟩⟩, ⟨by show 1 ≤ y + 1; omega, by show y + 1 ≤ 20; omega⟩, ⟨by show 1 ≤ z + 1; omega, by show z + 1 ≤ 6; omega⟩⟩
  unfold d_law_r32
  walk_at "e"
  refine wp_draw (by omega) (by omega) fun day s6 a6 b6 => ?_
  obtain ⟨day, rfl⟩ := nat_of a6
  walk_at "e"
  rw [show (1 : Int) + (t : Nat) = ((t + 1 : Nat) : Int) by omega, show (1 : Int) + (b : Nat) = ((b + 1 : Nat) : Int) by omega, show (1 : Int) + (l : Nat) = ((l + 1 : Nat) : Int) by omega, show (1 : Int) + (y : Nat) = ((y + 1 : Nat) : Int) by omega, show (1 : Int) + (z : Nat) = ((z + 1 : Nat) : Int) by omega]
  unfold d_law_r31
  walk_at "e"
  refine opt_at (blasts_ev o.h day (by omega)) ?_
  refine opt_at (lblasts_ev o.h day (by omega)) ?_
  walk_at "e"
  unfold d_law_r30
  walk_at "e"
  refine wp_draw (by omega) (by omega) fun c s7 a7 b7 => ?_
  obtain ⟨c, rfl⟩ := nat_of a7
  walk_at "e"
  unfold d_law_r29
  walk_at "e"
  exact law_r28 o (by omega) (by omega) s7
theorem law_true : ∀ ns : List Int, ∃ st', d_law (lawS 27) (0, 0, ns) = some (.rt (.bl true), st') := fun ns => by
  obtain ⟨o, s, e, rfl⟩ := law_ev ns
  exact ⟨s, e⟩
end K_k44
end
set_option Elab.async false
set_option linter.all false
set_option maxRecDepth 100000
set_option maxHeartbeats 8000000
namespace K_k44
open PySem PySem.Spec L2 QL
theorem all_mk {l : PySem.W.OpenLaw} {w : World} {K : PySem.W.Frag} {h : Heap} {mg : Str → Option Value} {fa : Addr} (X : K.In h) (G : h.Ns mainGlobals mg) (hfa : mg "law" = some (.ref fa)) (ok : ∀ ns : List Int, ∃ st', d_law (lawS 27) (0, 0, ns) = some (.rt (.bl true), st'))
    {f1 f2 f3 f4 f5 f6 f7 f8 f9 f10 f11 f12 f13 f14 f15 f16 : Addr} {od1 an1 od2 an2 od3 an3 od4 an4 od5 an5 od6 an6 od7 an7 od8 an8 od9 an9 od10 an10 od11 an11 od12 an12 od13 an13 od14 an14 od15 an15 od16 an16 : Option Addr} {sl1 sl2 sl3 sl4 sl5 sl6 sl7 sl8 sl9 sl10 sl11 sl12 sl13 sl14 sl15 sl16 : Array (Option Value)} {oc1 kV1 dc1 pm1 cd1 ct1 oc2 kV2 dc2 pm2 cd2 ct2 oc3 kV3 dc3 pm3 cd3 ct3 oc4 kV4 dc4 pm4 cd4 ct4 oc5 kV5 dc5 pm5 cd5 ct5 oc6 kV6 dc6 pm6 cd6 ct6 oc7 kV7 dc7 pm7 cd7 ct7 oc8 kV8 dc8 pm8 cd8 ct8 oc9 kV9 dc9 pm9 cd9 ct9 oc10 kV10 dc10 pm10 cd10 ct10 oc11 kV11 dc11 pm11 cd11 ct11 oc12 kV12 dc12 pm12 cd12 ct12 oc13 kV13 dc13 pm13 cd13 ct13 oc14 kV14 dc14 pm14 cd14 ct14 oc15 kV15 dc15 pm15 cd15 ct15 oc16 kV16 dc16 pm16 cd16 ct16 : Value}
    (a1 : PySem.W.nsIn K mainGlobals "blasts_up_to" = some (some (.ref f1))) (l1 : K.lookup f1 = some ⟨oc1, od1, .func (PySem.W.fnOf "blasts_up_to" "blasts_up_to" (defArgs s_blasts_up_to) (defBody s_blasts_up_to) (defScope s_blasts_up_to) .none kV1 dc1 pm1 an1 cd1 ct1), sl1⟩) (c1 : PySem.W.codeIn K cd1 "blasts_up_to" = true) (k1 : PySem.W.keepIn K (.ref f1) = true)
    (a2 : PySem.W.nsIn K mainGlobals "trips" = some (some (.ref f2))) (l2 : K.lookup f2 = some ⟨oc2, od2, .func (PySem.W.fnOf "trips" "trips" (defArgs s_trips) (defBody s_trips) (defScope s_trips) .none kV2 dc2 pm2 an2 cd2 ct2), sl2⟩) (c2 : PySem.W.codeIn K cd2 "trips" = true) (k2 : PySem.W.keepIn K (.ref f2) = true)
    (a3 : PySem.W.nsIn K mainGlobals "trips_fault" = some (some (.ref f3))) (l3 : K.lookup f3 = some ⟨oc3, od3, .func (PySem.W.fnOf "trips_fault" "trips_fault" (defArgs s_trips_fault) (defBody s_trips_fault) (defScope s_trips_fault) .none kV3 dc3 pm3 an3 cd3 ct3), sl3⟩) (c3 : PySem.W.codeIn K cd3 "trips_fault" = true) (k3 : PySem.W.keepIn K (.ref f3) = true)
    (a4 : PySem.W.nsIn K mainGlobals "far_apart" = some (some (.ref f4))) (l4 : K.lookup f4 = some ⟨oc4, od4, .func (PySem.W.fnOf "far_apart" "far_apart" (defArgs s_far_apart) (defBody s_far_apart) (defScope s_far_apart) .none kV4 dc4 pm4 an4 cd4 ct4), sl4⟩) (c4 : PySem.W.codeIn K cd4 "far_apart" = true) (k4 : PySem.W.keepIn K (.ref f4) = true)
    (a5 : PySem.W.nsIn K mainGlobals "_law_draw" = some (some (.ref f5))) (l5 : K.lookup f5 = some ⟨oc5, od5, .func (PySem.W.fnOf "_law_draw" "_law_draw" (defArgs s__law_draw) (defBody s__law_draw) (defScope s__law_draw) .none kV5 dc5 pm5 an5 cd5 ct5), sl5⟩) (c5 : PySem.W.codeIn K cd5 "_law_draw" = true) (k5 : PySem.W.keepIn K (.ref f5) = true)
    (a6 : PySem.W.nsIn K mainGlobals "_law_blasts" = some (some (.ref f6))) (l6 : K.lookup f6 = some ⟨oc6, od6, .func (PySem.W.fnOf "_law_blasts" "_law_blasts" (defArgs s__law_blasts) (defBody s__law_blasts) (defScope s__law_blasts) .none kV6 dc6 pm6 an6 cd6 ct6), sl6⟩) (c6 : PySem.W.codeIn K cd6 "_law_blasts" = true) (k6 : PySem.W.keepIn K (.ref f6) = true)
    (a7 : PySem.W.nsIn K mainGlobals "_law_sets" = some (some (.ref f7))) (l7 : K.lookup f7 = some ⟨oc7, od7, .func (PySem.W.fnOf "_law_sets" "_law_sets" (defArgs s__law_sets) (defBody s__law_sets) (defScope s__law_sets) .none kV7 dc7 pm7 an7 cd7 ct7), sl7⟩) (c7 : PySem.W.codeIn K cd7 "_law_sets" = true) (k7 : PySem.W.keepIn K (.ref f7) = true)
    (a8 : PySem.W.nsIn K mainGlobals "_law_enough" = some (some (.ref f8))) (l8 : K.lookup f8 = some ⟨oc8, od8, .func (PySem.W.fnOf "_law_enough" "_law_enough" (defArgs s__law_enough) (defBody s__law_enough) (defScope s__law_enough) .none kV8 dc8 pm8 an8 cd8 ct8), sl8⟩) (c8 : PySem.W.codeIn K cd8 "_law_enough" = true) (k8 : PySem.W.keepIn K (.ref f8) = true)
    (a9 : PySem.W.nsIn K mainGlobals "first_day_with" = some (some (.ref f9))) (l9 : K.lookup f9 = some ⟨oc9, od9, .func (PySem.W.fnOf "first_day_with" "first_day_with" (defArgs s_first_day_with) (defBody s_first_day_with) (defScope s_first_day_with) .none kV9 dc9 pm9 an9 cd9 ct9), sl9⟩) (c9 : PySem.W.codeIn K cd9 "first_day_with" = true) (k9 : PySem.W.keepIn K (.ref f9) = true)
    (a10 : PySem.W.nsIn K mainGlobals "least_early" = some (some (.ref f10))) (l10 : K.lookup f10 = some ⟨oc10, od10, .func (PySem.W.fnOf "least_early" "least_early" (defArgs s_least_early) (defBody s_least_early) (defScope s_least_early) .none kV10 dc10 pm10 an10 cd10 ct10), sl10⟩) (c10 : PySem.W.codeIn K cd10 "least_early" = true) (k10 : PySem.W.keepIn K (.ref f10) = true)
    (a11 : PySem.W.nsIn K mainGlobals "wear_left" = some (some (.ref f11))) (l11 : K.lookup f11 = some ⟨oc11, od11, .func (PySem.W.fnOf "wear_left" "wear_left" (defArgs s_wear_left) (defBody s_wear_left) (defScope s_wear_left) .none kV11 dc11 pm11 an11 cd11 ct11), sl11⟩) (c11 : PySem.W.codeIn K cd11 "wear_left" = true) (k11 : PySem.W.keepIn K (.ref f11) = true)
    (a12 : PySem.W.nsIn K mainGlobals "_law_dues" = some (some (.ref f12))) (l12 : K.lookup f12 = some ⟨oc12, od12, .func (PySem.W.fnOf "_law_dues" "_law_dues" (defArgs s__law_dues) (defBody s__law_dues) (defScope s__law_dues) .none kV12 dc12 pm12 an12 cd12 ct12), sl12⟩) (c12 : PySem.W.codeIn K cd12 "_law_dues" = true) (k12 : PySem.W.keepIn K (.ref f12) = true)
    (a13 : PySem.W.nsIn K mainGlobals "_law_least" = some (some (.ref f13))) (l13 : K.lookup f13 = some ⟨oc13, od13, .func (PySem.W.fnOf "_law_least" "_law_least" (defArgs s__law_least) (defBody s__law_least) (defScope s__law_least) .none kV13 dc13 pm13 an13 cd13 ct13), sl13⟩) (c13 : PySem.W.codeIn K cd13 "_law_least" = true) (k13 : PySem.W.keepIn K (.ref f13) = true)
    (a14 : PySem.W.nsIn K mainGlobals "due_days" = some (some (.ref f14))) (l14 : K.lookup f14 = some ⟨oc14, od14, .func (PySem.W.fnOf "due_days" "due_days" (defArgs s_due_days) (defBody s_due_days) (defScope s_due_days) .none kV14 dc14 pm14 an14 cd14 ct14), sl14⟩) (c14 : PySem.W.codeIn K cd14 "due_days" = true) (k14 : PySem.W.keepIn K (.ref f14) = true)
    (a15 : PySem.W.nsIn K mainGlobals "_law_fault" = some (some (.ref f15))) (l15 : K.lookup f15 = some ⟨oc15, od15, .func (PySem.W.fnOf "_law_fault" "_law_fault" (defArgs s__law_fault) (defBody s__law_fault) (defScope s__law_fault) .none kV15 dc15 pm15 an15 cd15 ct15), sl15⟩) (c15 : PySem.W.codeIn K cd15 "_law_fault" = true) (k15 : PySem.W.keepIn K (.ref f15) = true)
    (a16 : PySem.W.nsIn K mainGlobals "law" = some (some (.ref f16))) (l16 : K.lookup f16 = some ⟨oc16, od16, .func (PySem.W.fnOf "law" "law" (defArgs s_law) (defBody s_law) (defScope s_law) .none kV16 dc16 pm16 an16 cd16 ct16), sl16⟩) (c16 : PySem.W.codeIn K cd16 "law" = true) (k16 : PySem.W.keepIn K (.ref f16) = true)
    (z1 : PySem.W.nsIn K mainGlobals "abs" = some none) (z2 : PySem.W.nsIn K mainGlobals "enumerate" = some none) (z3 : PySem.W.nsIn K mainGlobals "int" = some none) (z4 : PySem.W.nsIn K mainGlobals "len" = some none) (z5 : PySem.W.nsIn K mainGlobals "max" = some none) (z6 : PySem.W.nsIn K mainGlobals "min" = some none) (z7 : PySem.W.nsIn K mainGlobals "range" = some none) (z8 : PySem.W.nsIn K mainGlobals "repr" = some none) (z9 : PySem.W.nsIn K mainGlobals "set" = some none) (z10 : PySem.W.nsIn K mainGlobals "sorted" = some none) (z11 : PySem.W.nsIn K mainGlobals "zip" = some none) :
    ∃ fd : FuncData, (∀ (s : Shared) (v : Value), BindsTo s fd ⟨[v], []⟩ [("script", v)]) ∧ ∀ base : Heap, K.In base → base.Ns mainGlobals mg → RunAt l.prog w K mg base PySem.callerA fa fd ["script"] (spLaw K) := by
  have e := hfa.symm.trans (PySem.W.mg_of X G a16)
  cases e
  have F1 := fun_mk (st := s_blasts_up_to) l1 c1 k1
  have F2 := fun_mk (st := s_trips) l2 c2 k2
  have F3 := fun_mk (st := s_trips_fault) l3 c3 k3
  have F4 := fun_mk (st := s_far_apart) l4 c4 k4
  have F5 := fun_mk (st := s__law_draw) l5 c5 k5
  have F6 := fun_mk (st := s__law_blasts) l6 c6 k6
  have F7 := fun_mk (st := s__law_sets) l7 c7 k7
  have F8 := fun_mk (st := s__law_enough) l8 c8 k8
  have F9 := fun_mk (st := s_first_day_with) l9 c9 k9
  have F10 := fun_mk (st := s_least_early) l10 c10 k10
  have F11 := fun_mk (st := s_wear_left) l11 c11 k11
  have F12 := fun_mk (st := s__law_dues) l12 c12 k12
  have F13 := fun_mk (st := s__law_least) l13 c13 k13
  have F14 := fun_mk (st := s_due_days) l14 c14 k14
  have F15 := fun_mk (st := s__law_fault) l15 c15 k15
  have F16 := fun_mk (st := s_law) l16 c16 k16
  have T : Tx K mg (fun i => if i = 1 then f1 else if i = 4 then f2 else if i = 5 then f3 else if i = 6 then f4 else if i = 10 then f5 else if i = 12 then f6 else if i = 14 then f7 else if i = 15 then f8 else if i = 2 then f9 else if i = 7 then f10 else if i = 8 then f11 else if i = 13 then f12 else if i = 16 then f13 else if i = 3 then f14 else if i = 17 then f15 else if i = 18 then fa else 0) (fun i => if i = 1 then PySem.W.fnOf "blasts_up_to" "blasts_up_to" (defArgs s_blasts_up_to) (defBody s_blasts_up_to) (defScope s_blasts_up_to) .none kV1 dc1 pm1 an1 cd1 ct1 else if i = 4 then PySem.W.fnOf "trips" "trips" (defArgs s_trips) (defBody s_trips) (defScope s_trips) .none kV2 dc2 pm2 an2 cd2 ct2 else if i = 5 then PySem.W.fnOf "trips_fault" "trips_fault" (defArgs s_trips_fault) (defBody s_trips_fault) (defScope s_trips_fault) .none kV3 dc3 pm3 an3 cd3 ct3 else if i = 6 then PySem.W.fnOf "far_apart" "far_apart" (defArgs s_far_apart) (defBody s_far_apart) (defScope s_far_apart) .none kV4 dc4 pm4 an4 cd4 ct4 else if i = 10 then PySem.W.fnOf "_law_draw" "_law_draw" (defArgs s__law_draw) (defBody s__law_draw) (defScope s__law_draw) .none kV5 dc5 pm5 an5 cd5 ct5 else if i = 12 then PySem.W.fnOf "_law_blasts" "_law_blasts" (defArgs s__law_blasts) (defBody s__law_blasts) (defScope s__law_blasts) .none kV6 dc6 pm6 an6 cd6 ct6 else if i = 14 then PySem.W.fnOf "_law_sets" "_law_sets" (defArgs s__law_sets) (defBody s__law_sets) (defScope s__law_sets) .none kV7 dc7 pm7 an7 cd7 ct7 else if i = 15 then PySem.W.fnOf "_law_enough" "_law_enough" (defArgs s__law_enough) (defBody s__law_enough) (defScope s__law_enough) .none kV8 dc8 pm8 an8 cd8 ct8 else if i = 2 then PySem.W.fnOf "first_day_with" "first_day_with" (defArgs s_first_day_with) (defBody s_first_day_with) (defScope s_first_day_with) .none kV9 dc9 pm9 an9 cd9 ct9 else if i = 7 then PySem.W.fnOf "least_early" "least_early" (defArgs s_least_early) (defBody s_least_early) (defScope s_least_early) .none kV10 dc10 pm10 an10 cd10 ct10 else if i = 8 then PySem.W.fnOf "wear_left" "wear_left" (defArgs s_wear_left) (defBody s_wear_left) (defScope s_wear_left) .none kV11 dc11 pm11 an11 cd11 ct11 else if i = 13 then PySem.W.fnOf "_law_dues" "_law_dues" (defArgs s__law_dues) (defBody s__law_dues) (defScope s__law_dues) .none kV12 dc12 pm12 an12 cd12 ct12 else if i = 16 then PySem.W.fnOf "_law_least" "_law_least" (defArgs s__law_least) (defBody s__law_least) (defScope s__law_least) .none kV13 dc13 pm13 an13 cd13 ct13 else if i = 3 then PySem.W.fnOf "due_days" "due_days" (defArgs s_due_days) (defBody s_due_days) (defScope s_due_days) .none kV14 dc14 pm14 an14 cd14 ct14 else if i = 17 then PySem.W.fnOf "_law_fault" "_law_fault" (defArgs s__law_fault) (defBody s__law_fault) (defScope s__law_fault) .none kV15 dc15 pm15 an15 cd15 ct15 else if i = 18 then PySem.W.fnOf "law" "law" (defArgs s_law) (defBody s_law) (defScope s_law) .none kV16 dc16 pm16 an16 cd16 ct16 else PySem.W.fnOf "law" "law" (defArgs s_law) (defBody s_law) (defScope s_law) .none kV16 dc16 pm16 an16 cd16 ct16) := ⟨F1, F1.binds (fun _ _ _ _ _ _ us hl => match us, hl with | [_, _, _, _], _ => rfl), PySem.W.mg_of X G a1,
    F2, F2.binds (fun _ _ _ _ _ _ us hl => match us, hl with | [_, _], _ => rfl), PySem.W.mg_of X G a2,
    F3, F3.binds (fun _ _ _ _ _ _ us hl => match us, hl with | [_, _, _], _ => rfl), PySem.W.mg_of X G a3,
    F4, F4.binds (fun _ _ _ _ _ _ us hl => match us, hl with | [_, _], _ => rfl), PySem.W.mg_of X G a4,
    F5, F5.binds (fun _ _ _ _ _ _ us hl => match us, hl with | [_, _, _], _ => rfl), PySem.W.mg_of X G a5,
    F6, F6.binds (fun _ _ _ _ _ _ us hl => match us, hl with | [_, _, _, _], _ => rfl), PySem.W.mg_of X G a6,
    F7, F7.binds (fun _ _ _ _ _ _ us hl => match us, hl with | [_], _ => rfl), PySem.W.mg_of X G a7,
    F8, F8.binds (fun _ _ _ _ _ _ us hl => match us, hl with | [_, _, _], _ => rfl), PySem.W.mg_of X G a8,
    F9, F9.binds (fun _ _ _ _ _ _ us hl => match us, hl with | [_, _, _, _], _ => rfl), PySem.W.mg_of X G a9,
    F10, F10.binds (fun _ _ _ _ _ _ us hl => match us, hl with | [_, _], _ => rfl), PySem.W.mg_of X G a10,
    F11, F11.binds (fun _ _ _ _ _ _ us hl => match us, hl with | [_, _, _, _], _ => rfl), PySem.W.mg_of X G a11,
    F12, F12.binds (fun _ _ _ _ _ _ us hl => match us, hl with | [_, _, _], _ => rfl), PySem.W.mg_of X G a12,
    F13, F13.binds (fun _ _ _ _ _ _ us hl => match us, hl with | [_, _], _ => rfl), PySem.W.mg_of X G a13,
    F14, F14.binds (fun _ _ _ _ _ _ us hl => match us, hl with | [_, _, _], _ => rfl), PySem.W.mg_of X G a14,
    F15, F15.binds (fun _ _ _ _ _ _ us hl => match us, hl with | [_, _, _], _ => rfl), PySem.W.mg_of X G a15,
    F16, F16.binds (fun _ _ _ _ _ _ us hl => match us, hl with | [_], _ => rfl), PySem.W.mg_of X G a16,
    PySem.W.mg_none_of X G z1, PySem.W.mg_none_of X G z2, PySem.W.mg_none_of X G z3, PySem.W.mg_none_of X G z4, PySem.W.mg_none_of X G z5, PySem.W.mg_none_of X G z6, PySem.W.mg_none_of X G z7, PySem.W.mg_none_of X G z8, PySem.W.mg_none_of X G z9, PySem.W.mg_none_of X G z10, PySem.W.mg_none_of X G z11⟩
  exact ⟨_, fun s v => .of_eq rfl, fun base _ _ => ok_law T ok⟩
end K_k44
open PySem PySem.W PyProof.Rows
set_option maxRecDepth 100000 in
set_option maxHeartbeats 0 in
theorem PySem.Challenge.cw_hornwright_k44_whole_services_holds : PySem.Challenge.rw_hornwright_k44_whole_services.Holds := by
  w_on; o_law; k_head; (case hw => w_witness2)
  k_fill
  refine QL.walk_at (l := PySem.Challenge.rw_hornwright_k44_whole_services) (n := 63) (x := "script") (sp := fun w => QL.spLaw _) rfl (by decide) rfl (fun w h Y => PySem.W.kIn_of Y) ?F (fun _ _ a ns hl _ hS => ⟨a, ns, rfl, hS, hl, fun _ => rfl⟩)
  case F =>
    intro w mg fa h KX G hmg
    refine' K_k44.all_mk KX G hmg K_k44.law_true  ?a1 ?l1 ?c1 ?k1 ?a2 ?l2 ?c2 ?k2 ?a3 ?l3 ?c3 ?k3 ?a4 ?l4 ?c4 ?k4 ?a5 ?l5 ?c5 ?k5 ?a6 ?l6 ?c6 ?k6 ?a7 ?l7 ?c7 ?k7 ?a8 ?l8 ?c8 ?k8 ?a9 ?l9 ?c9 ?k9 ?a10 ?l10 ?c10 ?k10 ?a11 ?l11 ?c11 ?k11 ?a12 ?l12 ?c12 ?k12 ?a13 ?l13 ?c13 ?k13 ?a14 ?l14 ?c14 ?k14 ?a15 ?l15 ?c15 ?k15 ?a16 ?l16 ?c16 ?k16 ?z1 ?z2 ?z3 ?z4 ?z5 ?z6 ?z7 ?z8 ?z9 ?z10 ?z11
    (case a1 => k_is); (case l1 => k_is); (case c1 => k_is); (case k1 => k_is); (case a2 => k_is); (case l2 => k_is); (case c2 => k_is); (case k2 => k_is); (case a3 => k_is); (case l3 => k_is); (case c3 => k_is); (case k3 => k_is); (case a4 => k_is); (case l4 => k_is); (case c4 => k_is); (case k4 => k_is); (case a5 => k_is); (case l5 => k_is); (case c5 => k_is); (case k5 => k_is); (case a6 => k_is); (case l6 => k_is); (case c6 => k_is); (case k6 => k_is); (case a7 => k_is); (case l7 => k_is); (case c7 => k_is); (case k7 => k_is); (case a8 => k_is); (case l8 => k_is); (case c8 => k_is); (case k8 => k_is); (case a9 => k_is); (case l9 => k_is); (case c9 => k_is); (case k9 => k_is); (case a10 => k_is); (case l10 => k_is); (case c10 => k_is); (case k10 => k_is); (case a11 => k_is); (case l11 => k_is); (case c11 => k_is); (case k11 => k_is); (case a12 => k_is); (case l12 => k_is); (case c12 => k_is); (case k12 => k_is); (case a13 => k_is); (case l13 => k_is); (case c13 => k_is); (case k13 => k_is); (case a14 => k_is); (case l14 => k_is); (case c14 => k_is); (case k14 => k_is); (case a15 => k_is); (case l15 => k_is); (case c15 => k_is); (case k15 => k_is); (case a16 => k_is); (case l16 => k_is); (case c16 => k_is); (case k16 => k_is); (case z1 => k_is); (case z2 => k_is); (case z3 => k_is); (case z4 => k_is); (case z5 => k_is); (case z6 => k_is); (case z7 => k_is); (case z8 => k_is); (case z9 => k_is); (case z10 => k_is); (case z11 => k_is)
