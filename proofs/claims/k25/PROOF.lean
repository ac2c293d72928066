import PyProof.Rows.All
import Wide.All
import OpenK.AllK
import Wide.FinOn
import HandS.ForMost
import HandS.Exc
import HandS.ExcOwn
import HandS.CallSlots
import HandS.ExcCtx
import HandS.Flow
import HandS.Steps
import HandS.WordsExc
import HandS.Defaults
import HandS.TupAny
import HandS.IsInst
import HandS.Wide
import HandS.More
import HandS.NoneIn
import HandS.Deep
import HandS.ExcInit
import HandS.ExcField
import HandS.ExcIs
import HandS.HotCalls
import HandS.Head0
import HandS.Head1
import HandS.Head2
import HandS.HeadEnd
import HandS.HeadHook1
import HandS.HeadHook2
import HandS.HeadHook3
import HandS.HeadHook4
import PySem.Challenge.RW_pilerecall_k25_pieces
set_option Elab.async false
set_option linter.all false
set_option maxRecDepth 100000
set_option maxHeartbeats 4000000
namespace DL
open PySem PySem.Spec PyProof.Rows L2

/-- a value as a tree; an exception's end; a value with its owner -/
inductive D where
  | non | bl (b : Bool) | int (i : Int) | str (x : Str)
  | tup (xs : List D) | lst (xs : List D)
  | dct (kvs : List (D × D)) | obj (c : Str) (fs : List (Str × D))
  | exn (a dd : Addr) (c : Str) (fs : List (Str × D))
inductive R (α : Type) where
  | ok (a : α) | ex (c : Str) (fs : List (Str × D)) | stuck
def R.bind {α β : Type} : R α → (α → R β) → R β
  | .ok a, f => f a
  | .ex c fs, _ => .ex c fs
  | .stuck, _ => .stuck
instance : Monad R := { pure := R.ok, bind := R.bind }
theorem bind_ok {α β : Type} (a : α) (f : α → R β) : (R.ok a >>= f) = f a := rfl
theorem bind_ex {α β : Type} (c : Str) (fs : List (Str × D)) (f : α → R β) : (R.ex c fs >>= f) = R.ex c fs := rfl
theorem bind_stuck {α β : Type} (f : α → R β) : ((R.stuck : R α) >>= f) = R.stuck := rfl
theorem pure_ok {α : Type} (a : α) : (pure a : R α) = R.ok a := rfl
/-- fr: shared for good; ol: a list that one slot alone knows; od: a dict that one slot alone knows (t: its keys are tuples) -/
inductive RV where
  | fr (d : D) | ol (xs : List D) | od (t : Bool) (kvs : List (D × D))
def RV.d : RV → D
  | .fr d => d
  | .ol xs => .lst xs
  | .od _ kvs => .dct kvs
def RV.own : RV → Bool
  | .fr _ => false
  | _ => true
abbrev DE := List (Option RV)

def keyD : Key → D
  | .inl i => .int i
  | .inr x => .str x
mutual
inductive Dp (K : PySem.W.Frag) (mg : Str → Option Value) (G : Hp) : V → D → Prop
  | non : Dp K mg G .non .non
  | bl (b : Bool) : Dp K mg G (.bl b) (.bl b)
  | int (i : Int) : Dp K mg G (.int i) (.int i)
  | str (x : Str) (h : x.cps.all (· < 0x110000) = true) : Dp K mg G (.str x) (.str x)
  | lst {a : Addr} {xs : List V} {ds : List D} : Rd G a (.lst xs) → DpAll K mg G xs ds → Dp K mg G (.ref a) (.lst ds)
  | tup {a : Addr} {xs : List V} {ds : List D} : SqT K G a xs → DpAll K mg G xs ds → Dp K mg G (.ref a) (.tup ds)
  | dk {a : Addr} {kvs : List (Key × V)} {dk : List (D × D)} : G a = some (.dK kvs) → DpK K mg G kvs dk → Dp K mg G (.ref a) (.dct dk)
  | dt {a : Addr} {kvs : List (List Key × V)} {dk : List (D × D)} : G a = some (.dT kvs) → DpT K mg G kvs dk → Dp K mg G (.ref a) (.dct dk)
  | obj {a C dx : Addr} {fs : List (Str × V)} {c : Str} {df : List (Str × D)} : mg c = some (.ref C) → G a = some (.ins C dx fs) → DpF K mg G fs df → Dp K mg G (.ref a) (.obj c df)
  | exn {a dd C : Addr} {xs : List (Str × V)} {c : Str} {fs : List (Str × D)} : mg c = some (.ref C) → G dd = some (.xd xs) → DpF K mg G xs fs → Dp K mg G (.ref a) (.exn a dd c fs)
inductive DpAll (K : PySem.W.Frag) (mg : Str → Option Value) (G : Hp) : List V → List D → Prop
  | nil : DpAll K mg G [] []
  | cons {v : V} {vs : List V} {d : D} {ds : List D} : Dp K mg G v d → DpAll K mg G vs ds → DpAll K mg G (v :: vs) (d :: ds)
inductive DpK (K : PySem.W.Frag) (mg : Str → Option Value) (G : Hp) : List (Key × V) → List (D × D) → Prop
  | nil : DpK K mg G [] []
  | cons {k : Key} {v : V} {vs : List (Key × V)} {d : D} {ds : List (D × D)} : Dp K mg G v d → DpK K mg G vs ds → DpK K mg G ((k, v) :: vs) ((keyD k, d) :: ds)
inductive DpT (K : PySem.W.Frag) (mg : Str → Option Value) (G : Hp) : List (List Key × V) → List (D × D) → Prop
  | nil : DpT K mg G [] []
  | cons {k : List Key} {v : V} {vs : List (List Key × V)} {d : D} {ds : List (D × D)} : Dp K mg G v d → DpT K mg G vs ds → DpT K mg G ((k, v) :: vs) ((.tup (k.map keyD), d) :: ds)
inductive DpF (K : PySem.W.Frag) (mg : Str → Option Value) (G : Hp) : List (Str × V) → List (Str × D) → Prop
  | nil : DpF K mg G [] []
  | cons {f : Str} {v : V} {vs : List (Str × V)} {d : D} {ds : List (Str × D)} : Dp K mg G v d → DpF K mg G vs ds → DpF K mg G ((f, v) :: vs) ((f, d) :: ds)
end
theorem same_rd {G G' : Hp} {a : Addr} {u : HO} (s : Same G G') (h : Rd G a u) : Rd G' a u := by
  rcases h with h | ⟨o, h⟩
  · exact .inl (s _ _ h)
  · exact .inr ⟨o, s _ _ h⟩
theorem same_t {K : PySem.W.Frag} {G G' : Hp} {a : Addr} {xs : List V} (s : Same G G') (h : SqT K G a xs) : SqT K G' a xs := by
  rcases h with h | h
  · exact .inl (same_rd s h)
  · exact .inr h
section
variable {K : PySem.W.Frag} {mg : Str → Option Value} {G G' : Hp}
mutual
theorem Dp.mono (s : Same G G') : ∀ {v : V} {d : D}, Dp K mg G v d → Dp K mg G' v d
  | _, _, .non => .non
  | _, _, .bl b => .bl b
  | _, _, .int i => .int i
  | _, _, .str x h => .str x h
  | _, _, .lst h t => .lst (same_rd s h) (DpAll.mono s t)
  | _, _, .tup h t => .tup (same_t s h) (DpAll.mono s t)
  | _, _, .dk h t => .dk (s _ _ h) (DpK.mono s t)
  | _, _, .dt h t => .dt (s _ _ h) (DpT.mono s t)
  | _, _, .obj c h t => .obj c (s _ _ h) (DpF.mono s t)
  | _, _, .exn c h t => .exn c (s _ _ h) (DpF.mono s t)
theorem DpAll.mono (s : Same G G') : ∀ {v : List V} {d : List D}, DpAll K mg G v d → DpAll K mg G' v d
  | _, _, .nil => .nil
  | _, _, .cons h t => .cons (Dp.mono s h) (DpAll.mono s t)
theorem DpK.mono (s : Same G G') : ∀ {v : List (Key × V)} {d : List (D × D)}, DpK K mg G v d → DpK K mg G' v d
  | _, _, .nil => .nil
  | _, _, .cons h t => .cons (Dp.mono s h) (DpK.mono s t)
theorem DpT.mono (s : Same G G') : ∀ {v : List (List Key × V)} {d : List (D × D)}, DpT K mg G v d → DpT K mg G' v d
  | _, _, .nil => .nil
  | _, _, .cons h t => .cons (Dp.mono s h) (DpT.mono s t)
theorem DpF.mono (s : Same G G') : ∀ {v : List (Str × V)} {d : List (Str × D)}, DpF K mg G v d → DpF K mg G' v d
  | _, _, .nil => .nil
  | _, _, .cons h t => .cons (Dp.mono s h) (DpF.mono s t)
end
theorem DpAll.len : ∀ {v : List V} {d : List D}, DpAll K mg G v d → v.length = d.length
  | _, _, .nil => rfl
  | _, _, .cons _ t => congrArg (· + 1) (DpAll.len t)
theorem DpAll.get : ∀ {vs : List V} {ds : List D} {i : Nat} {d : D}, DpAll K mg G vs ds → ds[i]? = some d → ∃ v, vs[i]? = some v ∧ Dp K mg G v d
  | _, _, _, _, .nil, e => by simp at e
  | _, _, 0, _, .cons h _, e => by simp at e; subst e; exact ⟨_, rfl, h⟩
  | _, _, i + 1, d, .cons _ t, e => by
    obtain ⟨v, a, b⟩ := DpAll.get (i := i) (d := d) t (by simpa using e)
    exact ⟨v, by simpa using a, b⟩
theorem DpAll.getV : ∀ {vs : List V} {ds : List D} {i : Nat} {v : V}, DpAll K mg G vs ds → vs[i]? = some v → ∃ d, ds[i]? = some d ∧ Dp K mg G v d
  | _, _, _, _, .nil, e => by simp at e
  | _, _, 0, _, .cons h _, e => by simp at e; subst e; exact ⟨_, rfl, h⟩
  | _, _, i + 1, d, .cons _ t, e => by
    obtain ⟨v, a, b⟩ := DpAll.getV (i := i) (v := d) t (by simpa using e)
    exact ⟨v, by simpa using a, b⟩
theorem DpAll.append : ∀ {xs ys : List V} {ds es : List D}, DpAll K mg G xs ds → DpAll K mg G ys es → DpAll K mg G (xs ++ ys) (ds ++ es)
  | _, _, _, _, .nil, s => s
  | _, _, _, _, .cons r t, s => .cons r (DpAll.append t s)
theorem DpAll.take : ∀ {xs : List V} {ds : List D} (n : Nat), DpAll K mg G xs ds → DpAll K mg G (xs.take n) (ds.take n)
  | _, _, 0, _ => .nil
  | _, _, _ + 1, .nil => .nil
  | _, _, n + 1, .cons r t => .cons r (DpAll.take n t)
theorem DpAll.drop : ∀ {xs : List V} {ds : List D} (n : Nat), DpAll K mg G xs ds → DpAll K mg G (xs.drop n) (ds.drop n)
  | _, _, 0, r => r
  | _, _, _ + 1, .nil => .nil
  | _, _, n + 1, .cons _ t => DpAll.drop n t
theorem DpAll.reverse : ∀ {xs : List V} {ds : List D}, DpAll K mg G xs ds → DpAll K mg G xs.reverse ds.reverse
  | _, _, .nil => .nil
  | _, _, .cons r t => by
    rw [List.reverse_cons, List.reverse_cons]
    exact (DpAll.reverse t).append (.cons r .nil)
theorem DpAll.set : ∀ {xs : List V} {ds : List D} {v : V} {d : D} (i : Nat), DpAll K mg G xs ds → Dp K mg G v d → DpAll K mg G (xs.set i v) (ds.set i d)
  | _, _, _, _, _, .nil, _ => .nil
  | _, _, _, _, 0, .cons _ t, h => .cons h t
  | _, _, _, _, i + 1, .cons r t, h => .cons r (DpAll.set i t h)
theorem DpAll.rep {xs : List V} {ds : List D} (h : DpAll K mg G xs ds) : ∀ k : Nat, DpAll K mg G (List.replicate k xs).flatten (List.replicate k ds).flatten
  | 0 => .nil
  | k + 1 => by
    rw [List.replicate_succ, List.replicate_succ, List.flatten_cons, List.flatten_cons]
    exact h.append (DpAll.rep h k)
end

/-! ### the frozen heap and the heap -/
structure Gr (H G H' G' : Hp) : Prop where
  hh : Same H H'
  gg : Same G G'
  gh : Same G' H'
  old : ∀ b, H b ≠ none → G' b = G b
theorem Gr.refl {H G : Hp} (s : Same G H) : Gr H G H G := ⟨Same.refl _, Same.refl _, s, fun _ _ => rfl⟩
theorem Same.has {H H' : Hp} (s : Same H H') {b : Addr} (h : H b ≠ none) : H' b ≠ none := by
  cases e : H b with
  | none => exact absurd e h
  | some o => rw [s b o e]; exact fun z => nomatch z
theorem Gr.trans {H G H1 G1 H2 G2 : Hp} (a : Gr H G H1 G1) (b : Gr H1 G1 H2 G2) : Gr H G H2 G2 :=
  ⟨a.hh.trans b.hh, a.gg.trans b.gg, b.gh, fun x h => (b.old x (Same.has a.hh h)).trans (a.old x h)⟩
/-- a new frozen object -/
theorem Gr.new {H G : Hp} {p : Addr} {o : HO} (s : Same G H) (h : H p = none) : Gr H G (upd H p o) (upd G p o) where
  hh := fun b u e => by rw [upd_ne (ne_of_none e h)]; exact e
  gg := fun b u e => by rw [upd_ne (ne_of_none (s _ _ e) h)]; exact e
  gh := fun b u e => by
    by_cases hb : b = p
    · subst hb; rw [upd_same] at e ⊢; exact e
    · rw [upd_ne hb] at e ⊢; exact s _ _ e
  old := fun b hb => upd_ne (fun e => hb (e ▸ h))
/-- a new object that is not frozen -/
theorem Gr.mut {H G : Hp} {p : Addr} {o : HO} (s : Same G H) (h : H p = none) : Gr H G (upd H p o) G where
  hh := fun b u e => by rw [upd_ne (ne_of_none e h)]; exact e
  gg := Same.refl _
  gh := fun b u e => by rw [upd_ne (ne_of_none (s _ _ e) h)]; exact s _ _ e
  old := fun _ _ => rfl
/-- a thing made on the way is frozen -/
theorem Gr.freeze {H G H' G' : Hp} {a : Addr} {o : HO} (g : Gr H G H' G') (ha : H a = none) (hH : H' a = some o) (hG : G' a = none) : Gr H G H' (upd G' a o) where
  hh := g.hh
  gg := fun b u e => by
    have q := g.gg _ _ e
    rw [upd_ne (fun z => by rw [z, hG] at q; cases q)]
    exact q
  gh := fun b u e => by
    by_cases hb : b = a
    · subst hb; rw [upd_same] at e; rw [hH]; exact e
    · rw [upd_ne hb] at e; exact g.gh _ _ e
  old := fun b hb => by
    have nb : b ≠ a := fun e => hb (by rw [e]; exact ha)
    rw [upd_ne nb]
    exact g.old b hb
theorem upd_same_of {G : Hp} {a : Addr} {o : HO} (h : G a = none) : Same G (upd G a o) := fun b u e => by
  rw [upd_ne (ne_of_none e h)]; exact e

section
variable (K : PySem.W.Frag) (mg : Str → Option Value)
def RVp (H0 H G : Hp) (v : V) : RV → Prop
  | .fr d => Dp K mg G v d
  | .ol ds => ∃ a xs, v = .ref a ∧ H a = some (.lst xs) ∧ G a = none ∧ H0 a = none ∧ DpAll K mg G xs ds
  | .od false ds => ∃ a xs, v = .ref a ∧ H a = some (.dK xs) ∧ G a = none ∧ H0 a = none ∧ DpK K mg G xs ds
  | .od true ds => ∃ a xs, v = .ref a ∧ H a = some (.dT xs) ∧ G a = none ∧ H0 a = none ∧ DpT K mg G xs ds
structure Sl (H0 H G : Hp) (σ : L2.St) (δ : DE) : Prop where
  len : σ.length = δ.length
  at_ : ∀ (i : Nat) (r : RV), δ[i]? = some (some r) → ∃ v : V, σ[i]? = some (some v) ∧ RVp K mg H0 H G v r
  dis : ∀ (i j : Nat) (r r' : RV) (v : V), δ[i]? = some (some r) → r.own = true → δ[j]? = some (some r') → r'.own = true → σ[i]? = some (some v) → σ[j]? = some (some v) → i = j
/-- an exception: its class and its fields -/
def XRp (H G : Hp) (c : Str) (fs : List (Str × D)) (cls : Value) (d : Option Addr) : Prop :=
  ∃ C dd xs, mg c = some (.ref C) ∧ cls = .ref C ∧ d = some dd ∧ G dd = some (.xd xs) ∧ DpF K mg G xs fs
def postX (H G : Hp) (W : Value → Option Addr → Hp → Prop) (c : Str) (fs : List (Str × D)) : Prop := ∀ cls d H' G', Gr H G H' G' → XRp K mg H' G' c fs cls d → W cls d H'
def post (H G : Hp) (W : Value → Option Addr → Hp → Prop) (Q : VK) : R RV → Prop
  | .ok r => ∀ v H' G', Gr H G H' G' → RVp K mg H H' G' v r → Q v H'
  | .ex c fs => postX K mg H G W c fs
  | .stuck => False
def postB (H G : Hp) (W : Value → Option Addr → Hp → Prop) (Q : Bool → Hp → Prop) : R Bool → Prop
  | .ok b => ∀ H' G', Gr H G H' G' → Q b H'
  | .ex c fs => postX K mg H G W c fs
  | .stuck => False
def postA (H G : Hp) (W : Value → Option Addr → Hp → Prop) (Q : List V → Hp → Prop) : R (List D) → Prop
  | .ok ds => ∀ vs H' G', Gr H G H' G' → DpAll K mg G' vs ds → Q vs H'
  | .ex c fs => postX K mg H G W c fs
  | .stuck => False
def tE (H0 : Hp) (W : WX) (f : DE → R RV) : TE := fun σ H Q => ∃ G δ, Same G H ∧ Sl K mg H0 H G σ δ ∧ post K mg H G (fun c d H' => W c d σ H') Q (f δ)
def tB (H0 : Hp) (W : WX) (f : DE → R Bool) : TT := fun σ H Q => ∃ G δ, Same G H ∧ Sl K mg H0 H G σ δ ∧ postB K mg H G (fun c d H' => W c d σ H') Q (f δ)
def tA (H0 : Hp) (W : WX) (f : DE → R (List D)) : TA := fun σ H Q => ∃ G δ, Same G H ∧ Sl K mg H0 H G σ δ ∧ postA K mg H G (fun c d H' => W c d σ H') Q (f δ)
/-- operators, calls, by data -/
def rD (g : D → D → R RV) : R2 := fun x y H Q => ∃ G d e, Same G H ∧ Dp K mg G x d ∧ Dp K mg G y e ∧ post K mg H G (fun _ _ _ => False) Q (g d e)
def rD1 (g : D → R RV) : V → Hp → VK → Prop := fun x H Q => ∃ G d, Same G H ∧ Dp K mg G x d ∧ post K mg H G (fun _ _ _ => False) Q (g d)
def rDA (g : List D → R RV) : List V → Hp → VK → Prop := fun xs H Q => ∃ G ds, Same G H ∧ DpAll K mg G xs ds ∧ post K mg H G (fun _ _ _ => False) Q (g ds)
/-- a def's promise -/
def spD (g : List D → R RV) : Sp := fun vs H Q E => ∃ G ds, Same G H ∧ DpAll K mg G vs ds ∧ post K mg H G E Q (g ds)
end

section
variable {K : PySem.W.Frag} {mg : Str → Option Value} {H0 H G H' G' : Hp} {σ : L2.St} {δ : DE} {v : V} {r : RV}
theorem RVp.mono (g : Gr H G H' G') : RVp K mg H0 H G v r → RVp K mg H0 H' G' v r := by
  intro h
  cases r with
  | fr d => exact Dp.mono g.gg h
  | ol ds =>
    obtain ⟨a, xs, e, h1, h2, h3, h4⟩ := h
    exact ⟨a, xs, e, g.hh _ _ h1, (g.old a (by rw [h1]; exact fun z => nomatch z)).trans h2, h3, h4.mono g.gg⟩
  | od t ds =>
    cases t
    · obtain ⟨a, xs, e, h1, h2, h3, h4⟩ := h
      exact ⟨a, xs, e, g.hh _ _ h1, (g.old a (by rw [h1]; exact fun z => nomatch z)).trans h2, h3, h4.mono g.gg⟩
    · obtain ⟨a, xs, e, h1, h2, h3, h4⟩ := h
      exact ⟨a, xs, e, g.hh _ _ h1, (g.old a (by rw [h1]; exact fun z => nomatch z)).trans h2, h3, h4.mono g.gg⟩
theorem Sl.mono (g : Gr H G H' G') (s : Sl K mg H0 H G σ δ) : Sl K mg H0 H' G' σ δ :=
  ⟨s.len, fun i r e => let ⟨v, a, b⟩ := s.at_ i r e; ⟨v, a, b.mono g⟩, s.dis⟩
/-- freshness further back -/
theorem RVp.back {H00 : Hp} (s : Same H00 H0) : RVp K mg H0 H G v r → RVp K mg H00 H G v r := by
  intro h
  cases r with
  | fr d => exact h
  | ol ds =>
    obtain ⟨a, xs, e, h1, h2, h3, h4⟩ := h
    exact ⟨a, xs, e, h1, h2, s.free h3, h4⟩
  | od t ds =>
    cases t
    · obtain ⟨a, xs, e, h1, h2, h3, h4⟩ := h
      exact ⟨a, xs, e, h1, h2, s.free h3, h4⟩
    · obtain ⟨a, xs, e, h1, h2, h3, h4⟩ := h
      exact ⟨a, xs, e, h1, h2, s.free h3, h4⟩
/-- a value is frozen: as data -/
theorem RVp.frz (g : Gr H G H' G') (h : RVp K mg H H' G' v r) : ∃ G2, Gr H G H' G2 ∧ Same G' G2 ∧ Dp K mg G2 v r.d ∧ (∀ b, G' b ≠ none → G2 b = G' b) ∧ ∀ b, v ≠ .ref b → G2 b = G' b := by
  cases r with
  | fr d => exact ⟨G', g, Same.refl _, h, fun _ _ => rfl, fun _ _ => rfl⟩
  | ol ds =>
    obtain ⟨a, xs, rfl, h1, h2, h3, h4⟩ := h
    have s := upd_same_of (o := .lst xs) h2
    exact ⟨_, g.freeze h3 h1 h2, s, .lst (.inl upd_same) (h4.mono s), fun b hb => upd_ne fun e => hb (e ▸ h2), fun b hb => upd_ne fun e => hb (e ▸ rfl)⟩
  | od t ds =>
    cases t
    · obtain ⟨a, xs, rfl, h1, h2, h3, h4⟩ := h
      have s := upd_same_of (o := .dK xs) h2
      exact ⟨_, g.freeze h3 h1 h2, s, .dk upd_same (h4.mono s), fun b hb => upd_ne fun e => hb (e ▸ h2), fun b hb => upd_ne fun e => hb (e ▸ rfl)⟩
    · obtain ⟨a, xs, rfl, h1, h2, h3, h4⟩ := h
      have s := upd_same_of (o := .dT xs) h2
      exact ⟨_, g.freeze h3 h1 h2, s, .dt upd_same (h4.mono s), fun b hb => upd_ne fun e => hb (e ▸ h2), fun b hb => upd_ne fun e => hb (e ▸ rfl)⟩
theorem postX.mono {W : Value → Option Addr → Hp → Prop} {c : Str} {fs : List (Str × D)} (g : Gr H G H' G') (h : postX K mg H G W c fs) : postX K mg H' G' W c fs := fun cls d H2 G2 g2 x => h cls d H2 G2 (g.trans g2) x
/-- the core of a compound expression: a part is read and frozen, the rest goes on -/
theorem post_bind {W : Value → Option Addr → Hp → Prop} {Q : VK} {Q2 : VK} {x : R RV} {f : D → R RV} (h : post K mg H G W Q2 (x >>= fun r => f r.d))
    (k : ∀ v d H' G', Gr H G H' G' → Dp K mg G' v d → post K mg H' G' W Q2 (f d) → Q v H') : post K mg H G W Q x := by
  cases x with
  | ok r =>
    intro v H' G' g p
    obtain ⟨G2, g2, _, p2, _⟩ := RVp.frz g p
    refine k v r.d H' G2 g2 p2 ?_
    have h' : post K mg H G W Q2 (f r.d) := h
    generalize hy : f r.d = y at h'
    cases y with
    | ok r2 =>
      intro v3 H3 G3 g3 p3
      exact h' v3 H3 G3 (g2.trans g3) (p3.back g2.hh)
    | ex c fs => exact postX.mono g2 h'
    | stuck => exact h'
  | ex c fs => exact h
  | stuck => exact h
end
end DL


set_option maxRecDepth 100000
set_option maxHeartbeats 4000000
namespace DL
open PySem PySem.Spec PyProof.Rows L2

/-! ### weaker readings -/
theorem PE.imp {X : Cx} {e : Expr} {t t' : TE} (h : PE X e t) (w : ∀ σ H Q, t' σ H Q → t σ H Q) : PE X e t' := ⟨fun pins s σ H Q I q => h.run pins s σ H Q I (w σ H Q q)⟩
theorem PT.imp {X : Cx} {e : Expr} {t t' : TT} (h : PT X e t) (w : ∀ σ H Q, t' σ H Q → t σ H Q) : PT X e t' := ⟨fun pins s σ H Q I q => h.run pins s σ H Q I (w σ H Q q)⟩
theorem PW.imp {X : Cx} {e : Expr} {t t' : TT} (h : PW X e t) (w : ∀ σ H Q, t' σ H Q → t σ H Q) : PW X e t' := ⟨fun wh pins s σ H Q I q => h.run wh pins s σ H Q I (w σ H Q q)⟩
theorem PA.imp {X : Cx} {es : List Expr} {t t' : TA} (h : PA X es t) (w : ∀ σ H Q, t' σ H Q → t σ H Q) : PA X es t' := ⟨fun p pins s σ H Q I q => h.run p pins s σ H Q I (w σ H Q q)⟩
theorem PS.imp {X : Cx} {st : Stmt} {t t' : TS} (h : PS X st t) (w : ∀ D σ H, t' D σ H → t D σ H) : PS X st t' := ⟨fun pins s σ H D I q => h.run pins s σ H D I (w D σ H q)⟩
theorem PSs.imp {X : Cx} {st : List Stmt} {t t' : TS} (h : PSs X st t) (w : ∀ D σ H, t' D σ H → t D σ H) : PSs X st t' := ⟨fun pins s σ H D I q => h.run pins s σ H D I (w D σ H q)⟩

section
variable {X : Cx} {H0 G0 : Hp} {W : WX}
/-- the judgements of a part of the text -/
abbrev Ed (X : Cx) (H0 : Hp) (W : WX) (e : Expr) (f : DE → R RV) : Prop := PE X e (tE X.K X.mg H0 W f)
abbrev Td (X : Cx) (H0 : Hp) (W : WX) (e : Expr) (f : DE → R Bool) : Prop := PT X e (tB X.K X.mg H0 W f)
abbrev Wd (X : Cx) (H0 : Hp) (W : WX) (e : Expr) (f : DE → R Bool) : Prop := PW X e (tB X.K X.mg H0 W f)
abbrev Ad (X : Cx) (H0 : Hp) (W : WX) (es : List Expr) (f : DE → R (List D)) : Prop := PA X es (tA X.K X.mg H0 W f)

/-! ### names, constants -/
def getV (i : Nat) (δ : DE) : R RV := match δ[i]? with
  | some (some (.fr d)) => .ok (.fr d)
  | _ => .stuck
theorem ed_var (i : Nat) {x : Str} {pos : Pos} (hN : X.N[i]? = some x := by rfl) (hv : Vis X.env.scope x := by first | exact Or.inl rfl | exact Or.inr (Or.inl rfl) | exact Or.inr (Or.inr rfl)) (hd : (x == ("__debug__" : Str)) = false := by decide)
    (hcd : (x == ("__classdict__" : Str)) = false := by decide) : Ed X H0 W (.Name x pos) (getV i) := by
  refine PE.imp (pe_var hN hv hd hcd) fun σ H Q h => ?_
  obtain ⟨G, δ, s, sl, h⟩ := h
  unfold getV at h
  split at h
  · rename_i d e
    obtain ⟨v, e1, e2⟩ := sl.at_ i _ e
    exact ⟨v, e1, h v H G (.refl s) e2⟩
  · exact h.elim
def cst (d : D) (_ : DE) : R RV := .ok (.fr d)
theorem ed_c {e : Expr} {v : V} {d : D} (h : PE X e (tC v)) (p : ∀ G, Dp X.K X.mg G v d) : Ed X H0 W e (cst d) := by
  refine PE.imp h fun σ H Q h => ?_
  obtain ⟨G, δ, s, sl, h⟩ := h
  exact h v H G (.refl s) (p G)
theorem ed_int {i j pos} : Ed X H0 W (.Constant (.int i) j pos) (cst (.int i)) := ed_c pe_int fun _ => .int i
theorem ed_bl {b j pos} : Ed X H0 W (.Constant (.bool b) j pos) (cst (.bl b)) := ed_c pe_bl fun _ => .bl b
theorem ed_non {j pos} : Ed X H0 W (.Constant .none j pos) (cst .non) := ed_c pe_non fun _ => .non
theorem ed_str {x j pos} (h : x.cps.all (· < 0x110000) = true := by decide) : Ed X H0 W (.Constant (.str x) j pos) (cst (.str x)) := ed_c pe_str fun _ => .str x h
/-- a constant of the module -/
structure Glb (K : PySem.W.Frag) (mg : Str → Option Value) (x : Str) (d : D) : Prop where
  ex : ∃ u v, mg x = some u ∧ RelV v u ∧ ∀ G, Dp K mg G v d
theorem ed_glob {x : Str} {d : D} {pos : Pos} (g : Glb X.K X.mg x d) (hg : Gl X x := by rfl) (hd : (x == ("__debug__" : Str)) = false := by decide) : Ed X H0 W (.Name x pos) (cst d) := by
  obtain ⟨u, v, hm, r, p⟩ := g.ex
  exact ed_c (pe_glob hg hm r hd) p

/-! ### operators -/
def fBin (g : D → D → R RV) (fa fb : DE → R RV) (δ : DE) : R RV := fa δ >>= fun x => fb δ >>= fun y => g x.d y.d
theorem op_core {g : D → D → R RV} {fa fb : DE → R RV} {K : PySem.W.Frag} {mg : Str → Option Value} (σ : L2.St) (H : Hp) (Q : VK) (h : tE K mg H0 W (fBin g fa fb) σ H Q) (noex : ∀ x y c fs, g x y ≠ .ex c fs) : tOp (rD K mg g) (tE K mg H0 W fa) (tE K mg H0 W fb) σ H Q := by
  obtain ⟨G, δ, s, sl, h⟩ := h
  refine ⟨G, δ, s, sl, post_bind (f := fun d => fb δ >>= fun y => g d y.d) h fun v d H1 G1 g1 p1 h1 => ?_⟩
  refine ⟨G1, δ, g1.gh, sl.mono g1, post_bind (f := fun y => g d y) h1 fun u e H2 G2 g2 p2 h2 => ?_⟩
  refine ⟨G2, d, e, g2.gh, p1.mono g2.gg, p2, ?_⟩
  generalize hy : g d e = y at h2
  cases y with
  | ok r => exact h2
  | ex c fs => exact absurd hy (noex _ _ _ _)
  | stuck => exact h2
theorem ed_bin {op : Operator} {g : D → D → R RV} {fa fb : DE → R RV} {a b : Expr} {pos : Pos} (ho : OpR X (binaryOp op) (rD X.K X.mg g)) (noex : ∀ x y c fs, g x y ≠ .ex c fs) (ha : Ed X H0 W a fa) (hb : Ed X H0 W b fb) : Ed X H0 W (.BinOp a op b pos) (fBin g fa fb) :=
  PE.imp (pe_op ho ha hb) fun σ H Q h => op_core σ H Q h noex
theorem ed_cmp {op : CmpOp} {g : D → D → R RV} {fa fb : DE → R RV} {a b : Expr} {pos : Pos} (ho : OpR X (compareOp op) (rD X.K X.mg g)) (noex : ∀ x y c fs, g x y ≠ .ex c fs) (ha : Ed X H0 W a fa) (hb : Ed X H0 W b fb) (hm : behindInMarks op b = false) : Ed X H0 W (.Compare a [op] [b] pos) (fBin g fa fb) :=
  PE.imp (pe_cmpR ho ha hb hm) fun σ H Q h => op_core σ H Q h noex
def fUn (g : D → R RV) (fa : DE → R RV) (δ : DE) : R RV := fa δ >>= fun x => g x.d
theorem un_core {g : D → R RV} {fa : DE → R RV} {K : PySem.W.Frag} {mg : Str → Option Value} (σ : L2.St) (H : Hp) (Q : VK) (h : tE K mg H0 W (fUn g fa) σ H Q) (noex : ∀ x c fs, g x ≠ .ex c fs) : tUn (rD1 K mg g) (tE K mg H0 W fa) σ H Q := by
  obtain ⟨G, δ, s, sl, h⟩ := h
  refine ⟨G, δ, s, sl, post_bind (f := fun d => g d) h fun v d H1 G1 g1 p1 h1 => ?_⟩
  refine ⟨G1, d, g1.gh, p1, ?_⟩
  generalize hy : g d = y at h1
  cases y with
  | ok r => exact h1
  | ex c fs => exact absurd hy (noex _ _ _)
  | stuck => exact h1
theorem ed_un {op : UnaryOp} {g : D → R RV} {fa : DE → R RV} {a : Expr} {pos : Pos} (ho : UnR X (unaryOp op) (rD1 X.K X.mg g)) (noex : ∀ x c fs, g x ≠ .ex c fs) (ha : Ed X H0 W a fa) : Ed X H0 W (.UnaryOp op a pos) (fUn g fa) :=
  PE.imp (pe_un ho ha) fun σ H Q h => un_core σ H Q h noex
theorem ed_ix {g : D → D → R RV} {fa fb : DE → R RV} {a b : Expr} {pos : Pos} (ho : IxR X (rD X.K X.mg g)) (noex : ∀ x y c fs, g x y ≠ .ex c fs) (ha : Ed X H0 W a fa) (hb : Ed X H0 W b fb) (hs : PlainIx b := by exact fun _ _ => rfl) : Ed X H0 W (.Subscript a b pos) (fBin g fa fb) :=
  PE.imp (pe_ix ho ha hb hs) fun σ H Q h => op_core σ H Q h noex

/-! ### arguments, calls -/
def aNil (_ : DE) : R (List D) := .ok []
def aCons (f : DE → R RV) (fs : DE → R (List D)) (δ : DE) : R (List D) := f δ >>= fun r => fs δ >>= fun ds => .ok (r.d :: ds)
theorem ad_nil : Ad X H0 W [] aNil := PA.imp pa_nil fun σ H Q h => by
  obtain ⟨G, δ, s, sl, h⟩ := h
  exact h [] H G (.refl s) .nil
theorem ad_cons {e : Expr} {es : List Expr} {f : DE → R RV} {fs : DE → R (List D)} (he : Ed X H0 W e f) (hr : Ad X H0 W es fs) (hs : starEach (e :: es) X.env = (false, eval e X.env) :: starEach es X.env := by rfl) : Ad X H0 W (e :: es) (aCons f fs) := by
  refine PA.imp (pa_cons he hr hs) fun σ H Q h => ?_
  obtain ⟨G, δ, s, sl, h⟩ := h
  refine ⟨G, δ, s, sl, ?_⟩
  unfold aCons at h
  cases hf : f δ with
  | ok r =>
    rw [hf, bind_ok] at h
    intro v H1 G1 g1 p1
    obtain ⟨G2, g2, _, p2, _⟩ := RVp.frz g1 p1
    refine ⟨G2, δ, g2.gh, sl.mono g2, ?_⟩
    cases hg : fs δ with
    | ok ds =>
      rw [hg, bind_ok] at h
      intro vs H3 G3 g3 p3
      exact h (v :: vs) H3 G3 (g2.trans g3) (.cons (p2.mono g3.gg) p3)
    | ex c fs' =>
      rw [hg, bind_ex] at h
      exact postX.mono g2 h
    | stuck =>
      rw [hg, bind_stuck] at h
      exact h
  | ex c fs' => rw [hf, bind_ex] at h; exact h
  | stuck => rw [hf, bind_stuck] at h; exact h
def fCall (g : List D → R RV) (fa : DE → R (List D)) (δ : DE) : R RV := fa δ >>= g
/-- arguments, then what is done with their values -/
theorem call_core {g : List D → R RV} {fa : DE → R (List D)} {K : PySem.W.Frag} {mg : Str → Option Value} {r : List V → Hp → VK → Prop} (σ : L2.St) (H : Hp) (Q : VK) (h : tE K mg H0 W (fCall g fa) σ H Q)
    (hr : ∀ vs H1 G1 ds, Same G1 H1 → DpAll K mg G1 vs ds → post K mg H1 G1 (fun c d H' => W c d σ H') Q (g ds) → r vs H1 Q) : tA K mg H0 W fa σ H fun vs H1 => r vs H1 Q := by
  obtain ⟨G, δ, s, sl, h⟩ := h
  refine ⟨G, δ, s, sl, ?_⟩
  unfold fCall at h
  cases hf : fa δ with
  | ok ds =>
    rw [hf, bind_ok] at h
    intro vs H1 G1 g1 p1
    refine hr vs H1 G1 ds g1.gh p1 ?_
    cases hg : g ds with
    | ok r =>
      rw [hg] at h
      intro v H2 G2 g2 p2
      exact h v H2 G2 (g1.trans g2) (p2.back g1.hh)
    | ex c fs =>
      rw [hg] at h
      exact postX.mono g1 h
    | stuck => rw [hg] at h; exact h
  | ex c fs' => rw [hf, bind_ex] at h; exact h
  | stuck => rw [hf, bind_stuck] at h; exact h
/-- a def of the text, by its Lean function -/
structure CalD (P : Program) (w : World) (K : PySem.W.Frag) (mg : Str → Option Value) (base : Heap) (k : Nat) (x : Str) (g : List D → R RV) : Prop where
  ex : ∃ (f : Addr) (fd : FuncData) (ps : List Str), FnOk P w K mg base (L2N.CX P w) k f fd ps (spD K mg g) ∧ mg x = some (.ref f) ∧ PySem.W.keepIn K (.ref f) = true ∧ Binds K fd ps []
theorem ed_call {k j : Nat} {A0 : Around} {x : Str} {g : List D → R RV} {fa : DE → R (List D)} {p pos : Pos} {e : Expr} {es : List Expr} (c : CalD X.prog X.w X.K X.mg X.base k x g) (hr : Room j A0) (hk : k ≤ j) (tk : L2N.Takes X W) (ha : Ad X H0 W (e :: es) fa) (hA : X.A = A0 := by rfl) (hg : Gl X x := by rfl)
    (hdb : (x == ("__debug__" : Str)) = false := by decide) (he : starEach (e :: es) X.env = (false, eval e X.env) :: starEach es X.env := by rfl) (hpl : (backTo pos (starEach es X.env)).any (·.1) = false := by rfl) :
    Ed X H0 W (.Call (.Name x p) (e :: es) [] pos) (fCall g fa) := by
  obtain ⟨f, fd, ps, F, hm, kp, b⟩ := c.ex
  subst hA
  refine PE.imp (pe_callSD F (hr.mono hk) hg hm kp b .nil (fun σ => L2N.passAt tk σ) ha hdb he hpl) fun σ H Q h => ?_
  refine call_core (r := fun vs H1 Q => spD X.K X.mg g (vs ++ []) H1 Q (WE W σ)) σ H Q h fun vs H1 G1 ds s p h => ?_
  rw [List.append_nil]
  exact ⟨G1, ds, s, p, h⟩
/-- a built-in function, a built-in class -/
theorem ed_callB {x : Str} {id : String} {g : List D → R RV} {fa : DE → R (List D)} {p pos : Pos} {e : Expr} {es : List Expr} (hc : CallR X (.builtin id) (rDA X.K X.mg g)) (noex : ∀ x c fs, g x ≠ .ex c fs) (hm : X.mg x = none) (hv : bootBuiltins x = some (.builtin id)) (ha : Ad X H0 W (e :: es) fa)
    (hg : Gl X x := by rfl) (hn : x ≠ "__name__" := by decide) (hdb : (x == ("__debug__" : Str)) = false := by decide) (he : starEach (e :: es) X.env = (false, eval e X.env) :: starEach es X.env := by rfl) (hpl : (backTo pos (starEach es X.env)).any (·.1) = false := by rfl) :
    Ed X H0 W (.Call (.Name x p) (e :: es) [] pos) (fCall g fa) := by
  refine PE.imp (pe_callB hc hg hm hv ha hn hdb he hpl) fun σ H Q h => ?_
  refine call_core σ H Q h fun vs H1 G1 ds s p h => ⟨G1, ds, s, p, ?_⟩
  generalize hy : g ds = y at h
  cases y with
  | ok r => exact h
  | ex c fs => exact absurd hy (noex _ _ _)
  | stuck => exact h
theorem ed_callT {x : Str} {id : String} {g : List D → R RV} {fa : DE → R (List D)} {p pos : Pos} {e : Expr} {es : List Expr} (hc : CallR X (.type id) (rDA X.K X.mg g)) (noex : ∀ x c fs, g x ≠ .ex c fs) (hm : X.mg x = none) (hv : bootBuiltins x = some (.type id)) (ha : Ad X H0 W (e :: es) fa)
    (hg : Gl X x := by rfl) (hn : x ≠ "__name__" := by decide) (hdb : (x == ("__debug__" : Str)) = false := by decide) (he : starEach (e :: es) X.env = (false, eval e X.env) :: starEach es X.env := by rfl) (hpl : (backTo pos (starEach es X.env)).any (·.1) = false := by rfl) :
    Ed X H0 W (.Call (.Name x p) (e :: es) [] pos) (fCall g fa) := by
  refine PE.imp (pe_callTy hc hg hm hv ha hn hdb he hpl) fun σ H Q h => ?_
  refine call_core σ H Q h fun vs H1 G1 ds s p h => ⟨G1, ds, s, p, ?_⟩
  generalize hy : g ds = y at h
  cases y with
  | ok r => exact h
  | ex c fs => exact absurd hy (noex _ _ _)
  | stuck => exact h
/-- displays -/
def SZ : Nat := 1000000
theorem sz_le {n : Nat} (h : n ≤ SZ) : n ≤ sizeLine := Nat.le_trans h (by rw [sizeLine_eq]; decide)
theorem sz_lt {n : Nat} (h : n ≤ SZ) : n < sizeLine := Nat.lt_of_le_of_lt h (by rw [sizeLine_eq]; decide)
def fTup (n : Nat) (fa : DE → R (List D)) (δ : DE) : R RV := fa δ >>= fun ds => .ok (.fr (.tup ds))
def fLst (n : Nat) (fa : DE → R (List D)) (δ : DE) : R RV := fa δ >>= fun ds => .ok (.ol ds)
/-- how long an argument list is -/
structure Alen (n : Nat) (fa : DE → R (List D)) : Prop where
  ok : ∀ δ ds, fa δ = .ok ds → ds.length = n
theorem alen_nil : Alen 0 aNil := ⟨fun δ ds h => by cases h; rfl⟩
theorem alen_cons {n : Nat} {f : DE → R RV} {fs : DE → R (List D)} (h : Alen n fs) : Alen (n + 1) (aCons f fs) := ⟨fun δ ds e => by
  unfold aCons at e
  cases hf : f δ with
  | ok r =>
    rw [hf, bind_ok] at e
    cases hg : fs δ with
    | ok es => rw [hg, bind_ok] at e; cases e; rw [List.length_cons, h.ok δ es hg]
    | ex c fs' => rw [hg] at e; cases e
    | stuck => rw [hg] at e; cases e
  | ex c fs' => rw [hf] at e; cases e
  | stuck => rw [hf] at e; cases e⟩
theorem new_frz {K : PySem.W.Frag} {mg : Str → Option Value} {H G : Hp} {p : Addr} {vs : List V} {ds : List D} {Q : VK} {Wd} (s : Same G H) (hp : H p = none) (a : DpAll K mg G vs ds) (h : post K mg H G Wd Q (.ok (.fr (.tup ds)))) : Q (.ref p) (upd H p (.tup vs)) := by
  refine h (.ref p) _ (upd G p (.tup vs)) (.new s hp) ?_
  have hG : G p = none := by
    cases e : G p with
    | none => rfl
    | some o => have := s _ _ e; rw [hp] at this; cases this
  exact .tup (.inl (.inl upd_same)) (a.mono (upd_same_of hG))
theorem new_own {K : PySem.W.Frag} {mg : Str → Option Value} {H G : Hp} {p : Addr} {vs : List V} {ds : List D} {Q : VK} {Wd} (s : Same G H) (hp : H p = none) (a : DpAll K mg G vs ds) (h : post K mg H G Wd Q (.ok (.ol ds))) : Q (.ref p) (upd H p (.lst vs)) := by
  refine h (.ref p) _ G (.mut s hp) ?_
  have hG : G p = none := by
    cases e : G p with
    | none => rfl
    | some o => have := s _ _ e; rw [hp] at this; cases this
  exact ⟨p, vs, rfl, upd_same, hG, hp, a⟩
theorem ed_tup {n : Nat} {es : List Expr} {fa : DE → R (List D)} {x1} {pos : Pos} (ha : Ad X H0 W es fa) (hn : Alen n fa) (hz : n ≤ SZ := by decide) : Ed X H0 W (.Tuple es x1 pos) (fTup n fa) := by
  refine PE.imp (pe_tup ha) fun σ H Q h => ?_
  obtain ⟨G, δ, s, sl, h⟩ := h
  refine ⟨G, δ, s, sl, ?_⟩
  unfold fTup at h
  cases hf : fa δ with
  | ok ds =>
    rw [hf, bind_ok] at h
    intro vs H1 G1 g1 p1
    refine ⟨by rw [p1.len, hn.ok _ _ hf]; exact sz_le hz, fun p hp => new_frz (Wd := fun _ _ _ => False) g1.gh hp p1 fun v H2 G2 g2 p2 => h v H2 G2 (g1.trans g2) (p2.back g1.hh)⟩
  | ex c fs' => rw [hf, bind_ex] at h; exact h
  | stuck => rw [hf, bind_stuck] at h; exact h
theorem ed_lst {n : Nat} {es : List Expr} {fa : DE → R (List D)} {pos : Pos} (ha : Ad X H0 W es fa) (hn : Alen n fa) (hz : n ≤ SZ := by decide) : Ed X H0 W (.List es pos) (fLst n fa) := by
  refine PE.imp (pe_lst ha) fun σ H Q h => ?_
  obtain ⟨G, δ, s, sl, h⟩ := h
  refine ⟨G, δ, s, sl, ?_⟩
  unfold fLst at h
  cases hf : fa δ with
  | ok ds =>
    rw [hf, bind_ok] at h
    intro vs H1 G1 g1 p1
    refine ⟨by rw [p1.len, hn.ok _ _ hf]; exact sz_le hz, fun p hp => new_own (Wd := fun _ _ _ => False) g1.gh hp p1 fun v H2 G2 g2 p2 => h v H2 G2 (g1.trans g2) (p2.back g1.hh)⟩
  | ex c fs' => rw [hf, bind_ex] at h; exact h
  | stuck => rw [hf, bind_stuck] at h; exact h

/-! ### tests -/
def truD : D → R Bool
  | .bl b => .ok b
  | .int i => .ok (i != 0)
  | .non => .ok false
  | .str x => if x.length ≤ SZ then .ok ((x.length : Int) != 0) else .stuck
  | .lst xs => .ok (!xs.isEmpty)
  | .tup xs => .ok (!xs.isEmpty)
  | _ => .stuck
def fT (f : DE → R RV) (δ : DE) : R Bool := f δ >>= fun r => truD r.d
theorem postB_bind {K : PySem.W.Frag} {mg : Str → Option Value} {H G : Hp} {W : Value → Option Addr → Hp → Prop} {Q : VK} {Q2 : Bool → Hp → Prop} {x : R RV} {f : D → R Bool} (h : postB K mg H G W Q2 (x >>= fun r => f r.d))
    (k : ∀ v d H' G', Gr H G H' G' → Dp K mg G' v d → postB K mg H' G' W Q2 (f d) → Q v H') : post K mg H G W Q x := by
  cases x with
  | ok r =>
    intro v H' G' g p
    obtain ⟨G2, g2, _, p2, _⟩ := RVp.frz g p
    refine k v r.d H' G2 g2 p2 ?_
    have h' : postB K mg H G W Q2 (f r.d) := h
    generalize hy : f r.d = y at h'
    cases y with
    | ok r2 =>
      intro H3 G3 g3
      exact h' H3 G3 (g2.trans g3)
    | ex c fs => exact postX.mono g2 h'
    | stuck => exact h'
  | ex c fs => exact h
  | stuck => exact h
theorem dp_isEmpty {K : PySem.W.Frag} {mg : Str → Option Value} {G : Hp} {xs : List V} {ds : List D} (a : DpAll K mg G xs ds) : xs.isEmpty = ds.isEmpty := by
  cases a <;> rfl
theorem truD_ok {K : PySem.W.Frag} {mg : Str → Option Value} {H G : Hp} {W : Value → Option Addr → Hp → Prop} {Q : Bool → Hp → Prop} {v : V} {d : D} (s : Same G H) (p : Dp K mg G v d) (h : postB K mg H G W Q (truD d)) : ∃ k, TruV K v H k ∧ Q k H := by
  cases p with
  | non => exact ⟨false, rfl, h H G (.refl s)⟩
  | bl b => exact ⟨b, rfl, h H G (.refl s)⟩
  | int i => exact ⟨_, rfl, h H G (.refl s)⟩
  | str x hx =>
    have h2 : postB K mg H G W Q (if x.length ≤ SZ then .ok ((x.length : Int) != 0) else .stuck) := h
    by_cases hz : x.length ≤ SZ
    · rw [if_pos hz] at h2
      exact ⟨_, ⟨sz_le hz, rfl⟩, h2 H G (.refl s)⟩
    · rw [if_neg hz] at h2
      exact h2.elim
  | lst r a => exact ⟨_, .inl ⟨_, .inl (same_rd s r), rfl⟩, by rw [dp_isEmpty a]; exact h H G (.refl s)⟩
  | tup r a => exact ⟨_, .inr (.inl ⟨_, same_t s r, rfl⟩), by rw [dp_isEmpty a]; exact h H G (.refl s)⟩
  | dk r a => exact h.elim
  | dt r a => exact h.elim
  | obj r a b => exact h.elim
  | exn r a b => exact h.elim
theorem td_val {e : Expr} {f : DE → R RV} (h : Ed X H0 W e f) (he : ∀ whole, isTrue e X.env whole = (do let v ← whole; standAt e.pos; holding [v] (truthy v)) := by exact fun _ => rfl) : Td X H0 W e (fT f) := by
  refine PT.imp (pt_truth h he) fun σ H Q h => ?_
  obtain ⟨G, δ, s, sl, h⟩ := h
  exact ⟨G, δ, s, sl, postB_bind (f := truD) h fun v d H1 G1 g1 p1 h1 => truD_ok g1.gh p1 h1⟩
/-- a comparison as a test -/
def blD : D → R Bool
  | .bl b => .ok b
  | _ => .stuck
def fB (f : DE → R RV) (δ : DE) : R Bool := f δ >>= fun r => blD r.d
theorem td_cmp {op : CmpOp} {g : D → D → R RV} {fa fb : DE → R RV} {a b : Expr} {pos : Pos} (ho : OpR X (compareOp op) (rD X.K X.mg g)) (noex : ∀ x y c fs, g x y ≠ .ex c fs) (ha : Ed X H0 W a fa) (hb : Ed X H0 W b fb) (hm : behindInMarks op b = false) : Td X H0 W (.Compare a [op] [b] pos) (fB (fBin g fa fb)) := by
  refine PT.imp (pt_cmpR ho ha hb hm) fun σ H Q h => ?_
  obtain ⟨G, δ, s, sl, h⟩ := h
  refine op_core σ H _ ⟨G, δ, s, sl, postB_bind (f := blD) h fun v d H1 G1 g1 p1 h1 => ?_⟩ noex
  cases p1 with
  | bl b => exact ⟨b, rfl, h1 H1 G1 (.refl g1.gh)⟩
  | _ => exact h1.elim
/-- and, or, not as tests -/
def bAnd (fa fb : DE → R Bool) (δ : DE) : R Bool := fa δ >>= fun b => if b = true then fb δ else .ok false
def bOr (fa fb : DE → R Bool) (δ : DE) : R Bool := fa δ >>= fun b => if b = true then .ok true else fb δ
def bNot (fa : DE → R Bool) (δ : DE) : R Bool := fa δ >>= fun b => .ok (!b)
theorem postB_seq {K : PySem.W.Frag} {mg : Str → Option Value} {H G : Hp} {W : Value → Option Addr → Hp → Prop} {Q Q2 : Bool → Hp → Prop} {x : R Bool} {f : Bool → R Bool} (h : postB K mg H G W Q2 (x >>= f))
    (k : ∀ b H' G', Gr H G H' G' → postB K mg H' G' W Q2 (f b) → Q b H') : postB K mg H G W Q x := by
  cases x with
  | ok b =>
    intro H' G' g
    refine k b H' G' g ?_
    have h' : postB K mg H G W Q2 (f b) := h
    generalize hy : f b = y at h'
    cases y with
    | ok r2 => exact fun H3 G3 g3 => h' H3 G3 (g.trans g3)
    | ex c fs => exact postX.mono g h'
    | stuck => exact h'
  | ex c fs => exact h
  | stuck => exact h
theorem wd_one {a : Expr} {op} {pos : Pos} {f : DE → R Bool} (h : PT X a (tB X.K X.mg H0 W f)) (ho : op = .And ∨ op = .Or := by first | exact Or.inl rfl | exact Or.inr rfl) : Wd X H0 W (.BoolOp op [a] pos) f := by
  rcases ho with rfl | rfl
  · exact pw_and1 h
  · exact pw_or1 h
theorem wd_and {a b : Expr} {rest : List Expr} {pos : Pos} {fa fb : DE → R Bool} (ha : Td X H0 W a fa) (hb : Wd X H0 W (.BoolOp .And (b :: rest) pos) fb) : Wd X H0 W (.BoolOp .And (a :: b :: rest) pos) (bAnd fa fb) := by
  refine PW.imp (pw_and ha hb) fun σ H Q h => ?_
  obtain ⟨G, δ, s, sl, h⟩ := h
  refine ⟨G, δ, s, sl, postB_seq h fun c H1 G1 g1 h1 => ?_⟩
  cases c with
  | true => exact ⟨G1, δ, g1.gh, sl.mono g1, h1⟩
  | false => exact h1 H1 G1 (.refl g1.gh)
theorem wd_or {a b : Expr} {rest : List Expr} {pos : Pos} {fa fb : DE → R Bool} (ha : Td X H0 W a fa) (hb : Wd X H0 W (.BoolOp .Or (b :: rest) pos) fb) : Wd X H0 W (.BoolOp .Or (a :: b :: rest) pos) (bOr fa fb) := by
  refine PW.imp (pw_or ha hb) fun σ H Q h => ?_
  obtain ⟨G, δ, s, sl, h⟩ := h
  refine ⟨G, δ, s, sl, postB_seq h fun c H1 G1 g1 h1 => ?_⟩
  cases c with
  | true => exact h1 H1 G1 (.refl g1.gh)
  | false => exact ⟨G1, δ, g1.gh, sl.mono g1, h1⟩
theorem td_w {e : Expr} {f : DE → R Bool} (h : Wd X H0 W e f) : Td X H0 W e f := h.pt
theorem td_not {a : Expr} {pos : Pos} {f : DE → R Bool} (h : Td X H0 W a f) : Td X H0 W (.UnaryOp .Not a pos) (bNot f) := by
  refine PT.imp (pt_not h) fun σ H Q h => ?_
  obtain ⟨G, δ, s, sl, h⟩ := h
  exact ⟨G, δ, s, sl, postB_seq h fun c H1 G1 g1 h1 => h1 H1 G1 (.refl g1.gh)⟩
/-- .. as values: x and y, x or y (by truth), not x -/
def fAnd (fa fb : DE → R RV) (δ : DE) : R RV := fa δ >>= fun r => truD r.d >>= fun b => if b = true then fb δ else .ok (.fr r.d)
def fOr (fa fb : DE → R RV) (δ : DE) : R RV := fa δ >>= fun r => truD r.d >>= fun b => if b = true then .ok (.fr r.d) else fb δ
def fNot (fa : DE → R RV) (δ : DE) : R RV := fa δ >>= fun r => truD r.d >>= fun b => .ok (.fr (.bl (!b)))
theorem tru_bind {K : PySem.W.Frag} {mg : Str → Option Value} {H G : Hp} {W : Value → Option Addr → Hp → Prop} {Q2 : VK} {v : V} {d : D} {f : Bool → R RV} (s : Same G H) (p : Dp K mg G v d) (h : post K mg H G W Q2 (truD d >>= f)) : ∃ k, TruV K v H k ∧ post K mg H G W Q2 (f k) := by
  have q : ∃ k, truD d = .ok k := by
    cases e : truD d with
    | ok k => exact ⟨k, rfl⟩
    | ex c fs => cases d <;> simp [truD] at e; split at e <;> cases e
    | stuck => rw [e] at h; exact h.elim
  obtain ⟨k, e⟩ := q
  rw [e, bind_ok] at h
  obtain ⟨k', t, e'⟩ := truD_ok (W := W) (Q := fun b _ => b = k) s p (by rw [e]; exact fun _ _ _ => rfl)
  subst e'
  exact ⟨k', t, h⟩
theorem ed_and1 {op} {a : Expr} {pos : Pos} {f : DE → R RV} (h : Ed X H0 W a f) : Ed X H0 W (.BoolOp op [a] pos) f := pe_one h
theorem ed_and {a b : Expr} {rest : List Expr} {pos : Pos} {fa fb : DE → R RV} (ha : Ed X H0 W a fa) (hb : Ed X H0 W (.BoolOp .And (b :: rest) pos) fb) : Ed X H0 W (.BoolOp .And (a :: b :: rest) pos) (fAnd fa fb) := by
  refine PE.imp (pe_andT ha hb) fun σ H Q h => ?_
  obtain ⟨G, δ, s, sl, h⟩ := h
  refine ⟨G, δ, s, sl, post_bind (f := fun d => truD d >>= fun b => if b = true then fb δ else .ok (.fr d)) h fun v d H1 G1 g1 p1 h1 => ?_⟩
  obtain ⟨k, t, h2⟩ := tru_bind g1.gh p1 h1
  refine ⟨k, t, ?_⟩
  cases k with
  | true => exact ⟨G1, δ, g1.gh, sl.mono g1, h2⟩
  | false => exact h2 v H1 G1 (.refl g1.gh) p1
theorem ed_or {a b : Expr} {rest : List Expr} {pos : Pos} {fa fb : DE → R RV} (ha : Ed X H0 W a fa) (hb : Ed X H0 W (.BoolOp .Or (b :: rest) pos) fb) : Ed X H0 W (.BoolOp .Or (a :: b :: rest) pos) (fOr fa fb) := by
  refine PE.imp (pe_orT ha hb) fun σ H Q h => ?_
  obtain ⟨G, δ, s, sl, h⟩ := h
  refine ⟨G, δ, s, sl, post_bind (f := fun d => truD d >>= fun b => if b = true then .ok (.fr d) else fb δ) h fun v d H1 G1 g1 p1 h1 => ?_⟩
  obtain ⟨k, t, h2⟩ := tru_bind g1.gh p1 h1
  refine ⟨k, t, ?_⟩
  cases k with
  | true => exact h2 v H1 G1 (.refl g1.gh) p1
  | false => exact ⟨G1, δ, g1.gh, sl.mono g1, h2⟩
theorem ed_not {a : Expr} {pos : Pos} {fa : DE → R RV} (ha : Ed X H0 W a fa) : Ed X H0 W (.UnaryOp .Not a pos) (fNot fa) := by
  refine PE.imp (pe_notT ha) fun σ H Q h => ?_
  obtain ⟨G, δ, s, sl, h⟩ := h
  refine ⟨G, δ, s, sl, post_bind (f := fun d => truD d >>= fun b => .ok (.fr (.bl (!b)))) h fun v d H1 G1 g1 p1 h1 => ?_⟩
  obtain ⟨k, t, h2⟩ := tru_bind g1.gh p1 h1
  exact ⟨k, t, h2 _ H1 G1 (.refl g1.gh) (.bl _)⟩
/-- a if c else b -/
def fIf (c : DE → R Bool) (fa fb : DE → R RV) (δ : DE) : R RV := c δ >>= fun b => if b = true then fa δ else fb δ
theorem postT_bind {K : PySem.W.Frag} {mg : Str → Option Value} {H G : Hp} {W : Value → Option Addr → Hp → Prop} {Q : Bool → Hp → Prop} {Q2 : VK} {x : R Bool} {f : Bool → R RV} (h : post K mg H G W Q2 (x >>= f))
    (k : ∀ b H' G', Gr H G H' G' → post K mg H' G' W Q2 (f b) → Q b H') : postB K mg H G W Q x := by
  cases x with
  | ok b =>
    intro H' G' g
    refine k b H' G' g ?_
    have h' : post K mg H G W Q2 (f b) := h
    generalize hy : f b = y at h'
    cases y with
    | ok r2 => exact fun v H3 G3 g3 p3 => h' v H3 G3 (g.trans g3) (p3.back g.hh)
    | ex c fs => exact postX.mono g h'
    | stuck => exact h'
  | ex c fs => exact h
  | stuck => exact h
theorem ed_if {c a b : Expr} {pos : Pos} {fc : DE → R Bool} {fa fb : DE → R RV} (hc : Td X H0 W c fc) (ha : Ed X H0 W a fa) (hb : Ed X H0 W b fb) : Ed X H0 W (.IfExp c a b pos) (fIf fc fa fb) := by
  refine PE.imp (pe_ifExp hc ha hb) fun σ H Q h => ?_
  obtain ⟨G, δ, s, sl, h⟩ := h
  refine ⟨G, δ, s, sl, postT_bind h fun k H1 G1 g1 h1 => ?_⟩
  cases k with
  | true => exact ⟨G1, δ, g1.gh, sl.mono g1, h1⟩
  | false => exact ⟨G1, δ, g1.gh, sl.mono g1, h1⟩
end
end DL


set_option maxRecDepth 100000
set_option maxHeartbeats 4000000
namespace DL
open PySem PySem.Spec PyProof.Rows L2

/-! ### statements -/
inductive SR where
  | nx (δ : DE) | br (δ : DE) | ct (δ : DE) | rt (r : RV) | ex (c : Str) (fs : List (Str × D)) (δ : DE) | stuck
def lift {α : Type} (x : R α) (δ : DE) (k : α → SR) : SR := match x with
  | .ok a => k a
  | .ex c fs => .ex c fs δ
  | .stuck => .stuck
theorem lift_ok {α : Type} (a : α) (δ : DE) (k : α → SR) : lift (.ok a) δ k = k a := rfl
def SR.seq (s : SR) (F : DE → SR) : SR := match s with
  | .nx δ => F δ
  | r => r
theorem seq_nx (δ : DE) (F : DE → SR) : (SR.nx δ).seq F = F δ := rfl
theorem seq_rt (r : RV) (F : DE → SR) : (SR.rt r).seq F = .rt r := rfl
section
variable (K : PySem.W.Frag) (mg : Str → Option Value) (H0 G0 : Hp) (W : WX)
def postS (G : Hp) (D : Ends) : SR → Prop
  | .nx δ' => ∀ σ' H' G', Gr H0 G0 H' G' → Same G G' → Sl K mg H0 H' G' σ' δ' → D.nx σ' H'
  | .br δ' => ∀ σ' H' G', Gr H0 G0 H' G' → Same G G' → Sl K mg H0 H' G' σ' δ' → D.bk σ' H'
  | .ct δ' => ∀ σ' H' G', Gr H0 G0 H' G' → Same G G' → Sl K mg H0 H' G' σ' δ' → D.ct σ' H'
  | .rt r => ∀ v H' G', Gr H0 G0 H' G' → RVp K mg H0 H' G' v r → D.rt v H'
  | .ex c fs δ' => ∀ cls d σ' H' G', Gr H0 G0 H' G' → Same G G' → Sl K mg H0 H' G' σ' δ' → XRp K mg H' G' c fs cls d → W cls d σ' H'
  | .stuck => False
def tS (F : DE → SR) : TS := fun D σ H => ∃ G δ, Gr H0 G0 H G ∧ Sl K mg H0 H G σ δ ∧ postS K mg H0 G0 W G D (F δ)
/-- a target -/
def tG (bd : D → DE → Option DE) : TG := fun v σ H Q => ∃ G δ d, Gr H0 G0 H G ∧ Sl K mg H0 H G σ δ ∧ Dp K mg G v d ∧ match bd d δ with
  | some δ' => ∀ σ' H' G', Gr H0 G0 H' G' → Same G G' → Sl K mg H0 H' G' σ' δ' → Q σ' H'
  | none => False
/-- an iterator that gives ds -/
def ItD (J : It) (ds : List D) (G : Hp) : Prop := ∀ G' H', Same G G' → Same G' H' →
  (∀ i d, ds[i]? = some d → J.go i H' ∧ ∀ x H2, J.yld i H' x H2 → ∃ G2, Gr H' G' H2 G2 ∧ Dp K mg G2 x d) ∧ J.stop ds.length H'
def tI (f : DE → R (List D)) : TI := fun σ H R => ∃ G δ, Same G H ∧ Sl K mg H0 H G σ δ ∧ match f δ with
  | .ok ds => ∀ J H' G', Gr H G H' G' → ItD K mg J ds G' → R J H'
  | .ex c fs => postX K mg H G (fun c d H' => W c d σ H') c fs
  | .stuck => False
end

abbrev Sd (X : Cx) (H0 G0 : Hp) (W : WX) (st : Stmt) (F : DE → SR) : Prop := PS X st (tS X.K X.mg H0 G0 W F)
abbrev Bd (X : Cx) (H0 G0 : Hp) (W : WX) (st : List Stmt) (F : DE → SR) : Prop := PSs X st (tS X.K X.mg H0 G0 W F)
abbrev Gd (X : Cx) (H0 G0 : Hp) (tg : Expr) (bd : D → DE → Option DE) : Prop := PG X tg (tG X.K X.mg H0 G0 bd)
abbrev Id_ (X : Cx) (H0 : Hp) (W : WX) (tg iter : Expr) (f : DE → R (List D)) : Prop := PI X tg iter (tI X.K X.mg H0 W f)

section
variable {K : PySem.W.Frag} {mg : Str → Option Value} {H0 G0 H G : Hp} {W : WX} {D0 : Ends} {σ : L2.St} {δ : DE}
theorem postS.mono {G1 : Hp} {r : SR} (s : Same G G1) (h : postS K mg H0 G0 W G D0 r) : postS K mg H0 G0 W G1 D0 r := by
  cases r with
  | nx δ' => exact fun σ' H' G' a b => h σ' H' G' a (s.trans b)
  | br δ' => exact fun σ' H' G' a b => h σ' H' G' a (s.trans b)
  | ct δ' => exact fun σ' H' G' a b => h σ' H' G' a (s.trans b)
  | rt r => exact h
  | ex c fs δ' => exact fun cls d σ' H' G' a b => h cls d σ' H' G' a (s.trans b)
  | stuck => exact h
/-- an expression, then a statement's end -/
theorem lift_core {f : DE → R RV} {k : RV → SR} {Q : VK} (g : Gr H0 G0 H G) (sl : Sl K mg H0 H G σ δ) (h : postS K mg H0 G0 W G D0 (lift (f δ) δ k))
    (hk : ∀ r v H1 G1, f δ = .ok r → Gr H G H1 G1 → Gr H0 G0 H1 G1 → Sl K mg H0 H1 G1 σ δ → RVp K mg H H1 G1 v r → postS K mg H0 G0 W G1 D0 (k r) → Q v H1) : tE K mg H0 W f σ H Q := by
  refine ⟨G, δ, g.gh, sl, ?_⟩
  cases e : f δ with
  | ok r =>
    rw [e, lift_ok] at h
    intro v H1 G1 g1 p1
    exact hk r v H1 G1 e g1 (g.trans g1) (sl.mono g1) p1 (h.mono g1.gg)
  | ex c fs =>
    rw [e] at h
    intro cls d H1 G1 g1 x
    exact h cls d σ H1 G1 (g.trans g1) g1.gg (sl.mono g1) x
  | stuck => rw [e] at h; exact h
theorem lift_coreB {f : DE → R Bool} {k : Bool → SR} {Q : Bool → Hp → Prop} (g : Gr H0 G0 H G) (sl : Sl K mg H0 H G σ δ) (h : postS K mg H0 G0 W G D0 (lift (f δ) δ k))
    (hk : ∀ b H1 G1, f δ = .ok b → Gr H G H1 G1 → Gr H0 G0 H1 G1 → Sl K mg H0 H1 G1 σ δ → postS K mg H0 G0 W G1 D0 (k b) → Q b H1) : tB K mg H0 W f σ H Q := by
  refine ⟨G, δ, g.gh, sl, ?_⟩
  cases e : f δ with
  | ok r =>
    rw [e, lift_ok] at h
    intro H1 G1 g1
    exact hk r H1 G1 e g1 (g.trans g1) (sl.mono g1) (h.mono g1.gg)
  | ex c fs =>
    rw [e] at h
    intro cls d H1 G1 g1 x
    exact h cls d σ H1 G1 (g.trans g1) g1.gg (sl.mono g1) x
  | stuck => rw [e] at h; exact h
/-- a slot is written -/
theorem Sl.put {i : Nat} {v : V} {r : RV} (sl : Sl K mg H0 H G σ δ) (p : RVp K mg H0 H G v r) (new : r.own = true → ∀ j r' v', δ[j]? = some (some r') → r'.own = true → σ[j]? = some (some v') → j ≠ i → v' ≠ v) :
    Sl K mg H0 H G (σ.set i (some v)) (δ.set i (some r)) := by
  refine ⟨by rw [List.length_set, List.length_set]; exact sl.len, fun j q e => ?_, fun j j' q q' u e1 o1 e2 o2 s1 s2 => ?_⟩
  · by_cases hj : i = j
    · subst hj
      by_cases hl : i < δ.length
      · rw [List.getElem?_set_self hl] at e
        cases e
        exact ⟨v, by rw [List.getElem?_set_self (by rw [sl.len]; exact hl)], p⟩
      · rw [List.getElem?_eq_none (by rw [List.length_set]; omega)] at e
        cases e
    · rw [List.getElem?_set_ne hj] at e
      rw [List.getElem?_set_ne hj]
      exact sl.at_ j q e
  · by_cases hj : i = j
    · by_cases hj' : i = j'
      · rw [← hj, ← hj']
      · exfalso
        subst hj
        rw [List.getElem?_set_ne hj'] at e2 s2
        by_cases hl : i < δ.length
        · rw [List.getElem?_set_self hl] at e1
          rw [List.getElem?_set_self (by rw [sl.len]; exact hl)] at s1
          cases e1; cases s1
          exact new o1 j' q' v e2 o2 s2 (Ne.symm hj') rfl
        · rw [List.getElem?_eq_none (by rw [List.length_set]; omega)] at e1
          cases e1
    · rw [List.getElem?_set_ne hj] at e1 s1
      by_cases hj' : i = j'
      · exfalso
        subst hj'
        by_cases hl : i < δ.length
        · rw [List.getElem?_set_self hl] at e2
          rw [List.getElem?_set_self (by rw [sl.len]; exact hl)] at s2
          cases e2; cases s2
          exact new o2 j q v e1 o1 s1 (Ne.symm hj) rfl
        · rw [List.getElem?_eq_none (by rw [List.length_set]; omega)] at e2
          cases e2
      · rw [List.getElem?_set_ne hj'] at e2 s2
        exact sl.dis j j' q q' u e1 o1 e2 o2 s1 s2
theorem own_ref {v : V} {r : RV} (o : r.own = true) (p : RVp K mg H0 H G v r) : ∃ a u, v = .ref a ∧ H a = some u ∧ G a = none ∧ H0 a = none := by
  cases r with
  | fr d => cases o
  | ol ds => obtain ⟨a, xs, e, h1, h2, h3, _⟩ := p; exact ⟨a, _, e, h1, h2, h3⟩
  | od t ds =>
    cases t
    · obtain ⟨a, xs, e, h1, h2, h3, _⟩ := p; exact ⟨a, _, e, h1, h2, h3⟩
    · obtain ⟨a, xs, e, h1, h2, h3, _⟩ := p; exact ⟨a, _, e, h1, h2, h3⟩
/-- .. with what an expression has given -/
theorem Sl.set {H1 G1 : Hp} {i : Nat} {v : V} {r : RV} (s0 : Same H0 H) (sl : Sl K mg H0 H G σ δ) (g : Gr H G H1 G1) (p : RVp K mg H H1 G1 v r) : Sl K mg H0 H1 G1 (σ.set i (some v)) (δ.set i (some r)) := by
  refine (sl.mono g).put (p.back s0) fun o j r' v' e o' es hj z => ?_
  subst z
  obtain ⟨v2, e2, p2⟩ := sl.at_ j r' e
  rw [es] at e2; cases e2
  obtain ⟨a, u, rfl, h1, _, h3⟩ := own_ref o p
  obtain ⟨a', u', ea, h1', _, _⟩ := own_ref o' p2
  cases ea
  rw [h3] at h1'; cases h1'
theorem Sl.forget (sl : Sl K mg H0 H G σ δ) (is : List Nat) : Sl K mg H0 H G σ (is.foldl (fun δ i => δ.set i none) δ) := by
  induction is generalizing δ with
  | nil => exact sl
  | cons i is ih =>
    refine ih ⟨by rw [List.length_set]; exact sl.len, fun j r e => ?_, fun j j' q q' u e1 o1 e2 o2 s1 s2 => ?_⟩
    · by_cases hj : i = j
      · subst hj
        by_cases hl : i < δ.length
        · rw [List.getElem?_set_self hl] at e; cases e
        · rw [List.getElem?_eq_none (by rw [List.length_set]; omega)] at e; cases e
      · rw [List.getElem?_set_ne hj] at e
        exact sl.at_ j r e
    · have f : ∀ j r, (δ.set i none)[j]? = some (some r) → δ[j]? = some (some r) := fun j r e => by
        by_cases hj : i = j
        · subst hj
          by_cases hl : i < δ.length
          · rw [List.getElem?_set_self hl] at e; cases e
          · rw [List.getElem?_eq_none (by rw [List.length_set]; omega)] at e; cases e
        · rw [List.getElem?_set_ne hj] at e
          exact e
      exact sl.dis j j' q q' u (f _ _ e1) o1 (f _ _ e2) o2 s1 s2
/-- an own thing is changed -/
theorem Sl.upd {a : Addr} {o : HO} {i : Nat} {r r' : RV} (sl : Sl K mg H0 H G σ δ) (e : δ[i]? = some (some r)) (ow : r.own = true) (es : σ[i]? = some (some (.ref a))) (hG : G a = none) (p : RVp K mg H0 (L2.upd H a o) G (.ref a) r') (ow' : r'.own = true) :
    Sl K mg H0 (L2.upd H a o) G σ (δ.set i (some r')) := by
  have hi : i < δ.length := by
    rcases Nat.lt_or_ge i δ.length with h | h
    · exact h
    · rw [List.getElem?_eq_none h] at e; cases e
  refine ⟨by rw [List.length_set]; exact sl.len, fun j q ej => ?_, fun j j' q q' u e1 o1 e2 o2 s1 s2 => ?_⟩
  · by_cases hj : i = j
    · subst hj
      rw [List.getElem?_set_self hi] at ej
      cases ej
      exact ⟨_, es, p⟩
    · rw [List.getElem?_set_ne hj] at ej
      obtain ⟨v, e1, p1⟩ := sl.at_ j q ej
      refine ⟨v, e1, ?_⟩
      cases q with
      | fr d => exact p1
      | ol ds =>
        obtain ⟨b, xs, rfl, h1, h2, h3, h4⟩ := p1
        have nb : b ≠ a := fun z => hj (sl.dis i j r _ _ e ow ej rfl es (by rw [e1, z]))
        exact ⟨b, xs, rfl, by rw [upd_ne nb]; exact h1, h2, h3, h4⟩
      | od t ds =>
        cases t
        · obtain ⟨b, xs, rfl, h1, h2, h3, h4⟩ := p1
          have nb : b ≠ a := fun z => hj (sl.dis i j r _ _ e ow ej rfl es (by rw [e1, z]))
          exact ⟨b, xs, rfl, by rw [upd_ne nb]; exact h1, h2, h3, h4⟩
        · obtain ⟨b, xs, rfl, h1, h2, h3, h4⟩ := p1
          have nb : b ≠ a := fun z => hj (sl.dis i j r _ _ e ow ej rfl es (by rw [e1, z]))
          exact ⟨b, xs, rfl, by rw [upd_ne nb]; exact h1, h2, h3, h4⟩
  · have f : ∀ (j : Nat) (q : RV), (δ.set i (some r'))[j]? = some (some q) → q.own = true → ∃ q0 : RV, δ[j]? = some (some q0) ∧ q0.own = true := fun j q ej oj => by
      by_cases hj : i = j
      · subst hj; exact ⟨r, e, ow⟩
      · rw [List.getElem?_set_ne hj] at ej
        exact ⟨q, ej, oj⟩
    obtain ⟨q0, a1, a2⟩ := f _ _ e1 o1
    obtain ⟨q1, b1, b2⟩ := f _ _ e2 o2
    exact sl.dis j j' q0 q1 u a1 a2 b1 b2 s1 s2
theorem Gr.upd {a : Addr} {o : HO} (g : Gr H0 G0 H G) (hG : G a = none) (h0 : H0 a = none) : Gr H0 G0 (L2.upd H a o) G where
  hh := fun b u e => by rw [upd_ne (ne_of_none e h0)]; exact g.hh _ _ e
  gg := g.gg
  gh := fun b u e => by rw [upd_ne (ne_of_none e hG)]; exact g.gh _ _ e
  old := g.old
end

section
variable {X : Cx} {H0 G0 : Hp} {W : WX}
/-! blocks -/
def sNil (δ : DE) : SR := .nx δ
def sSeq (F1 F2 : DE → SR) (δ : DE) : SR := (F1 δ).seq F2
theorem bd_nil : Bd X H0 G0 W [] sNil := PSs.imp pss_nil fun D σ H h => by
  obtain ⟨G, δ, g, sl, h⟩ := h
  exact h σ H G g (Same.refl _) sl
theorem bd_cons {st : Stmt} {rest : List Stmt} {F1 F2 : DE → SR} (h1 : Sd X H0 G0 W st F1) (h2 : Bd X H0 G0 W rest F2) : Bd X H0 G0 W (st :: rest) (sSeq F1 F2) := by
  refine PSs.imp (pss_cons h1 h2) fun D σ H h => ?_
  obtain ⟨G, δ, g, sl, h⟩ := h
  refine ⟨G, δ, g, sl, ?_⟩
  unfold sSeq at h
  cases e : F1 δ with
  | nx δ' =>
    rw [e] at h
    exact fun σ' H' G' g' s' sl' => ⟨G', δ', g', sl', postS.mono s' h⟩
  | br δ' => rw [e] at h; exact h
  | ct δ' => rw [e] at h; exact h
  | rt r => rw [e] at h; exact h
  | ex c fs δ' => rw [e] at h; exact h
  | stuck => rw [e] at h; exact h
/-! names are stored, values returned -/
def sSet (i : Nat) (f : DE → R RV) (δ : DE) : SR := lift (f δ) δ fun r => .nx (δ.set i (some r))
theorem sd_set {i : Nat} {x : Str} {e : Expr} {f : DE → R RV} {pos pos' : Pos} (hN : X.N.Nodup) (he : Ed X H0 W e f) (hi : X.N[i]? = some x := by rfl) (hx : Loc X.env.scope x := by first | exact Or.inl rfl | exact Or.inr rfl) (hs : swapsWith e (some (.Name x pos')) pos.line X.env = pure false := by rfl)
    (hf : X.fn x = true ∨ X.env.scope.names.lookup x = some .local := by first | exact .inl rfl | exact .inr rfl | assumption) : Sd X H0 G0 W (.Assign [.Name x pos'] e pos) (sSet i f) := by
  refine PS.imp (ps_set hN hi hx he hs hf) fun D σ H h => ?_
  obtain ⟨G, δ, g, sl, h⟩ := h
  refine lift_core g sl h fun r v H1 G1 e1 g1 g2 sl1 p1 h1 => ?_
  exact h1 _ H1 G1 g2 (Same.refl _) (Sl.set g.hh sl g1 p1)
def sRet (f : DE → R RV) (δ : DE) : SR := lift (f δ) δ fun r => .rt r
theorem sd_ret {e : Expr} {f : DE → R RV} {pos : Pos} (he : Ed X H0 W e f) : Sd X H0 G0 W (.Return (some e) pos) (sRet f) := by
  refine PS.imp (ps_ret he) fun D σ H h => ?_
  obtain ⟨G, δ, g, sl, h⟩ := h
  exact lift_core g sl h fun r v H1 G1 e1 g1 g2 sl1 p1 h1 => h1 v H1 G1 g2 (p1.back g.hh)
/-- a slot's own thing is handed back -/
def sRetV (i : Nat) (δ : DE) : SR := match δ[i]? with
  | some (some r) => .rt r
  | _ => .stuck
theorem sd_retV (i : Nat) {x : Str} {pos pos' : Pos} (hN : X.N[i]? = some x := by rfl) (hv : Vis X.env.scope x := by first | exact Or.inl rfl | exact Or.inr (Or.inl rfl) | exact Or.inr (Or.inr rfl)) (hd : (x == ("__debug__" : Str)) = false := by decide)
    (hcd : (x == ("__classdict__" : Str)) = false := by decide) : Sd X H0 G0 W (.Return (some (.Name x pos)) pos') (sRetV i) := by
  refine PS.imp (ps_ret (pe_var hN hv hd hcd)) fun D σ H h => ?_
  obtain ⟨G, δ, g, sl, h⟩ := h
  unfold sRetV at h
  split at h
  · rename_i r e
    obtain ⟨v, e1, e2⟩ := sl.at_ i _ e
    exact ⟨v, e1, h v H G g e2⟩
  · exact h.elim
def sRetN (_ : DE) : SR := .rt (.fr .non)
theorem sd_retN {pos : Pos} : Sd X H0 G0 W (.Return none pos) sRetN := PS.imp ps_retN fun D σ H h => by
  obtain ⟨G, δ, g, sl, h⟩ := h
  exact h .non H G g .non
theorem sd_pass {pos : Pos} : Sd X H0 G0 W (.Pass pos) sNil := PS.imp ps_pass fun D σ H h => by
  obtain ⟨G, δ, g, sl, h⟩ := h
  exact h σ H G g (Same.refl _) sl
def sBr (δ : DE) : SR := .br δ
def sCt (δ : DE) : SR := .ct δ
theorem sd_break {pos : Pos} : Sd X H0 G0 W (.Break pos) sBr := PS.imp ps_break fun D σ H h => by
  obtain ⟨G, δ, g, sl, h⟩ := h
  exact h σ H G g (Same.refl _) sl
theorem sd_cont {pos : Pos} : Sd X H0 G0 W (.Continue pos) sCt := PS.imp ps_continue fun D σ H h => by
  obtain ⟨G, δ, g, sl, h⟩ := h
  exact h σ H G g (Same.refl _) sl
def sExpr (f : DE → R RV) (δ : DE) : SR := lift (f δ) δ fun _ => .nx δ
theorem sd_expr {e : Expr} {f : DE → R RV} {pos : Pos} (he : Ed X H0 W e f) (hs : swapsWith e none pos.line X.env = pure false := by rfl) : Sd X H0 G0 W (.Expr e pos) (sExpr f) := by
  refine PS.imp (ps_expr he hs) fun D σ H h => ?_
  obtain ⟨G, δ, g, sl, h⟩ := h
  exact lift_core g sl h fun r v H1 G1 e1 g1 g2 sl1 p1 h1 => h1 σ H1 G1 g2 (Same.refl _) sl1
def sIf (c : DE → R Bool) (Fa Fb : DE → SR) (δ : DE) : SR := lift (c δ) δ fun b => if b = true then Fa δ else Fb δ
theorem sd_if {c : Expr} {a b : List Stmt} {fc : DE → R Bool} {Fa Fb : DE → SR} {pos : Pos} (hc : Td X H0 W c fc) (ha : Bd X H0 G0 W a Fa) (hb : Bd X H0 G0 W b Fb) : Sd X H0 G0 W (.If c a b pos) (sIf fc Fa Fb) := by
  refine PS.imp (ps_if hc ha hb) fun D σ H h => ?_
  obtain ⟨G, δ, g, sl, h⟩ := h
  refine lift_coreB g sl h fun k H1 G1 e1 g1 g2 sl1 h1 => ?_
  cases k with
  | true => exact ⟨G1, δ, g2, sl1, h1⟩
  | false => exact ⟨G1, δ, g2, sl1, h1⟩
/-- ghosts: a slot's own thing is frozen; slots are forgotten -/
def frzS (i : Nat) (δ : DE) : DE := match δ[i]? with
  | some (some r) => δ.set i (some (.fr r.d))
  | _ => δ
def sFrz (i : Nat) (F : DE → SR) (δ : DE) : SR := F (frzS i δ)
def fgtS (is : List Nat) (δ : DE) : DE := is.foldl (fun δ i => δ.set i none) δ
theorem frz_ok {K : PySem.W.Frag} {mg : Str → Option Value} {H G : Hp} {σ : L2.St} {δ : DE} (i : Nat) (g : Gr H0 G0 H G) (sl : Sl K mg H0 H G σ δ) : ∃ G', Gr H0 G0 H G' ∧ Same G G' ∧ Sl K mg H0 H G' σ (frzS i δ) := by
  unfold frzS
  split
  · rename_i r e
    obtain ⟨v, e1, p⟩ := sl.at_ i r e
    by_cases ow : r.own = true
    · obtain ⟨a, u, rfl, h1, h2, h3⟩ := own_ref ow p
      have s : Same G (upd G a u) := upd_same_of h2
      refine ⟨upd G a u, g.freeze h3 h1 h2, s, ⟨by rw [List.length_set]; exact sl.len, fun j q ej => ?_, fun j j' q q' w e1' o1 e2' o2 s1 s2 => ?_⟩⟩
      · by_cases hj : i = j
        · subst hj
          rw [List.getElem?_set_self (by rcases Nat.lt_or_ge i δ.length with h | h; exact h; rw [List.getElem?_eq_none h] at e; cases e)] at ej
          cases ej
          refine ⟨_, e1, ?_⟩
          cases r with
          | fr d => cases ow
          | ol ds => obtain ⟨b, xs, eb, k1, k2, k3, k4⟩ := p; cases eb; rw [k1] at h1; cases h1; exact .lst (.inl upd_same) (k4.mono s)
          | od t ds =>
            cases t
            · obtain ⟨b, xs, eb, k1, k2, k3, k4⟩ := p; cases eb; rw [k1] at h1; cases h1; exact .dk upd_same (k4.mono s)
            · obtain ⟨b, xs, eb, k1, k2, k3, k4⟩ := p; cases eb; rw [k1] at h1; cases h1; exact .dt upd_same (k4.mono s)
        · rw [List.getElem?_set_ne hj] at ej
          obtain ⟨v', e1', p'⟩ := sl.at_ j q ej
          refine ⟨v', e1', ?_⟩
          have nb : ∀ b, v' = .ref b → q.own = true → b ≠ a := fun b eb oq z => hj (sl.dis i j r q _ e ow ej oq e1 (by rw [e1', eb, z]))
          cases q with
          | fr d => exact Dp.mono s p'
          | ol ds => obtain ⟨b, xs, eb, k1, k2, k3, k4⟩ := p'; exact ⟨b, xs, eb, k1, by rw [upd_ne (nb b eb rfl)]; exact k2, k3, k4.mono s⟩
          | od t ds =>
            cases t
            · obtain ⟨b, xs, eb, k1, k2, k3, k4⟩ := p'; exact ⟨b, xs, eb, k1, by rw [upd_ne (nb b eb rfl)]; exact k2, k3, k4.mono s⟩
            · obtain ⟨b, xs, eb, k1, k2, k3, k4⟩ := p'; exact ⟨b, xs, eb, k1, by rw [upd_ne (nb b eb rfl)]; exact k2, k3, k4.mono s⟩
      · have f : ∀ (j : Nat) (q : RV), (δ.set i (some (.fr r.d)))[j]? = some (some q) → q.own = true → δ[j]? = some (some q) := fun j q ej oj => by
          by_cases hj : i = j
          · subst hj
            rw [List.getElem?_set_self (by rcases Nat.lt_or_ge i δ.length with h | h; exact h; rw [List.getElem?_eq_none h] at e; cases e)] at ej
            cases ej; cases oj
          · rw [List.getElem?_set_ne hj] at ej
            exact ej
        exact sl.dis j j' q q' w (f _ _ e1' o1) o1 (f _ _ e2' o2) o2 s1 s2
    · refine ⟨G, g, Same.refl _, ?_⟩
      cases r with
      | fr d =>
        have z : δ.set i (some (RV.fr (RV.fr d).d)) = δ := by
          refine List.ext_getElem? fun j => ?_
          by_cases hj : i = j
          · subst hj
            rw [List.getElem?_set_self (by rcases Nat.lt_or_ge i δ.length with h | h; exact h; rw [List.getElem?_eq_none h] at e; cases e), e]
            rfl
          · rw [List.getElem?_set_ne hj]
        rw [z]
        exact sl
      | ol ds => exact absurd rfl ow
      | od t ds => exact absurd rfl ow
  · exact ⟨G, g, Same.refl _, sl⟩
theorem bd_frz (i : Nat) {sts : List Stmt} {F : DE → SR} (h : Bd X H0 G0 W sts F) : Bd X H0 G0 W sts (sFrz i F) := PSs.imp h fun D σ H q => by
  obtain ⟨G, δ, g, sl, q⟩ := q
  obtain ⟨G', g', s', sl'⟩ := frz_ok i g sl
  exact ⟨G', _, g', sl', postS.mono s' q⟩
theorem sd_frz (i : Nat) {st : Stmt} {F : DE → SR} (h : Sd X H0 G0 W st F) : Sd X H0 G0 W st (sFrz i F) := PS.imp h fun D σ H q => by
  obtain ⟨G, δ, g, sl, q⟩ := q
  obtain ⟨G', g', s', sl'⟩ := frz_ok i g sl
  exact ⟨G', _, g', sl', postS.mono s' q⟩

/-! targets -/
def gSet (i : Nat) (d : D) (δ : DE) : Option DE := some (δ.set i (some (.fr d)))
theorem gd_name (i : Nat) {x : Str} {pos : Pos} (hN : X.N.Nodup) (hi : X.N[i]? = some x := by rfl) (hx : Loc X.env.scope x := by first | exact Or.inl rfl | exact Or.inr rfl) (hf : X.fn x = true ∨ X.env.scope.names.lookup x = some .local := by first | exact .inl rfl | exact .inr rfl | assumption) : Gd X H0 G0 (.Name x pos) (gSet i) := by
  refine ⟨fun pins s σ H v u Q I r h => (pg_name hN hi hx hf).run pins s σ H v u Q I r ?_⟩
  obtain ⟨G, δ, d, g, sl, p, h⟩ := h
  exact h _ H G g (Same.refl _) (sl.put (r := .fr d) p fun o => nomatch o)
/-- a tuple of names, from a tuple -/
def gSets : List Nat → List D → DE → Option DE
  | [], [], δ => some δ
  | i :: is, d :: ds, δ => gSets is ds (δ.set i (some (.fr d)))
  | _, _, _ => none
def gTupD (is : List Nat) (d : D) (δ : DE) : Option DE := match d with
  | .tup ds => if ds.length = is.length then gSets is ds δ else none
  | _ => none
def gNames : List Nat → TGs
  | [] => gNil
  | i :: is => gCons (gName i) (gNames is)
theorem gSets_ok {K : PySem.W.Frag} {mg : Str → Option Value} {H G : Hp} : ∀ {is : List Nat} {vs : List V} {ds : List D} {σ : L2.St} {δ δ' : DE} {Q : L2.St → Hp → Prop}, Gr H0 G0 H G → Sl K mg H0 H G σ δ → DpAll K mg G vs ds → gSets is ds δ = some δ' →
    (∀ σ', Sl K mg H0 H G σ' δ' → Q σ' H) → gNames is vs σ H Q
  | [], _, _, _, _, _, _, g, sl, .nil, e, k => by
    simp [gSets] at e
    subst e
    exact ⟨rfl, k _ sl⟩
  | i :: is, _, _, σ, δ, δ', Q, g, sl, .cons (v := v) (vs := vs) (d := d) p t, e, k => by
    refine ⟨v, vs, rfl, ?_⟩
    exact gSets_ok (σ := σ.set i (some v)) g (sl.put (r := .fr d) p fun o => nomatch o) t (by simpa [gSets] using e) k
  | [], _, _, _, _, _, _, _, _, .cons _ _, e, _ => by simp [gSets] at e
  | _ :: _, _, _, _, _, _, _, _, _, .nil, e, _ => by simp [gSets] at e
theorem gd_tup {is : List Nat} {es : List Expr} {k : Nat} {pos : Pos} (hc : X.calm = true) (h : PGs X es (gNames is)) (hn : (assignEach es X.env).length = is.length := by rfl) (hst : (assignEach es X.env).findIdx? (·.1) = none := by rfl) : Gd X H0 G0 (.Tuple es k pos) (gTupD is) := by
  refine ⟨fun pins s σ H v u Q I r h' => (pg_tup hc h hn hst).run pins s σ H v u Q I r ?_⟩
  obtain ⟨G, δ, d, g, sl, p, h'⟩ := h'
  unfold gTupD at h'
  cases p with
  | tup q a =>
    rename_i adr xs ds
    by_cases hl : ds.length = is.length
    · simp only [hl, if_true] at h'
      cases e : gSets is ds δ with
      | some δ' =>
        simp only [e] at h'
        refine ⟨_, _, rfl, same_t g.gh q, by rw [a.len, hl], gSets_ok g sl a e fun σ' sl' => h' σ' H G g (Same.refl _) sl'⟩
      | none => simp only [e] at h'
    · simp only [hl, if_false] at h'
  | _ => exact h'.elim
/-- a, b = e -/
def sAsg (bd : D → DE → Option DE) (f : DE → R RV) (δ : DE) : SR := lift (f δ) δ fun r => match bd r.d δ with
  | some δ' => .nx δ'
  | none => .stuck
theorem sd_asg {tg e : Expr} {f : DE → R RV} {bd : D → DE → Option DE} {pos : Pos} (he : Ed X H0 W e f) (hg : Gd X H0 G0 tg bd) (hs : swapsWithSole [tg] e pos.line X.env = pure false := by rfl) (hw : swappedStores [tg] e X.env = pure none := by rfl)
    (h1 : (assignEach [tg] X.env).map (·.2) = [assign tg X.env] := by rfl) : Sd X H0 G0 W (.Assign [tg] e pos) (sAsg bd f) := by
  refine PS.imp (ps_asg he hg hs hw h1) fun D σ H h => ?_
  obtain ⟨G, δ, g, sl, h⟩ := h
  refine lift_core g sl h fun r v H1 G1 e1 g1 g2 sl1 p1 h1 => ?_
  obtain ⟨G2, g3, s3, p2, _⟩ := RVp.frz g1 p1
  refine ⟨G2, δ, r.d, g.trans g3, sl.mono g3, p2, ?_⟩
  cases e : bd r.d δ with
  | some δ' =>
    simp only [e] at h1
    exact fun σ' H' G' a b c => h1 σ' H' G' a (s3.trans b) c
  | none => simp only [e] at h1; exact h1

/-! iterators -/
theorem itd_list {K : PySem.W.Frag} {mg : Str → Option Value} {G : Hp} {a : Addr} {xs : List V} {ds : List D} (r : SqL K G a xs) (t : DpAll K mg G xs ds) : ItD K mg (Itl K a) ds G := fun G' H' s1 s2 => by
  have q : SqL K H' a xs := (s1.trans s2).seq r
  refine ⟨fun i d e => ?_, xs, q, by rw [t.len]; exact Nat.le_refl _⟩
  obtain ⟨v, e1, p⟩ := t.get e
  refine ⟨⟨xs, v, q, e1⟩, fun x H2 ⟨y1, y2⟩ => ?_⟩
  subst y1
  have z := y2 xs q
  rw [e1] at z; cases z
  exact ⟨G', .refl s2, p.mono s1⟩
theorem itd_tup {K : PySem.W.Frag} {mg : Str → Option Value} {G : Hp} {a : Addr} {xs : List V} {ds : List D} (r : SqT K G a xs) (t : DpAll K mg G xs ds) : ItD K mg (Itt K a) ds G := fun G' H' s1 s2 => by
  have q : SqT K H' a xs := same_t (s1.trans s2) r
  refine ⟨fun i d e => ?_, xs, q, by rw [t.len]; exact Nat.le_refl _⟩
  obtain ⟨v, e1, p⟩ := t.get e
  refine ⟨⟨xs, v, q, e1⟩, fun x H2 ⟨y1, y2⟩ => ?_⟩
  subst y1
  have z := y2 xs q
  rw [e1] at z; cases z
  exact ⟨G', .refl s2, p.mono s1⟩
def chars (x : Str) : List D := x.cps.toList.map fun c => .str ⟨#[c]⟩
theorem itd_str {K : PySem.W.Frag} {mg : Str → Option Value} {G : Hp} (x : Str) (hx : x.cps.all (· < 0x110000) = true) : ItD K mg (Its x) (chars x) G := fun G' H' s1 s2 => by
  have hl : (chars x).length = x.cps.size := by simp [chars]
  refine ⟨fun i d e => ?_, by show x.cps.size ≤ _; rw [hl]; exact Nat.le_refl _⟩
  have hi : i < x.cps.size := by
    rcases Nat.lt_or_ge i x.cps.size with h | h
    · exact h
    · rw [List.getElem?_eq_none (by rw [hl]; exact h)] at e; cases e
  refine ⟨hi, fun v H2 ⟨y1, c, y2, y3⟩ => ?_⟩
  subst y1; subst y3
  have ed : d = .str ⟨#[c]⟩ := by
    simp only [chars, List.getElem?_map, Array.getElem?_toList, y2, Option.map_some, Option.some.injEq] at e
    exact e.symm
  subst ed
  refine ⟨G', .refl s2, .str _ ?_⟩
  have z := Array.all_eq_true.mp hx i hi
  rw [Array.getElem?_eq_getElem hi] at y2
  cases y2
  simpa using z
theorem itd_range {K : PySem.W.Frag} {mg : Str → Option Value} {G : Hp} (lo : Int) (n : Nat) : ItD K mg (Itr lo n) ((List.range n).map fun i => .int (lo + (i : Nat))) G := fun G' H' s1 s2 => by
  refine ⟨fun i d e => ?_, by show n ≤ _; simp⟩
  have hi : i < n := by
    rcases Nat.lt_or_ge i n with h | h
    · exact h
    · rw [List.getElem?_eq_none (by simpa using h)] at e; cases e
  refine ⟨hi, fun v H2 ⟨y1, y2⟩ => ?_⟩
  subst y1; subst y2
  rw [List.getElem?_map, List.getElem?_range hi] at e
  simp only [Option.map_some, Option.some.injEq] at e
  subst e
  exact ⟨G', .refl s2, .int _⟩
def seqD : D → R (List D)
  | .lst ds => .ok ds
  | .tup ds => .ok ds
  | .str x => .ok (chars x)
  | _ => .stuck
def iSeq (f : DE → R RV) (δ : DE) : R (List D) := f δ >>= fun r => seqD r.d
theorem id_seq {tg l : Expr} {f : DE → R RV} (he : Ed X H0 W l f) : Id_ X H0 W tg l (iSeq f) := by
  refine ⟨fun pins s σ H R I h => ?_⟩
  obtain ⟨G, δ, sg, sl, h⟩ := h
  unfold iSeq at h
  cases hf : f δ with
  | ok r =>
    rw [hf, bind_ok] at h
    cases hd : r.d with
    | lst ds =>
      simp only [hd, seqD] at h
      refine (pi_list he).run pins s σ H R I ⟨G, δ, sg, sl, ?_⟩
      rw [hf]
      intro v H1 G1 g1 p1
      obtain ⟨G2, g2, _, p2, _⟩ := RVp.frz g1 p1
      rw [hd] at p2
      cases p2 with
      | lst q a => exact ⟨_, rfl, ⟨_, .inl (same_rd g2.gh q)⟩, h _ H1 G2 g2 (itd_list (.inl q) a)⟩
    | tup ds =>
      simp only [hd, seqD] at h
      refine (pi_tup he).run pins s σ H R I ⟨G, δ, sg, sl, ?_⟩
      rw [hf]
      intro v H1 G1 g1 p1
      obtain ⟨G2, g2, _, p2, _⟩ := RVp.frz g1 p1
      rw [hd] at p2
      cases p2 with
      | tup q a => exact ⟨_, rfl, ⟨_, same_t g2.gh q⟩, h _ H1 G2 g2 (itd_tup q a)⟩
    | str x =>
      simp only [hd, seqD] at h
      refine (pi_str he).run pins s σ H R I ⟨G, δ, sg, sl, ?_⟩
      rw [hf]
      intro v H1 G1 g1 p1
      obtain ⟨G2, g2, _, p2, _⟩ := RVp.frz g1 p1
      rw [hd] at p2
      cases p2 with
      | str q hq => exact ⟨_, rfl, h _ H1 G2 g2 (itd_str x hq)⟩
    | non => simp only [hd, seqD] at h
    | bl b => simp only [hd, seqD] at h
    | int b => simp only [hd, seqD] at h
    | dct b => simp only [hd, seqD] at h
    | obj b c => simp only [hd, seqD] at h
    | exn a b c e => simp only [hd, seqD] at h
  | ex c fs =>
    rw [hf, bind_ex] at h
    refine (pi_list he).run pins s σ H R I ⟨G, δ, sg, sl, ?_⟩
    rw [hf]
    exact h
  | stuck => rw [hf, bind_stuck] at h; exact h.elim
/-- a sum over arguments in an iterator -/
theorem args_core {K : PySem.W.Frag} {mg : Str → Option Value} {σ : L2.St} {H G : Hp} {δ : DE} {fa : DE → R (List D)} {g : List D → R (List D)} {R : It → Hp → Prop} {Q : List V → Hp → Prop} (s : Same G H) (sl : Sl K mg H0 H G σ δ)
    (h : match fa δ >>= g with
      | .ok ds => ∀ J H' G', Gr H G H' G' → ItD K mg J ds G' → R J H'
      | .ex c fs => postX K mg H G (fun c d H' => W c d σ H') c fs
      | .stuck => False)
    (k : ∀ ds vs H1 G1, fa δ = .ok ds → Gr H G H1 G1 → DpAll K mg G1 vs ds → (∃ es, g ds = .ok es ∧ ∀ J H' G', Gr H1 G1 H' G' → ItD K mg J es G' → R J H') → Q vs H1) (noex : ∀ ds c fs, g ds ≠ .ex c fs) : tA K mg H0 W fa σ H Q := by
  refine ⟨G, δ, s, sl, ?_⟩
  cases hf : fa δ with
  | ok ds =>
    rw [hf, bind_ok] at h
    intro vs H1 G1 g1 p1
    refine k ds vs H1 G1 hf g1 p1 ?_
    cases hg : g ds with
    | ok es =>
      rw [hg] at h
      exact ⟨es, rfl, fun J H' G' g2 it => h J H' G' (g1.trans g2) it⟩
    | ex c fs => exact absurd hg (noex _ _ _)
    | stuck => rw [hg] at h; exact h.elim
  | ex c fs => rw [hf, bind_ex] at h; exact h
  | stuck => rw [hf, bind_stuck] at h; exact h.elim
def rng1 : List D → R (List D)
  | [.int n] => if -(2 ^ 62) ≤ n ∧ n < 2 ^ 62 then .ok ((List.range n.toNat).map fun i => .int (0 + (i : Nat))) else .stuck
  | _ => .stuck
def rng2 : List D → R (List D)
  | [.int a, .int n] => if (-(2 ^ 62) ≤ a ∧ a < 2 ^ 62) ∧ (-(2 ^ 62) ≤ n ∧ n < 2 ^ 62) then .ok ((List.range (n - a).toNat).map fun i => .int (a + (i : Nat))) else .stuck
  | _ => .stuck
def iArgs (g : List D → R (List D)) (fa : DE → R (List D)) (δ : DE) : R (List D) := fa δ >>= g
theorem id_range1 {tg a : Expr} {fa : DE → R (List D)} {p pos : Pos} (hm : X.mg "range" = none) (ha : Ad X H0 W [a] fa) (hg : Gl X "range" := by rfl) (hs : starEach [a] X.env = [(false, eval a X.env)] := by rfl) : Id_ X H0 W tg (.Call (.Name "range" p) [a] [] pos) (iArgs rng1 fa) := by
  refine ⟨fun pins s σ H R I h => (pi_range1 hg hm ha hs).run pins s σ H R I ?_⟩
  obtain ⟨G, δ, sg, sl, h⟩ := h
  refine args_core sg sl h (fun ds vs H1 G1 _ g1 p1 ⟨es, e, k⟩ => ?_) fun ds c fs e => ?_
  · unfold rng1 at e
    split at e
    · rename_i n _ _
      split at e
      · rename_i hb
        cases e
        cases p1 with
        | cons q t =>
          cases t
          cases q
          exact ⟨n, rfl, hb.1, hb.2, k _ H1 G1 (.refl g1.gh) (itd_range 0 _)⟩
      · cases e
    · cases e
  · unfold rng1 at e
    split at e
    · split at e <;> cases e
    · cases e
theorem id_range2 {tg a b : Expr} {fa : DE → R (List D)} {p pos : Pos} (hm : X.mg "range" = none) (ha : Ad X H0 W [a, b] fa) (hg : Gl X "range" := by rfl) (hs : starEach [a, b] X.env = [(false, eval a X.env), (false, eval b X.env)] := by rfl) (hs2 : starEach [b] X.env = [(false, eval b X.env)] := by rfl) :
    Id_ X H0 W tg (.Call (.Name "range" p) [a, b] [] pos) (iArgs rng2 fa) := by
  refine ⟨fun pins s σ H R I h => (pi_range2 hg hm ha hs hs2).run pins s σ H R I ?_⟩
  obtain ⟨G, δ, sg, sl, h⟩ := h
  refine args_core sg sl h (fun ds vs H1 G1 _ g1 p1 ⟨es, e, k⟩ => ?_) fun ds c fs e => ?_
  · unfold rng2 at e
    split at e
    · rename_i i n _ _
      split at e
      · rename_i hb
        cases e
        cases p1 with
        | cons q t =>
          cases t with
          | cons q' t' =>
            cases t'
            cases q
            cases q'
            exact ⟨i, n, rfl, ⟨hb.1.1, hb.1.2, hb.2.1, hb.2.2⟩, k _ H1 G1 (.refl g1.gh) (itd_range i _)⟩
      · cases e
    · cases e
  · unfold rng2 at e
    split at e
    · split at e <;> cases e
    · cases e

/-! for -/
def forL (bd : D → DE → Option DE) (F : DE → SR) (fg : List Nat) : List D → DE → SR
  | [], δ => .nx δ
  | d :: ds, δ => match bd d δ with
    | none => .stuck
    | some δ1 => match F δ1 with
      | .nx δ2 => forL bd F fg ds (fgtS fg δ2)
      | .ct δ2 => forL bd F fg ds (fgtS fg δ2)
      | .br δ2 => .nx δ2
      | .rt r => .rt r
      | .ex c fs δ2 => .ex c fs δ2
      | .stuck => .stuck
def sFor (fi : DE → R (List D)) (bd : D → DE → Option DE) (F : DE → SR) (fg : List Nat) (δ : DE) : SR := lift (fi δ) δ fun ds => forL bd F fg ds δ
theorem sd_for {tg iter : Expr} {body : List Stmt} {fi : DE → R (List D)} {bd : D → DE → Option DE} {F : DE → SR} (fg : List Nat) {pos : Pos} (hp : PassesOwn (model X.prog X.w) X.A X.env X.xe) (hc : X.calm = true) (hi : Id_ X H0 W tg iter fi) (hg : Gd X H0 G0 tg bd) (hb : Bd X H0 G0 W body F)
    (hs : ∀ x, foldedSetIterable iter X.env x = pure x := by intro _; rfl) : Sd X H0 G0 W (.For tg iter body [] pos) (sFor fi bd F fg) := by
  refine PS.imp (ps_for hp hc hi hg hb hs) fun D σ H h => ?_
  obtain ⟨G, δ, g, sl, h⟩ := h
  refine ⟨G, δ, g.gh, sl, ?_⟩
  unfold sFor at h
  cases hf : fi δ with
  | ok ds =>
    rw [hf, lift_ok] at h
    intro J H1 G1 g1 it
    refine ⟨fun i m σ' H' => m = ds.length - i ∧ i ≤ ds.length ∧ ∃ G' δ', Gr H0 G0 H' G' ∧ Same G1 G' ∧ Sl X.K X.mg H0 H' G' σ' δ' ∧ postS X.K X.mg H0 G0 W G' D (forL bd F fg (ds.drop i) δ'),
      ⟨_, rfl, Nat.zero_le _, G1, δ, g.trans g1, Same.refl _, sl.mono g1, postS.mono g1.gg h⟩, ?_⟩
    rintro i m σ' H' ⟨rfl, hi, G', δ', g', s', sl', h'⟩
    obtain ⟨it1, it2⟩ := it G' H' s' g'.gh
    rcases Nat.lt_or_ge i ds.length with hlt | hge
    · right
      obtain ⟨d, ed⟩ : ∃ d, ds[i]? = some d := ⟨ds[i], List.getElem?_eq_getElem hlt⟩
      obtain ⟨go, yl⟩ := it1 i d ed
      have edr : ds.drop i = d :: ds.drop (i + 1) := by
        rw [List.drop_eq_getElem_cons hlt]
        rw [List.getElem?_eq_getElem hlt] at ed
        cases ed
        rfl
      rw [edr] at h'
      unfold forL at h'
      cases eb : bd d δ' with
      | none => simp only [eb] at h'; exact h'.elim
      | some δ1 =>
        simp only [eb] at h'
        refine ⟨go, fun σ2 H2 => ∃ G2 δ2, Gr H0 G0 H2 G2 ∧ Same G' G2 ∧ Sl X.K X.mg H0 H2 G2 σ2 δ2 ∧ postS X.K X.mg H0 G0 W G2 D (forL bd F fg (ds.drop (i + 1)) δ2), ?_, ?_⟩
        · rintro σ2 H2 ⟨G2, δ2, a1, a2, a3, a4⟩
          exact ⟨_, by omega, rfl, hlt, G2, δ2, a1, s'.trans a2, a3, a4⟩
        · intro x H2 y
          obtain ⟨G2, g2, p2⟩ := yl x H2 y
          refine ⟨G2, δ', d, g'.trans g2, sl'.mono g2, p2, ?_⟩
          rw [eb]
          intro σ3 H3 G3 g3 s3 sl3
          refine ⟨G3, δ1, g3, sl3, ?_⟩
          have sg3 : Same G' G3 := g2.gg.trans s3
          cases eF : F δ1 with
          | nx δ2 =>
            simp only [eF] at h'
            exact fun σ4 H4 G4 g4 s4 sl4 => ⟨G4, fgtS fg δ2, g4, sg3.trans s4, sl4.forget fg, postS.mono (sg3.trans s4) h'⟩
          | ct δ2 =>
            simp only [eF] at h'
            exact fun σ4 H4 G4 g4 s4 sl4 => ⟨G4, fgtS fg δ2, g4, sg3.trans s4, sl4.forget fg, postS.mono (sg3.trans s4) h'⟩
          | br δ2 =>
            simp only [eF] at h'
            exact fun σ4 H4 G4 g4 s4 sl4 => h' σ4 H4 G4 g4 (sg3.trans s4) sl4
          | rt r => simp only [eF] at h'; exact h'
          | ex c fs δ2 =>
            simp only [eF] at h'
            exact fun cls d σ4 H4 G4 g4 s4 sl4 x => h' cls d σ4 H4 G4 g4 (sg3.trans s4) sl4 x
          | stuck => simp only [eF] at h'; exact h'
    · left
      have e : i = ds.length := by omega
      subst e
      refine ⟨it2, ?_⟩
      rw [List.drop_length] at h'
      exact h' σ' H' G' g' (Same.refl _) sl'
  | ex c fs =>
    rw [hf] at h
    exact fun cls d H1 G1 g1 x => h cls d σ H1 G1 (g.trans g1) g1.gg (sl.mono g1) x
  | stuck => rw [hf] at h; exact h

/-! while -/
def whileF (c : DE → R Bool) (F : DE → SR) (fg : List Nat) : Nat → DE → SR
  | 0, _ => .stuck
  | n + 1, δ => match c δ with
    | .ok b => if b = true then (match F δ with
      | .nx δ2 => whileF c F fg n (fgtS fg δ2)
      | .ct δ2 => whileF c F fg n (fgtS fg δ2)
      | .br δ2 => .nx δ2
      | .rt r => .rt r
      | .ex c fs δ2 => .ex c fs δ2
      | .stuck => .stuck) else .nx δ
    | .ex c fs => .ex c fs δ
    | .stuck => .stuck
open Classical in
noncomputable def sWhile (c : DE → R Bool) (F : DE → SR) (fg : List Nat) (δ : DE) : SR := if h : ∃ n, whileF c F fg n δ ≠ .stuck then whileF c F fg h.choose δ else .stuck
theorem whileF_up (c : DE → R Bool) (F : DE → SR) (fg : List Nat) : ∀ n δ, whileF c F fg n δ ≠ .stuck → ∀ m, n ≤ m → whileF c F fg m δ = whileF c F fg n δ
  | 0, δ, h, _, _ => absurd rfl h
  | n + 1, δ, h, 0, hm => absurd hm (Nat.not_succ_le_zero n)
  | n + 1, δ, h, m + 1, hm => by
    have hm' : n ≤ m := Nat.le_of_succ_le_succ hm
    unfold whileF at h ⊢
    cases ec : c δ with
    | ok b =>
      simp only [ec] at h ⊢
      by_cases hb : b = true
      · simp only [hb, if_true] at h ⊢
        cases eF : F δ with
        | nx δ2 => simp only [eF] at h ⊢; exact whileF_up c F fg n _ h m hm'
        | ct δ2 => simp only [eF] at h ⊢; exact whileF_up c F fg n _ h m hm'
        | _ => rfl
      · simp only [hb, if_false]
        rfl
    | _ => rfl
theorem sWhile_of {c : DE → R Bool} {F : DE → SR} {fg : List Nat} {δ : DE} {r : SR} (n : Nat) (h : whileF c F fg n δ = r) (hr : r ≠ .stuck) : sWhile c F fg δ = r := by
  have hx : ∃ n, whileF c F fg n δ ≠ .stuck := ⟨n, by rw [h]; exact hr⟩
  unfold sWhile
  rw [dif_pos hx]
  have a := hx.choose_spec
  have b := whileF_up c F fg _ δ a (max n hx.choose) (Nat.le_max_right _ _)
  have b2 := whileF_up c F fg n δ (by rw [h]; exact hr) (max n hx.choose) (Nat.le_max_left _ _)
  rw [← b, b2, h]
theorem sd_while {c : Expr} {body : List Stmt} {fc : DE → R Bool} {F : DE → SR} (fg : List Nat) {pos : Pos} (hp : PassesOwn (model X.prog X.w) X.A X.env X.xe) (hc : Td X H0 W c fc) (hb : Bd X H0 G0 W body F) : Sd X H0 G0 W (.While c body [] pos) (sWhile fc F fg) := by
  refine PS.imp (ps_while hp hc hb) fun D σ H h => ?_
  obtain ⟨G, δ, g, sl, h⟩ := h
  have hx : ∃ n, whileF fc F fg n δ ≠ .stuck := by
    by_cases hx : ∃ n, whileF fc F fg n δ ≠ .stuck
    · exact hx
    · unfold sWhile at h
      rw [dif_neg hx] at h
      exact h.elim
  have h2 : postS X.K X.mg H0 G0 W G D (whileF fc F fg hx.choose δ) := by
    unfold sWhile at h
    rw [dif_pos hx] at h
    exact h
  refine ⟨fun m σ' H' => ∃ G' δ', Gr H0 G0 H' G' ∧ Sl X.K X.mg H0 H' G' σ' δ' ∧ postS X.K X.mg H0 G0 W G' D (whileF fc F fg m δ'), ⟨_, G, δ, g, sl, h2⟩, ?_⟩
  rintro m σ' H' ⟨G', δ', g', sl', h'⟩
  cases m with
  | zero => exact h'.elim
  | succ n =>
    unfold whileF at h'
    refine ⟨G', δ', g'.gh, sl', ?_⟩
    cases ec : fc δ' with
    | ok b =>
      simp only [ec] at h'
      intro H2 G2 g2
      by_cases hb : b = true
      · subst hb
        simp only [if_true] at h' ⊢
        refine ⟨fun σ3 H3 => ∃ G3 δ3, Gr H0 G0 H3 G3 ∧ Sl X.K X.mg H0 H3 G3 σ3 δ3 ∧ postS X.K X.mg H0 G0 W G3 D (whileF fc F fg n δ3), fun σ3 H3 q => ⟨n, Nat.lt_succ_self _, q⟩, ?_⟩
        refine ⟨G2, δ', g'.trans g2, sl'.mono g2, ?_⟩
        cases eF : F δ' with
        | nx δ2 =>
          simp only [eF] at h'
          exact fun σ4 H4 G4 g4 s4 sl4 => ⟨G4, fgtS fg δ2, g4, sl4.forget fg, postS.mono (g2.gg.trans s4) h'⟩
        | ct δ2 =>
          simp only [eF] at h'
          exact fun σ4 H4 G4 g4 s4 sl4 => ⟨G4, fgtS fg δ2, g4, sl4.forget fg, postS.mono (g2.gg.trans s4) h'⟩
        | br δ2 =>
          simp only [eF] at h'
          exact fun σ4 H4 G4 g4 s4 sl4 => h' σ4 H4 G4 g4 (g2.gg.trans s4) sl4
        | rt r => simp only [eF] at h'; exact h'
        | ex c fs δ2 =>
          simp only [eF] at h'
          exact fun cls d σ4 H4 G4 g4 s4 sl4 x => h' cls d σ4 H4 G4 g4 (g2.gg.trans s4) sl4 x
        | stuck => simp only [eF] at h'; exact h'
      · have e : b = false := by cases b; rfl; exact absurd rfl hb
        subst e
        simp only [Bool.false_eq_true, if_false] at h' ⊢
        exact h' σ' H2 G2 (g'.trans g2) g2.gg (sl'.mono g2)
    | ex c fs =>
      simp only [ec] at h'
      exact fun cls d H1 G1 g1 x => h' cls d σ' H1 G1 (g'.trans g1) g1.gg (sl'.mono g1) x
    | stuck => simp only [ec] at h'; exact h'
end

/-! ### a def -/
def runF (n N : Nat) (F : DE → SR) (ds : List D) : R RV := if ds.length = n then (match F (ds.map (fun d => some (RV.fr d)) ++ List.replicate (N - n) none) with
  | .rt r => .ok r
  | .nx _ => .ok (.fr .non)
  | .ex c fs _ => .ex c fs
  | _ => .stuck) else .stuck
theorem sl_start {K : PySem.W.Frag} {mg : Str → Option Value} {H G : Hp} {vs : List V} {ds : List D} (N : List Str) (a : DpAll K mg G vs ds) : Sl K mg H H G (L2.start N vs) (ds.map (fun d => some (RV.fr d)) ++ List.replicate (N.length - ds.length) none) := by
  have fr : ∀ (i : Nat) r, (ds.map (fun d => some (RV.fr d)) ++ List.replicate (N.length - ds.length) none)[i]? = some (some r) → ∃ d, ds[i]? = some d ∧ r = .fr d := fun i r e => by
    rw [List.getElem?_append] at e
    split at e
    · rw [List.getElem?_map] at e
      cases h : ds[i]? with
      | none => rw [h] at e; cases e
      | some d => rw [h] at e; cases e; exact ⟨d, rfl, rfl⟩
    · rw [List.getElem?_replicate] at e
      split at e <;> cases e
  refine ⟨?_, fun i r e => ?_, fun i j r r' v e o => ?_⟩
  · unfold L2.start
    simp [a.len]
  · obtain ⟨d, e1, rfl⟩ := fr i r e
    obtain ⟨v, e2, p⟩ := a.get e1
    refine ⟨v, ?_, p⟩
    unfold L2.start
    rw [List.getElem?_append_left (by
      rw [List.length_map]
      rcases Nat.lt_or_ge i vs.length with h | h
      · exact h
      · rw [List.getElem?_eq_none h] at e2; cases e2), List.getElem?_map, e2]
    rfl
  · obtain ⟨d, _, rfl⟩ := fr i r e
    cases o
/-- the context of a def's body -/
abbrev cxF (P : Program) (w : World) (K : PySem.W.Frag) (mg : Str → Option Value) (base : Heap) (N : List Str) (qual : Str) (sc : Scope) (f : Addr) (cdv : Value) (A : Around) (outer : List Env) (s : Shared) (H : Hp) (E : XK) : Cx :=
  cxOf (L2N.CX P w) P w K mg base N qual sc f cdv A outer s H E
abbrev wF (E : XK) : WX := fun cls d _ H => E cls d H
/-- a body's promise -/
abbrev BodyD (P : Program) (w : World) (K : PySem.W.Frag) (mg : Str → Option Value) (base : Heap) (k : Nat) (N : List Str) (qual : Str) (sc : Scope) (body : List Stmt) (F : DE → SR) : Prop :=
  ∀ (f : Addr) (cdv : Value) (A : Around) (outer : List Env) (s : Shared) (H G : Hp) (E : XK), Room k (cxF P w K mg base N qual sc f cdv A outer s H E).A → L2N.Takes (cxF P w K mg base N qual sc f cdv A outer s H E) (wF E) →
    PassesOwn (model P w) (cxF P w K mg base N qual sc f cdv A outer s H E).A (cxF P w K mg base N qual sc f cdv A outer s H E).env (cxF P w K mg base N qual sc f cdv A outer s H E).xe →
    Bd (cxF P w K mg base N qual sc f cdv A outer s H E) H G (wF E) body F
theorem runF_len {K : PySem.W.Frag} {mg : Str → Option Value} {H G : Hp} {E : XK} {Q : VK} {ds : List D} {n M : Nat} {F : DE → SR} (h : post K mg H G E Q (runF n M F ds)) : ds.length = n := by
  unfold runF at h
  by_cases hl : ds.length = n
  · exact hl
  · rw [if_neg hl] at h; exact h.elim
theorem runF_ends {K : PySem.W.Frag} {mg : Str → Option Value} {H G : Hp} {E : XK} {Q : VK} {vs : List V} {ds : List D} {N : List Str} {F : DE → SR} (sg : Same G H) (a : DpAll K mg G vs ds) (h : post K mg H G E Q (runF ds.length N.length F ds)) :
    tS K mg H G (wF E) F { nx := fun _ H' => Q .non H', rt := Q } (L2.start N vs) H := by
  refine ⟨G, _, .refl sg, sl_start N a, ?_⟩
  unfold runF at h
  rw [if_pos rfl] at h
  generalize F (ds.map (fun d => some (RV.fr d)) ++ List.replicate (N.length - ds.length) none) = y at h
  cases y with
  | nx δ' => exact fun σ' H' G' g' _ _ => h .non H' G' g' .non
  | br δ' => exact h.elim
  | ct δ' => exact h.elim
  | rt r => exact fun v H' G' g' p => h v H' G' g' p
  | ex c fs δ' => exact fun cls d σ' H' G' g' _ _ x => h cls d H' G' g' x
  | stuck => exact h
theorem fn_d {P : Program} {w : World} {K : PySem.W.Frag} {mg : Str → Option Value} {base : Heap} {x qual : Str} {params : Arguments} {body : List Stmt} {sc : Scope} {dvs : List V} {kws : List (Str × V)} {f : Addr} {fd : FuncData} {N ps : List Str} {k n : Nat} {F : DE → SR} (Fn : FunD K x qual params body sc dvs kws f fd) (S : FnScope N ps sc) (hn : ps.length = n)
    (hbody : BodyD P w K mg base k N qual sc body F) : FnOk P w K mg base (L2N.CX P w) (k + 1) f fd ps (spD K mg (runF n N.length F)) := by
  refine Fn.ok S (fun vs H Q E h => ?_) (fun cdv A outer s H vs Q E hr h => ?_)
  · obtain ⟨G, ds, s, a, h⟩ := h
    rw [a.len, hn]
    exact runF_len h
  · obtain ⟨G, ds, sg, a, h⟩ := h
    have hl := runF_len h
    subst hl
    exact ⟨_, hbody f cdv A outer s H G E hr (L2N.takes_of rfl rfl rfl rfl) (passes_of rfl), runF_ends sg a h⟩
end DL


set_option maxRecDepth 100000
set_option maxHeartbeats 4000000
namespace DL
open PySem PySem.Spec PyProof.Rows L2

/-! ### what operators do to data -/
abbrev okd (d : D) : R RV := .ok (.fr d)
def dAdd : D → D → R RV
  | .int i, .int j => okd (.int (i + j))
  | .str x, .str y => if x.length + y.length ≤ SZ then okd (.str (x ++ y)) else .stuck
  | .lst xs, .lst ys => if xs.length + ys.length ≤ SZ then .ok (.ol (xs ++ ys)) else .stuck
  | .tup xs, .tup ys => if xs.length + ys.length ≤ SZ then okd (.tup (xs ++ ys)) else .stuck
  | _, _ => .stuck
def dSub : D → D → R RV
  | .int i, .int j => okd (.int (i - j))
  | _, _ => .stuck
def dMul : D → D → R RV
  | .int i, .int j => if (-(2 ^ 64) < i ∧ i < 2 ^ 64) ∨ (-(2 ^ 64) < j ∧ j < 2 ^ 64) then okd (.int (i * j)) else .stuck
  | .lst xs, .int k => if (-(2 ^ 63) ≤ k ∧ k < 2 ^ 63) ∧ xs.length * k.toNat ≤ SZ then .ok (.ol (List.replicate k.toNat xs).flatten) else .stuck
  | _, _ => .stuck
def dDiv : D → D → R RV
  | .int i, .int j => if 0 < j ∧ j < 2 ^ 64 then okd (.int (i / j)) else .stuck
  | _, _ => .stuck
def dMod : D → D → R RV
  | .int i, .int j => if 0 < j then okd (.int (i % j)) else .stuck
  | _, _ => .stuck
def dPow : D → D → R RV
  | .int i, .int j => if 0 ≤ j ∧ j ≤ 1000 ∧ i.natAbs < 2 ^ 64 then okd (.int (i ^ j.toNat)) else .stuck
  | _, _ => .stuck
def dNeg : D → R RV
  | .int i => okd (.int (-i))
  | _ => .stuck
def dLt : D → D → R RV
  | .int i, .int j => okd (.bl (decide (i < j)))
  | .str x, .str y => okd (.bl (decide (x.cps.toList < y.cps.toList)))
  | _, _ => .stuck
def dGt : D → D → R RV
  | .int i, .int j => okd (.bl (decide (j < i)))
  | .str x, .str y => okd (.bl (decide (y.cps.toList < x.cps.toList)))
  | _, _ => .stuck
def dLe : D → D → R RV
  | .int i, .int j => okd (.bl (decide (i ≤ j)))
  | .str x, .str y => okd (.bl (!decide (y.cps.toList < x.cps.toList)))
  | _, _ => .stuck
def dGe : D → D → R RV
  | .int i, .int j => okd (.bl (decide (j ≤ i)))
  | .str x, .str y => okd (.bl (!decide (x.cps.toList < y.cps.toList)))
  | _, _ => .stuck
def dIsN (neg : Bool) : D → R RV
  | .non => okd (.bl (!neg))
  | _ => okd (.bl neg)

section
variable {X : Cx}
theorem str_app {x y : Str} (hx : x.cps.all (· < 0x110000) = true) (hy : y.cps.all (· < 0x110000) = true) : (x ++ y).cps.all (· < 0x110000) = true := by
  show (x.cps ++ y.cps).all (· < 0x110000) = true
  rw [Array.all_append, hx, hy]
  rfl
theorem Inv.lstR {pins : List (Addr × Obj)} {σ : L2.St} {H : Hp} {s : Shared} {l : Addr} {xs : List V} (I : Inv X pins σ H s) (hH : Rd H l (.lst xs)) : xs.length ≤ sizeLine ∧ ∃ (its : List Value) (n : Nat), Vals xs its ∧ xs.length = its.length ∧ s.heap.get? l = some { cls := .type "list", data := .seq its.toArray n } := by
  obtain ⟨z, its, n, r, e⟩ := hH.ok I.hok
  exact ⟨z, its, n, r, r.length, e⟩
/-- two lists joined -/
def rCatR : R2 := fun x y H Q => ∃ l b xs zs, x = .ref l ∧ y = .ref b ∧ Rd H l (.lst xs) ∧ Rd H b (.lst zs) ∧ xs.length + zs.length ≤ sizeLine ∧ ∀ p, H p = none → Q (.ref p) (upd H p (.lst (xs ++ zs)))
theorem op_catR : OpR X (binaryOp .Add) rCatR := by
  intro pins s σ H x y v u Q I rx ry h
  obtain ⟨l, b, xs, zs, rfl, rfl, hH, hB, hz, q⟩ := h
  cases rx
  cases ry
  obtain ⟨z, its, n, r, hl, e⟩ := Inv.lstR I hH
  obtain ⟨z2, its2, n2, r2, hl2, e2⟩ := Inv.lstR I hB
  refine PySem.P.add_list e e2 ?_ (by rw [List.size_toArray, List.size_toArray]; omega)
  have ea : its.toArray ++ its2.toArray = (its ++ its2).toArray := by simp
  rw [ea]
  exact ⟨.ref _, _, I.lnew (t' := s.toks) (r.append r2) (by rw [List.length_append]; omega), rfl, q _ I.fresh⟩
def rRepR : R2 := fun x y H Q => ∃ l k xs, x = .ref l ∧ y = .int k ∧ Rd H l (.lst xs) ∧ -(2 ^ 63) ≤ k ∧ k < 2 ^ 63 ∧ xs.length * k.toNat ≤ sizeLine ∧
  ∀ p, H p = none → Q (.ref p) (upd H p (.lst (List.replicate k.toNat xs).flatten))
theorem op_repR : OpR X (binaryOp .Mult) rRepR := by
  intro pins s σ H x y v u Q I rx ry h
  obtain ⟨l, k, xs, rfl, rfl, hH, h1, h2, hz, q⟩ := h
  cases rx
  obtain ⟨t, rfl⟩ := ry
  obtain ⟨z, its, n, r, hl, e⟩ := Inv.lstR I hH
  have hlen : its.toArray.size * k.toNat ≤ sizeLine := by rw [List.size_toArray, ← hl]; exact hz
  have hcap : ¬ its.toArray.size * k.toNat > (2 ^ 63 - 1) / 8 := by
    have : (sizeLine : Nat) ≤ (2 ^ 63 - 1) / 8 := by decide
    omega
  have hfit : ¬ (!Builtin.List.listFitsIndex k) = true := by
    rw [fitsIndex_both h1 h2]
    exact Bool.false_ne_true
  have hlong : ¬ Builtin.List.listTooLong (its.toArray.size * k.toNat) = true := by
    rw [notLongL hlen]
    exact Bool.false_ne_true
  have hnew : List.foldl (fun x1 x2 => x1 ++ x2) #[] (List.replicate (if its.toArray.isEmpty = true then 0 else k.toNat) its.toArray) = (List.replicate k.toNat its).flatten.toArray := by
    have f0 : ∀ m : Nat, List.foldl (fun x1 x2 => x1 ++ x2) #[] (List.replicate m its.toArray) = (List.replicate m its).flatten.toArray := fun m => by
      have := foldl_rep its m []
      rw [List.nil_append] at this
      exact this
    rw [f0]
    cases its with
    | nil => simp
    | cons a r' => rw [if_neg (by simp)]
  refine wpAny_binaryOp_repeat_ref (T := "list") (U := "int") (by decide) ⟨_, e, rfl⟩ (fun s' => typeIs_int s' k t) noFill_list_mul F.fills_int_mul F.slot_int_rmul repeat_list F.slot_int_index.lookup
    (call_meets F.slot_int_rmul (typeIs_int s k t) F.entry_int_rmul (F.args_int_rmul_2 _ _) (int___rmul___int_list k t l its.toArray n)
      ⟨e, rfl, ⟨_, e, rfl⟩, call_meets F.slot_list_mul ⟨_, e, rfl⟩ F.entry_list_mul (F.args_list_mul_2 _ _) (AutoListH.list___mul___list_int_3 l its.toArray n k t hfit hcap hlong) ⟨e, ?_⟩⟩)
  rw [hnew]
  exact ⟨.ref _, _, I.lnew (t' := s.toks) (r.rep k.toNat) (by rw [PyProof.Rows.lm_len_rep_flat, Nat.mul_comm]; exact hz), rfl, q _ I.fresh⟩

/-- a rule over values, from its cases over data -/
theorem opd_of {f : Value → Value → Sem Value} {g : D → D → R RV} (h : ∀ (pins : List (Addr × Obj)) (s : Shared) (σ : L2.St) (H G : Hp) (x y : V) (d e : D) (v u : Value) (Q : VK), Inv X pins σ H s → RelV x v → RelV y u → Same G H → Dp X.K X.mg G x d → Dp X.K X.mg G y e →
    post X.K X.mg H G (fun _ _ _ => False) Q (g d e) → wpAny (model X.prog X.w) X.A (f v u) (EP X pins σ Q) X.xe s) : OpR X f (rD X.K X.mg g) := by
  intro pins s σ H x y v u Q I rx ry ⟨G, d, e, sg, px, py, q⟩
  exact h pins s σ H G x y d e v u Q I rx ry sg px py q
theorem tup_new {H G : Hp} {vs : List V} {ds : List D} {Q : VK} (s : Same G H) (a : DpAll X.K X.mg G vs ds) (h : post X.K X.mg H G (fun _ _ _ => False) Q (okd (.tup ds))) : ∀ p, H p = none → Q (.ref p) (upd H p (.tup vs)) := fun p hp => new_frz s hp a h
theorem opd_add : OpR X (binaryOp .Add) (rD X.K X.mg dAdd) := by
  refine opd_of fun pins s σ H G x y d e v u Q I rx ry sg px py h => ?_
  cases px with
  | int i => cases py with
    | int j => exact op_add pins s σ H _ _ v u Q I rx ry ⟨i, j, rfl, rfl, h _ H G (.refl sg) (.int _)⟩
    | _ => exact h.elim
  | str i hi => cases py with
    | str j hj =>
      simp only [dAdd] at h
      by_cases c : i.length + j.length ≤ SZ
      · rw [if_pos c] at h
        exact op_add_str pins s σ H _ _ v u Q I rx ry ⟨i, j, rfl, rfl, sz_le c, h _ H G (.refl sg) (.str _ (str_app hi hj))⟩
      · rw [if_neg c] at h; exact h.elim
    | _ => exact h.elim
  | lst r a => cases py with
    | lst r' a' =>
      rename_i _ xs ds _ ys es
      simp only [dAdd] at h
      by_cases c : ds.length + es.length ≤ SZ
      · rw [if_pos c] at h
        exact op_catR pins s σ H _ _ v u Q I rx ry ⟨_, _, _, _, rfl, rfl, same_rd sg r, same_rd sg r', by rw [a.len, a'.len]; exact sz_le c, fun p hp => new_own (Wd := fun _ _ _ => False) sg hp (a.append a') h⟩
      · rw [if_neg c] at h; exact h.elim
    | _ => exact h.elim
  | tup r a => cases py with
    | tup r' a' =>
      rename_i _ xs ds _ ys es
      simp only [dAdd] at h
      by_cases c : ds.length + es.length ≤ SZ
      · rw [if_pos c] at h
        refine op_catA pins s σ H _ _ v u Q I rx ry ⟨_, _, _, _, rfl, rfl, same_t sg r, same_t sg r', by rw [a.len, a'.len]; exact sz_le c, fun e0 => ?_, fun _ e0 => ?_, fun _ _ => tup_new sg (a.append a') h⟩
        · subst e0
          cases a
          exact h _ H G (.refl sg) (.tup r' a')
        · subst e0
          cases a'
          rw [List.append_nil] at h
          exact h _ H G (.refl sg) (.tup r a)
      · rw [if_neg c] at h; exact h.elim
    | _ => exact h.elim
  | _ => exact h.elim
theorem opd_sub : OpR X (binaryOp .Sub) (rD X.K X.mg dSub) := by
  refine opd_of fun pins s σ H G x y d e v u Q I rx ry sg px py h => ?_
  cases px with
  | int i => cases py with
    | int j => exact op_sub pins s σ H _ _ v u Q I rx ry ⟨i, j, rfl, rfl, h _ H G (.refl sg) (.int _)⟩
    | _ => exact h.elim
  | _ => exact h.elim
theorem opd_mul : OpR X (binaryOp .Mult) (rD X.K X.mg dMul) := by
  refine opd_of fun pins s σ H G x y d e v u Q I rx ry sg px py h => ?_
  cases px with
  | int i => cases py with
    | int j =>
      simp only [dMul] at h
      by_cases c : (-(2 ^ 64) < i ∧ i < 2 ^ 64) ∨ (-(2 ^ 64) < j ∧ j < 2 ^ 64)
      · rw [if_pos c] at h
        exact op_mul pins s σ H _ _ v u Q I rx ry ⟨i, j, rfl, rfl, c, h _ H G (.refl sg) (.int _)⟩
      · rw [if_neg c] at h; exact h.elim
    | _ => exact h.elim
  | lst r a => cases py with
    | int k =>
      rename_i _ xs ds
      simp only [dMul] at h
      by_cases c : (-(2 ^ 63) ≤ k ∧ k < 2 ^ 63) ∧ ds.length * k.toNat ≤ SZ
      · rw [if_pos c] at h
        exact op_repR pins s σ H _ _ v u Q I rx ry ⟨_, k, _, rfl, rfl, same_rd sg r, c.1.1, c.1.2, by rw [a.len]; exact sz_le c.2, fun p hp => new_own (Wd := fun _ _ _ => False) sg hp (a.rep _) h⟩
      · rw [if_neg c] at h; exact h.elim
    | _ => exact h.elim
  | _ => exact h.elim
theorem opd_div : OpR X (binaryOp .FloorDiv) (rD X.K X.mg dDiv) := by
  refine opd_of fun pins s σ H G x y d e v u Q I rx ry sg px py h => ?_
  cases px with
  | int i => cases py with
    | int j =>
      simp only [dDiv] at h
      by_cases c : 0 < j ∧ j < 2 ^ 64
      · rw [if_pos c] at h
        exact op_fdivW pins s σ H _ _ v u Q I rx ry ⟨i, j, rfl, rfl, wide_div (b := 64) c.1 (by omega) (by decide) (by decide), h _ H G (.refl sg) (.int _)⟩
      · rw [if_neg c] at h; exact h.elim
    | _ => exact h.elim
  | _ => exact h.elim
theorem opd_mod : OpR X (binaryOp .Mod) (rD X.K X.mg dMod) := by
  refine opd_of fun pins s σ H G x y d e v u Q I rx ry sg px py h => ?_
  cases px with
  | int i => cases py with
    | int j =>
      simp only [dMod] at h
      by_cases c : 0 < j
      · rw [if_pos c] at h
        exact op_mod pins s σ H _ _ v u Q I rx ry ⟨i, j, rfl, rfl, c, h _ H G (.refl sg) (.int _)⟩
      · rw [if_neg c] at h; exact h.elim
    | _ => exact h.elim
  | _ => exact h.elim
theorem opd_pow : OpR X (binaryOp .Pow) (rD X.K X.mg dPow) := by
  refine opd_of fun pins s σ H G x y d e v u Q I rx ry sg px py h => ?_
  cases px with
  | int i => cases py with
    | int j =>
      simp only [dPow] at h
      by_cases c : 0 ≤ j ∧ j ≤ 1000 ∧ i.natAbs < 2 ^ 64
      · rw [if_pos c] at h
        exact op_pow pins s σ H _ _ v u Q I rx ry ⟨i, j, rfl, rfl, ⟨c.1, by omega, c.2.2⟩, h _ H G (.refl sg) (.int _)⟩
      · rw [if_neg c] at h; exact h.elim
    | _ => exact h.elim
  | _ => exact h.elim
theorem und_neg : UnR X (unaryOp .USub) (rD1 X.K X.mg dNeg) := by
  intro pins s σ H x v Q I rx ⟨G, d, sg, px, h⟩
  cases px with
  | int i => exact un_neg pins s σ H _ v Q I rx ⟨i, rfl, h _ H G (.refl sg) (.int _)⟩
  | _ => exact h.elim
theorem opd_lt : OpR X (compareOp .Lt) (rD X.K X.mg dLt) := by
  refine opd_of fun pins s σ H G x y d e v u Q I rx ry sg px py h => ?_
  cases px with
  | int i => cases py with
    | int j => exact op_lt pins s σ H _ _ v u Q I rx ry ⟨i, j, rfl, rfl, h _ H G (.refl sg) (.bl _)⟩
    | _ => exact h.elim
  | str i hi => cases py with
    | str j hj => exact op_lt_str pins s σ H _ _ v u Q I rx ry ⟨i, j, rfl, rfl, h _ H G (.refl sg) (.bl _)⟩
    | _ => exact h.elim
  | _ => exact h.elim
theorem opd_gt : OpR X (compareOp .Gt) (rD X.K X.mg dGt) := by
  refine opd_of fun pins s σ H G x y d e v u Q I rx ry sg px py h => ?_
  cases px with
  | int i => cases py with
    | int j => exact op_gt pins s σ H _ _ v u Q I rx ry ⟨i, j, rfl, rfl, h _ H G (.refl sg) (.bl _)⟩
    | _ => exact h.elim
  | str i hi => cases py with
    | str j hj => exact op_gt_str pins s σ H _ _ v u Q I rx ry ⟨i, j, rfl, rfl, h _ H G (.refl sg) (.bl _)⟩
    | _ => exact h.elim
  | _ => exact h.elim
theorem opd_le : OpR X (compareOp .LtE) (rD X.K X.mg dLe) := by
  refine opd_of fun pins s σ H G x y d e v u Q I rx ry sg px py h => ?_
  cases px with
  | int i => cases py with
    | int j => exact op_le pins s σ H _ _ v u Q I rx ry ⟨i, j, rfl, rfl, h _ H G (.refl sg) (.bl _)⟩
    | _ => exact h.elim
  | str i hi => cases py with
    | str j hj => exact op_le_str pins s σ H _ _ v u Q I rx ry ⟨i, j, rfl, rfl, h _ H G (.refl sg) (.bl _)⟩
    | _ => exact h.elim
  | _ => exact h.elim
theorem opd_ge : OpR X (compareOp .GtE) (rD X.K X.mg dGe) := by
  refine opd_of fun pins s σ H G x y d e v u Q I rx ry sg px py h => ?_
  cases px with
  | int i => cases py with
    | int j => exact op_ge pins s σ H _ _ v u Q I rx ry ⟨i, j, rfl, rfl, h _ H G (.refl sg) (.bl _)⟩
    | _ => exact h.elim
  | str i hi => cases py with
    | str j hj => exact op_ge_str pins s σ H _ _ v u Q I rx ry ⟨i, j, rfl, rfl, h _ H G (.refl sg) (.bl _)⟩
    | _ => exact h.elim
  | _ => exact h.elim

/-! ### == -/
mutual
def toP : D → PyData
  | .non => .none
  | .bl b => .bool b
  | .int i => .int i
  | .str x => .str x
  | .lst xs => .list (toPs xs)
  | .tup xs => .tuple (toPs xs)
  | _ => .dict []
def toPs : List D → List PyData
  | [] => []
  | x :: xs => toP x :: toPs xs
end
mutual
/-- no dicts, no instances, at most n deep -/
def flatD : Nat → D → Bool
  | _, .non => true
  | _, .bl _ => true
  | _, .int _ => true
  | _, .str _ => true
  | 0, _ => false
  | n + 1, .lst xs => flatDs n xs
  | n + 1, .tup xs => flatDs n xs
  | _, _ => false
def flatDs : Nat → List D → Bool
  | _, [] => true
  | n, x :: xs => flatD n x && flatDs n xs
end
mutual
theorem toP_dp {K : PySem.W.Frag} {mg : Str → Option Value} {G : Hp} : ∀ (n : Nat) (d : D) (v : V), flatD n d = true → Dp K mg G v d → L2.Dp K G v (toP d) ∧ (toP d).canLay0 = true ∧ (toP d).depth ≤ n
  | n, .non, _, _, .non => ⟨.non, rfl, by simp [toP, PyData.depth]⟩
  | n, .bl b, _, _, .bl _ => ⟨.bl b, rfl, by simp [toP, PyData.depth]⟩
  | n, .int i, _, _, .int _ => ⟨.int i, rfl, by simp [toP, PyData.depth]⟩
  | n, .str x, _, _, .str _ h => ⟨.str x, h, by simp [toP, PyData.depth]⟩
  | 0, .lst xs, _, h, _ => by simp [flatD] at h
  | 0, .tup xs, _, h, _ => by simp [flatD] at h
  | n + 1, .lst xs, _, h, .lst r a => by
    obtain ⟨h1, h2, h3⟩ := toPs_dp n xs _ (by simpa [flatD] using h) a
    exact ⟨.lst (.inl r) h1, h2, by simp only [toP, PyData.depth]; omega⟩
  | n + 1, .tup xs, _, h, .tup r a => by
    obtain ⟨h1, h2, h3⟩ := toPs_dp n xs _ (by simpa [flatD] using h) a
    exact ⟨.tup r h1, h2, by simp only [toP, PyData.depth]; omega⟩
  | 0, .dct _, _, h, _ => by simp [flatD] at h
  | _ + 1, .dct _, _, h, _ => by simp [flatD] at h
  | 0, .obj _ _, _, h, _ => by simp [flatD] at h
  | _ + 1, .obj _ _, _, h, _ => by simp [flatD] at h
  | 0, .exn _ _ _ _, _, h, _ => by simp [flatD] at h
  | _ + 1, .exn _ _ _ _, _, h, _ => by simp [flatD] at h
theorem toPs_dp {K : PySem.W.Frag} {mg : Str → Option Value} {G : Hp} : ∀ (n : Nat) (ds : List D) (vs : List V), flatDs n ds = true → DpAll K mg G vs ds → L2.DpAll K G vs (toPs ds) ∧ PyData.canLayAll0 (toPs ds) = true ∧ PyData.depthAll (toPs ds) ≤ n
  | n, [], _, _, .nil => ⟨.nil, rfl, by simp [toPs, PyData.depthAll]⟩
  | n, x :: xs, _, h, .cons p a => by
    simp only [flatDs, Bool.and_eq_true] at h
    obtain ⟨h1, h2, h3⟩ := toP_dp n x _ h.1 p
    obtain ⟨k1, k2, k3⟩ := toPs_dp n xs _ h.2 a
    refine ⟨.cons h1 k1, by simp only [toPs, PyData.canLayAll0, h2, k2, Bool.and_self], by simp only [toPs, PyData.depthAll]; omega⟩
end
/-- Python's == over data -/
def eqD (x y : D) : Bool := PyData.eqv (toP x) (toP y)
def dEq (neg : Bool) (x y : D) : R RV := if flatD 9 x && flatD 9 y then okd (.bl (if neg then !eqD x y else eqD x y)) else .stuck
theorem shaped_of {n : Nat} {d : PyData} (h : d.canLay0 = true) (k : d.depth ≤ n) (hn : n ≤ 64) : SeqAt.shaped d = true := by
  unfold SeqAt.shaped
  rw [h, Bool.true_and]
  exact decide_eq_true (Nat.le_trans k hn)
theorem opd_eq (hu : X.A.units + 64 < cLine) : OpR X (compareOp .Eq) (rD X.K X.mg (dEq false)) := by
  refine opd_of fun pins s σ H G x y d e v u Q I rx ry sg px py h => ?_
  unfold dEq at h
  by_cases c : (flatD 9 d && flatD 9 e) = true
  · rw [if_pos c] at h
    rw [Bool.and_eq_true] at c
    obtain ⟨a1, a2, a3⟩ := toP_dp 9 d x c.1 (px.mono sg)
    obtain ⟨b1, b2, b3⟩ := toP_dp 9 e y c.2 (py.mono sg)
    exact op_eqD hu pins s σ H _ _ v u Q I rx ry ⟨_, _, a1, b1, shaped_of a2 a3 (by decide), shaped_of b2 b3 (by decide), h _ H G (.refl sg) (.bl _)⟩
  · rw [if_neg c] at h; exact h.elim
theorem opd_ne (hu : X.A.units + 64 < cLine) : OpR X (compareOp .NotEq) (rD X.K X.mg (dEq true)) := by
  refine opd_of fun pins s σ H G x y d e v u Q I rx ry sg px py h => ?_
  unfold dEq at h
  by_cases c : (flatD 9 d && flatD 9 e) = true
  · rw [if_pos c] at h
    rw [Bool.and_eq_true] at c
    obtain ⟨a1, a2, a3⟩ := toP_dp 9 d x c.1 (px.mono sg)
    obtain ⟨b1, b2, b3⟩ := toP_dp 9 e y c.2 (py.mono sg)
    exact op_neD hu pins s σ H _ _ v u Q I rx ry ⟨_, _, a1, b1, shaped_of a2 a3 (by decide), shaped_of b2 b3 (by decide), h _ H G (.refl sg) (.bl _)⟩
  · rw [if_neg c] at h; exact h.elim
theorem dEq_noex {neg : Bool} : ∀ x y c fs, dEq neg x y ≠ .ex c fs := fun x y c fs h => by
  unfold dEq at h
  split at h <;> cases h

/-! ### is None -/
theorem opd_isN : OpR X (compareOp .Is) (rD X.K X.mg fun d e => match e with | .non => dIsN false d | _ => .stuck) := by
  refine opd_of fun pins s σ H G x y d e v u Q I rx ry sg px py h => ?_
  cases py with
  | non =>
    refine op_isN pins s σ H _ _ v u Q I rx ry ⟨rfl, ?_⟩
    cases px <;> exact h _ H G (.refl sg) (.bl _)
  | _ => exact h.elim
theorem opd_notN : OpR X (compareOp .IsNot) (rD X.K X.mg fun d e => match e with | .non => dIsN true d | _ => .stuck) := by
  refine opd_of fun pins s σ H G x y d e v u Q I rx ry sg px py h => ?_
  cases py with
  | non =>
    refine op_notN pins s σ H _ _ v u Q I rx ry ⟨rfl, ?_⟩
    cases px <;> exact h _ H G (.refl sg) (.bl _)
  | _ => exact h.elim

/-! ### in -/
def dIn (neg : Bool) (x y : D) : R RV := match y with
  | .str z => (match x with
    | .str w => if w.length = 1 then okd (.bl (if neg then !decide (w.cps.getD 0 0 ∈ z.cps.toList) else decide (w.cps.getD 0 0 ∈ z.cps.toList))) else .stuck
    | _ => .stuck)
  | .lst ds => if flatD 8 x && flatDs 8 ds then okd (.bl (if neg then !(ds.any fun z => eqD z x) else ds.any fun z => eqD z x)) else .stuck
  | .tup ds => if flatD 0 x && flatDs 0 ds then okd (.bl (if neg then !(ds.any fun z => eqD z x) else ds.any fun z => eqD z x)) else .stuck
  | _ => .stuck
theorem str_one {w : Str} (h : w.length = 1) : w = ⟨#[w.cps.getD 0 0]⟩ := by
  obtain ⟨a⟩ := w
  have h' : a.size = 1 := h
  refine congrArg Str.mk (Array.ext (by simp [h']) fun i h1 h2 => ?_)
  have : i = 0 := by omega
  subst this
  simp [Array.getD, h']
theorem any_toPs {x : D} : ∀ ds : List D, (toPs ds).any (fun z => PyData.eqv z (toP x)) = ds.any fun z => eqD z x
  | [] => rfl
  | d :: ds => by
    simp only [toPs, List.any_cons, any_toPs ds]
    rfl
/-- a flat value -/
theorem flat0 {K : PySem.W.Frag} {mg : Str → Option Value} {G : Hp} {v : V} {d : D} (h : flatD 0 d = true) (p : Dp K mg G v d) : flatV v = true := by
  cases p <;> first | rfl | (simp [flatD] at h)
theorem eqV0 {K : PySem.W.Frag} {mg : Str → Option Value} {G : Hp} {v u : V} {d e : D} (h : flatD 0 d = true) (h' : flatD 0 e = true) (p : Dp K mg G v d) (q : Dp K mg G u e) : eqV v u = eqD d e := by
  cases p <;> first
    | (simp [flatD] at h; done)
    | (cases q <;> first
      | (simp [flatD] at h'; done)
      | (simp [eqV, eqD, toP, PyData.eqv]; done)
      | (rename_i b i; cases b <;> simp [eqV, eqD, toP, PyData.eqv] <;> (first | done | exact Bool.beq_eq_decide_eq _ _ | (rw [Bool.eq_iff_iff]; simp; omega)))
      | (rename_i i b; cases b <;> simp [eqV, eqD, toP, PyData.eqv]))
end
end DL


set_option maxRecDepth 100000
set_option maxHeartbeats 4000000
namespace DL
open PySem PySem.Spec PyProof.Rows L2

section
variable {X : Cx} {H0 G0 : Hp} {W : WX}
/-! ### in -/
theorem dp_flat0 {K : PySem.W.Frag} {mg : Str → Option Value} {G : Hp} : ∀ {xs : List V} {ds : List D}, DpAll K mg G xs ds → flatDs 0 ds = true → xs.all flatV = true
  | _, _, .nil, _ => rfl
  | _, _, .cons p t, h => by
    simp only [flatDs, Bool.and_eq_true] at h
    rw [List.all_cons, flat0 h.1 p, dp_flat0 t h.2]
    rfl
theorem inV_eqD {K : PySem.W.Frag} {mg : Str → Option Value} {G : Hp} {x : V} {d : D} (hx : flatD 0 d = true) (p : Dp K mg G x d) : ∀ {xs : List V} {ds : List D}, DpAll K mg G xs ds → flatDs 0 ds = true → inV x xs = ds.any fun z => eqD z d
  | _, _, .nil, _ => rfl
  | _, _, .cons (v := v) (d := e) q t, h => by
    simp only [flatDs, Bool.and_eq_true] at h
    have ih := inV_eqD hx p t h.2
    unfold inV at ih ⊢
    rw [List.any_cons, List.any_cons, ih, eqV0 h.1 hx q p]
theorem in_core {neg : Bool} {op : CmpOp} (hop : op = (if neg then .NotIn else .In)) (hu : X.A.units + 65 < cLine) : OpR X (compareOp op) (rD X.K X.mg (dIn neg)) := by
  subst hop
  refine opd_of fun pins s σ H G x y d e v u Q I rx ry sg px py h => ?_
  cases py with
  | str z hz => cases px with
    | str w' hw =>
      simp only [dIn] at h
      by_cases c : w'.length = 1
      · rw [if_pos c] at h
        have ew := str_one c
        cases neg with
        | true => exact op_notIn_sign pins s σ H _ _ v u Q I rx ry ⟨_, z, congrArg V.str ew, rfl, h _ H G (.refl sg) (.bl _)⟩
        | false => exact op_in_sign pins s σ H _ _ v u Q I rx ry ⟨_, z, congrArg V.str ew, rfl, h _ H G (.refl sg) (.bl _)⟩
      · rw [if_neg c] at h; exact h.elim
    | _ => exact h.elim
  | lst r a =>
    rename_i _ xs ds
    simp only [dIn] at h
    by_cases c : (flatD 8 d && flatDs 8 ds) = true
    · rw [if_pos c] at h
      rw [Bool.and_eq_true] at c
      obtain ⟨a1, a2, a3⟩ := toP_dp 8 d x c.1 (px.mono sg)
      obtain ⟨b1, b2, b3⟩ := toPs_dp 8 ds xs c.2 (a.mono sg)
      have sh : SeqAt.shaped (.list (toPs ds)) = true := shaped_of (n := 9) b2 (by simp only [PyData.depth]; omega) (by decide)
      cases neg with
      | true => exact op_notInD hu pins s σ H _ _ v u Q I rx ry ⟨_, _, a1, .lst (.inl (same_rd sg r)) b1, shaped_of a2 a3 (by decide), sh, by rw [any_toPs]; exact h _ H G (.refl sg) (.bl _)⟩
      | false => exact op_inD hu pins s σ H _ _ v u Q I rx ry ⟨_, _, a1, .lst (.inl (same_rd sg r)) b1, shaped_of a2 a3 (by decide), sh, by rw [any_toPs]; exact h _ H G (.refl sg) (.bl _)⟩
    · rw [if_neg c] at h; exact h.elim
  | tup r a =>
    rename_i _ xs ds
    simp only [dIn] at h
    by_cases c : (flatD 0 d && flatDs 0 ds) = true
    · rw [if_pos c] at h
      rw [Bool.and_eq_true] at c
      have e := inV_eqD c.1 px a c.2
      cases neg with
      | true => exact op_notIn_seq pins s σ H _ _ v u Q I rx ry ⟨_, _, rfl, .inr (same_t sg r), flat0 c.1 px, dp_flat0 a c.2, by rw [e]; exact h _ H G (.refl sg) (.bl _)⟩
      | false => exact op_in_seq pins s σ H _ _ v u Q I rx ry ⟨_, _, rfl, .inr (same_t sg r), flat0 c.1 px, dp_flat0 a c.2, by rw [e]; exact h _ H G (.refl sg) (.bl _)⟩
    · rw [if_neg c] at h; exact h.elim
  | _ => exact h.elim
theorem opd_in (hu : X.A.units + 65 < cLine) : OpR X (compareOp .In) (rD X.K X.mg (dIn false)) := in_core rfl hu
theorem opd_notIn (hu : X.A.units + 65 < cLine) : OpR X (compareOp .NotIn) (rD X.K X.mg (dIn true)) := in_core rfl hu
theorem dIn_noex {neg : Bool} : ∀ x y c fs, dIn neg x y ≠ .ex c fs := fun x y c fs h => by
  unfold dIn at h
  split at h
  · split at h
    · split at h <;> cases h
    · cases h
  · split at h <;> cases h
  · split at h <;> cases h
  · cases h

/-! ### items and slices -/
def dIx : D → D → R RV
  | .lst ds, .int i => (match atI ds i with | some d => okd d | none => .stuck)
  | .tup ds, .int i => (match atI ds i with | some d => okd d | none => .stuck)
  | .str z, .int i => if z.length ≤ SZ then (match atI z.cps.toList i with | some c => okd (.str ⟨#[c]⟩) | none => .stuck) else .stuck
  | _, _ => .stuck
theorem dp_atI {K : PySem.W.Frag} {mg : Str → Option Value} {G : Hp} {xs : List V} {ds : List D} {i : Int} {d : D} (a : DpAll K mg G xs ds) (h : atI ds i = some d) : ∃ v, atI xs i = some v ∧ Dp K mg G v d := by
  unfold atI at h ⊢
  rw [a.len]
  cases e : ixN ds.length i with
  | none => rw [e] at h; cases h
  | some j =>
    rw [e] at h
    exact a.get h
theorem str_at {z : Str} {i : Int} {c : Nat} (hz : z.cps.all (· < 0x110000) = true) (h : atI z.cps.toList i = some c) : (Str.mk #[c]).cps.all (· < 0x110000) = true := by
  obtain ⟨j, _, e, _⟩ := atI_get h
  have := Array.all_eq_true'.mp hz c (Array.mem_toList_iff.mp (List.mem_of_getElem? e))
  simpa using this
theorem ixd : IxR X (rD X.K X.mg dIx) := by
  intro value slice pins s σ H x y v u Q I rx ry ⟨G, d, e, sg, px, py, h⟩ hs
  cases py with
  | int i => cases px with
    | lst r a =>
      simp only [dIx] at h
      split at h
      · rename_i d' e'
        obtain ⟨v', e2, p2⟩ := dp_atI a e'
        exact ix_list value slice pins s σ H _ _ v u Q I rx ry ⟨_, _, _, _, rfl, rfl, .inl (same_rd sg r), e2, h _ H G (.refl sg) p2⟩ hs
      · exact h.elim
    | tup r a =>
      simp only [dIx] at h
      split at h
      · rename_i d' e'
        obtain ⟨v', e2, p2⟩ := dp_atI a e'
        exact ix_tup value slice pins s σ H _ _ v u Q I rx ry ⟨_, _, _, _, rfl, rfl, same_t sg r, e2, h _ H G (.refl sg) p2⟩ hs
      · exact h.elim
    | str z hz =>
      simp only [dIx] at h
      by_cases c : z.length ≤ SZ
      · rw [if_pos c] at h
        split at h
        · rename_i c' e'
          exact ix_str value slice pins s σ H _ _ v u Q I rx ry ⟨_, _, _, rfl, rfl, sz_le c, e', h _ H G (.refl sg) (.str _ (str_at hz e'))⟩ hs
        · exact h.elim
      · rw [if_neg c] at h; exact h.elim
    | _ => exact h.elim
  | _ => cases px <;> exact h.elim
theorem dIx_noex : ∀ x y c fs, dIx x y ≠ .ex c fs := fun x y c fs h => by
  unfold dIx at h
  split at h
  · split at h <;> cases h
  · split at h <;> cases h
  · split at h
    · split at h <;> cases h
    · cases h
  · cases h
/-- an own list's item, read while it is own -/
def fOwnIx (i : Nat) (f : DE → R RV) (δ : DE) : R RV := match δ[i]? with
  | some (some (.ol ds)) => f δ >>= fun k => dIx (.lst ds) k.d
  | _ => .stuck
def cutL {α : Type} (xs : List α) (lo hi : Option Int) : List α := (xs.drop (HT.sIx xs.length 0 lo)).take (HT.sIx xs.length xs.length hi - HT.sIx xs.length 0 lo)
def dSl : D → Option Int → Option Int → R RV
  | .lst ds, lo, hi => .ok (.ol (cutL ds lo hi))
  | .tup ds, lo, hi => okd (.tup (cutL ds lo hi))
  | .str z, lo, hi => if z.length ≤ SZ then okd (.str (cutS z lo hi)) else .stuck
  | _, _, _ => .stuck
def pNone (_ : DE) : R (Option Int) := .ok none
def pInt (f : DE → R RV) (δ : DE) : R (Option Int) := f δ >>= fun r => match r.d with
  | .int i => .ok (some i)
  | _ => .stuck
def postO (K : PySem.W.Frag) (mg : Str → Option Value) (H G : Hp) (W : Value → Option Addr → Hp → Prop) (Q : Option Int → Hp → Prop) : R (Option Int) → Prop
  | .ok o => ∀ H' G', Gr H G H' G' → Q o H'
  | .ex c fs => postX K mg H G W c fs
  | .stuck => False
def tO (K : PySem.W.Frag) (mg : Str → Option Value) (H0 : Hp) (W : WX) (f : DE → R (Option Int)) : TO := fun σ H Q => ∃ G δ, Same G H ∧ Sl K mg H0 H G σ δ ∧ postO K mg H G (fun c d H' => W c d σ H') Q (f δ)
abbrev Od (X : Cx) (H0 : Hp) (W : WX) (e : Option Expr) (f : DE → R (Option Int)) : Prop := PO X e (tO X.K X.mg H0 W f)
theorem PO.imp {e : Option Expr} {t t' : TO} (h : PO X e t) (w : ∀ σ H Q, t' σ H Q → t σ H Q) : PO X e t' := ⟨fun pins s σ H Q I q => h.run pins s σ H Q I (w σ H Q q)⟩
theorem od_none : Od X H0 W none pNone := PO.imp po_none fun σ H Q h => by
  obtain ⟨G, δ, s, sl, h⟩ := h
  exact h H G (.refl s)
theorem od_some {e : Expr} {f : DE → R RV} (he : Ed X H0 W e f) : Od X H0 W (some e) (pInt f) := PO.imp (po_some he) fun σ H Q h => by
  obtain ⟨G, δ, s, sl, h⟩ := h
  refine ⟨G, δ, s, sl, ?_⟩
  unfold pInt at h
  cases hf : f δ with
  | ok r =>
    rw [hf, bind_ok] at h
    intro v H1 G1 g1 p1
    cases hd : r.d with
    | int i =>
      simp only [hd] at h
      obtain ⟨G2, g2, _, p2, _⟩ := RVp.frz g1 p1
      rw [hd] at p2
      cases p2
      exact ⟨i, rfl, h H1 G2 g2⟩
    | _ => simp only [hd] at h; exact h.elim
  | ex c fs => rw [hf, bind_ex] at h; exact h
  | stuck => rw [hf, bind_stuck] at h; exact h
def fSl (f : DE → R RV) (fl fh : DE → R (Option Int)) (δ : DE) : R RV := f δ >>= fun r => fl δ >>= fun l => fh δ >>= fun h => dSl r.d l h
theorem dp_cut {K : PySem.W.Frag} {mg : Str → Option Value} {G : Hp} {xs : List V} {ds : List D} (a : DpAll K mg G xs ds) (lo hi : Option Int) : DpAll K mg G (cutV xs lo hi) (cutL ds lo hi) := by
  unfold cutV cutL
  rw [a.len]
  exact (a.drop _).take _
theorem str_cut {z : Str} {lo hi : Option Int} (hz : z.cps.all (· < 0x110000) = true) : (cutS z lo hi).cps.all (· < 0x110000) = true := by
  rw [Array.all_eq_true'] at hz ⊢
  intro c hc
  refine hz c ?_
  unfold cutS at hc
  simp only [List.mem_toArray] at hc
  exact Array.mem_toList_iff.mp (List.mem_of_mem_drop (List.mem_of_mem_take hc))
/-- a rule for slices of data, at once for lists, tuples and texts -/
theorem slD : SlR X (fun x lo hi H Q => ∃ G d, Same G H ∧ Dp X.K X.mg G x d ∧ post X.K X.mg H G (fun _ _ _ => False) Q (dSl d lo hi)) := by
  intro pins s σ H x v vl vu lo hi sl Q I rx hs pl pu ⟨G, d, sg, p, h⟩
  cases p with
  | lst r a =>
    exact sl_list pins s σ H _ v vl vu lo hi sl Q I rx hs pl pu ⟨_, _, rfl, .inl (same_rd sg r), fun p hp => new_own (Wd := fun _ _ _ => False) sg hp (dp_cut a lo hi) h⟩
  | tup r a =>
    refine sl_tupA pins s σ H _ v vl vu lo hi sl Q I rx hs pl pu ⟨_, _, rfl, same_t sg r, fun z => ?_, fun _ => tup_new sg (dp_cut a lo hi) h⟩
    rename_i _ xs ds
    have e : cutL ds lo hi = ds := by
      unfold cutL
      rw [a.len] at z
      rw [z.1, z.2, List.drop_zero, Nat.sub_zero, List.take_length]
    simp only [dSl, e] at h
    exact h _ H G (.refl sg) (.tup r a)
  | str z hz =>
    simp only [dSl] at h
    by_cases c : z.length ≤ SZ
    · rw [if_pos c] at h
      exact sl_str pins s σ H _ v vl vu lo hi sl Q I rx hs pl pu ⟨z, rfl, sz_le c, h _ H G (.refl sg) (.str _ (str_cut hz))⟩
    · rw [if_neg c] at h; exact h.elim
  | _ => exact h.elim
theorem postO_bind {K : PySem.W.Frag} {mg : Str → Option Value} {H G : Hp} {W : Value → Option Addr → Hp → Prop} {Q : Option Int → Hp → Prop} {Q2 : VK} {x : R (Option Int)} {f : Option Int → R RV} (h : post K mg H G W Q2 (x >>= f))
    (k : ∀ b H' G', Gr H G H' G' → post K mg H' G' W Q2 (f b) → Q b H') : postO K mg H G W Q x := by
  cases x with
  | ok b =>
    intro H' G' g
    refine k b H' G' g ?_
    have h' : post K mg H G W Q2 (f b) := h
    generalize hy : f b = y at h'
    cases y with
    | ok r2 => exact fun v H3 G3 g3 p3 => h' v H3 G3 (g.trans g3) (p3.back g.hh)
    | ex c fs => exact postX.mono g h'
    | stuck => exact h'
  | ex c fs => exact h
  | stuck => exact h
theorem dSl_noex : ∀ d lo hi c fs, dSl d lo hi ≠ .ex c fs := fun d lo hi c fs h => by
  cases d <;> simp only [dSl] at h <;> first
    | (split at h <;> cases h)
    | cases h
theorem ed_sl {e : Expr} {lo hi : Option Expr} {f : DE → R RV} {fl fh : DE → R (Option Int)} {p2 pos : Pos} (he : Ed X H0 W e f) (hl : Od X H0 W lo fl) (hh : Od X H0 W hi fh) : Ed X H0 W (.Subscript e (.Slice lo hi none p2) pos) (fSl f fl fh) := by
  refine PE.imp (pe_slice slD he hl hh) fun σ H Q h => ?_
  obtain ⟨G, δ, s, sl, h⟩ := h
  refine ⟨G, δ, s, sl, post_bind (f := fun d => fl δ >>= fun l => fh δ >>= fun h => dSl d l h) h fun v d H1 G1 g1 p1 h1 => ?_⟩
  refine ⟨G1, δ, g1.gh, sl.mono g1, postO_bind h1 fun l H2 G2 g2 h2 => ?_⟩
  refine ⟨G2, δ, g2.gh, (sl.mono g1).mono g2, postO_bind h2 fun r H3 G3 g3 h3 => ?_⟩
  refine ⟨G3, d, g3.gh, (p1.mono g2.gg).mono g3.gg, ?_⟩
  generalize hy : dSl d l r = y at h3
  cases y with
  | ok r => exact h3
  | ex c fs => exact absurd hy (dSl_noex _ _ _ _ _)
  | stuck => exact h3

/-! ### built-in functions -/
def dLen : List D → R RV
  | [.lst ds] => okd (.int ds.length)
  | [.tup ds] => okd (.int ds.length)
  | [.str z] => if z.length ≤ SZ then okd (.int z.length) else .stuck
  | _ => .stuck
def dInt : List D → R RV
  | [.int i] => okd (.int i)
  | [.bl b] => okd (.int (if b then 1 else 0))
  | _ => .stuck
def dAbs : List D → R RV
  | [.int i] => okd (.int (if i < 0 then -i else i))
  | _ => .stuck
def dList : List D → R RV
  | [.lst ds] => .ok (.ol ds)
  | [.tup ds] => .ok (.ol ds)
  | _ => .stuck
def dTuple : List D → R RV
  | [.lst ds] => okd (.tup ds)
  | [.tup ds] => okd (.tup ds)
  | _ => .stuck
def intsOf : List D → Option (List Int)
  | [] => some []
  | .int i :: ds => (intsOf ds).map (i :: ·)
  | _ => none
def blsOf : List D → Option (List Bool)
  | [] => some []
  | .bl i :: ds => (blsOf ds).map (i :: ·)
  | _ => none
def strsOf : List D → Option (List Str)
  | [] => some []
  | .str i :: ds => (strsOf ds).map (i :: ·)
  | _ => none
def dSum : List D → R RV
  | [.lst ds] => (match intsOf ds with | some ns => okd (.int ns.sum) | none => .stuck)
  | _ => .stuck
def dAll : List D → R RV
  | [.lst ds] => (match blsOf ds with | some ns => okd (.bl (ns.all id)) | none => .stuck)
  | _ => .stuck
def dAny : List D → R RV
  | [.lst ds] => (match blsOf ds with | some ns => okd (.bl (ns.any id)) | none => .stuck)
  | _ => .stuck
def dMin2 : List D → R RV
  | [.int i, .int j] => okd (.int (if j < i then j else i))
  | _ => .stuck
def dMax2 : List D → R RV
  | [.int i, .int j] => okd (.int (if j > i then j else i))
  | _ => .stuck
theorem dp_ints {K : PySem.W.Frag} {mg : Str → Option Value} {G : Hp} : ∀ {xs : List V} {ds : List D} {ns : List Int}, DpAll K mg G xs ds → intsOf ds = some ns → xs = ns.map V.int
  | _, _, _, .nil, h => by cases h; rfl
  | _, _, ns, .cons p t, h => by
    cases p <;> simp only [intsOf] at h <;> try cases h
    rename_i i
    cases e : intsOf _ with
    | none => rw [e] at h; cases h
    | some ms => rw [e] at h; cases h; rw [dp_ints t e]; rfl
theorem dp_bls {K : PySem.W.Frag} {mg : Str → Option Value} {G : Hp} : ∀ {xs : List V} {ds : List D} {ns : List Bool}, DpAll K mg G xs ds → blsOf ds = some ns → xs = ns.map V.bl
  | _, _, _, .nil, h => by cases h; rfl
  | _, _, ns, .cons p t, h => by
    cases p <;> simp only [blsOf] at h <;> try cases h
    rename_i i
    cases e : blsOf _ with
    | none => rw [e] at h; cases h
    | some ms => rw [e] at h; cases h; rw [dp_bls t e]; rfl
theorem dp_strs {K : PySem.W.Frag} {mg : Str → Option Value} {G : Hp} : ∀ {xs : List V} {ds : List D} {ns : List Str}, DpAll K mg G xs ds → strsOf ds = some ns → xs = ns.map V.str ∧ ∀ x ∈ ns, x.cps.all (· < 0x110000) = true
  | _, _, _, .nil, h => by cases h; exact ⟨rfl, fun _ h => nomatch h⟩
  | _, _, ns, .cons p t, h => by
    cases p <;> simp only [strsOf] at h <;> try cases h
    rename_i i hi
    cases e : strsOf _ with
    | none => rw [e] at h; cases h
    | some ms =>
      rw [e] at h; cases h
      obtain ⟨a, b⟩ := dp_strs t e
      exact ⟨by rw [a]; rfl, fun x hx => (List.mem_cons.mp hx).elim (fun z => z ▸ hi) (b x)⟩
theorem crd_of {f : Value} {g : List D → R RV} (h : ∀ (pins : List (Addr × Obj)) (s : Shared) (σ : L2.St) (H G : Hp) (xs : List V) (ds : List D) (us : List Value) (Q : VK), Inv X pins σ H s → Vals xs us → Same G H → DpAll X.K X.mg G xs ds →
    post X.K X.mg H G (fun _ _ _ => False) Q (g ds) → wpAny (model X.prog X.w) X.A (call f us) (EP X pins σ Q) X.xe s) : CallR X f (rDA X.K X.mg g) := by
  intro pins s σ H xs us Q I r ⟨G, ds, sg, p, q⟩
  exact h pins s σ H G xs ds us Q I r sg p q
theorem crd_len : CallR X (.builtin "len") (rDA X.K X.mg dLen) := by
  refine crd_of fun pins s σ H G xs ds us Q I r sg p h => ?_
  cases p with
  | nil => exact h.elim
  | cons p t =>
    cases t with
    | nil =>
      cases p with
      | lst q a => exact call_len pins s σ H _ us Q I r ⟨_, _, rfl, .inl ⟨_, .inl (same_rd sg q), rfl⟩, by rw [a.len]; exact h _ H G (.refl sg) (.int _)⟩
      | tup q a => exact call_len pins s σ H _ us Q I r ⟨_, _, rfl, .inr ⟨_, same_t sg q, rfl⟩, by rw [a.len]; exact h _ H G (.refl sg) (.int _)⟩
      | str z hz =>
        simp only [dLen] at h
        by_cases c : z.length ≤ SZ
        · rw [if_pos c] at h
          exact call_len pins s σ H _ us Q I r ⟨_, _, rfl, ⟨sz_le c, rfl⟩, h _ H G (.refl sg) (.int _)⟩
        · rw [if_neg c] at h; exact h.elim
      | _ => exact h.elim
    | cons p2 t2 => cases p <;> exact h.elim
theorem dLen_noex : ∀ x c fs, dLen x ≠ .ex c fs := fun x c fs h => by
  unfold dLen at h
  split at h <;> try cases h
  split at h <;> cases h
theorem crd_int : CallR X (.type "int") (rDA X.K X.mg dInt) := by
  refine crd_of fun pins s σ H G xs ds us Q I r sg p h => ?_
  cases p with
  | nil => exact h.elim
  | cons p t =>
    cases t with
    | nil =>
      cases p with
      | int i => exact call_int1 pins s σ H _ us Q I r (.inl ⟨i, rfl, h _ H G (.refl sg) (.int _)⟩)
      | bl b => exact call_int1 pins s σ H _ us Q I r (.inr ⟨b, rfl, h _ H G (.refl sg) (.int _)⟩)
      | _ => exact h.elim
    | cons p2 t2 => cases p <;> exact h.elim
theorem dInt_noex : ∀ x c fs, dInt x ≠ .ex c fs := fun x c fs h => by
  unfold dInt at h
  split at h <;> cases h
theorem crd_abs : CallR X (.builtin "abs") (rDA X.K X.mg dAbs) := by
  refine crd_of fun pins s σ H G xs ds us Q I r sg p h => ?_
  cases p with
  | nil => exact h.elim
  | cons p t =>
    cases t with
    | nil =>
      cases p with
      | int i => exact call_abs pins s σ H _ us Q I r ⟨i, rfl, h _ H G (.refl sg) (.int _)⟩
      | _ => exact h.elim
    | cons p2 t2 => cases p <;> exact h.elim
theorem dAbs_noex : ∀ x c fs, dAbs x ≠ .ex c fs := fun x c fs h => by
  unfold dAbs at h
  split at h <;> cases h
theorem crd_list : CallR X (.type "list") (rDA X.K X.mg dList) := by
  refine crd_of fun pins s σ H G xs ds us Q I r sg p h => ?_
  cases p with
  | nil => exact h.elim
  | cons p t =>
    cases t with
    | nil =>
      cases p with
      | lst q a => exact call_list_of pins s σ H _ us Q I r ⟨_, _, rfl, .inl (.inl (same_rd sg q)), fun l hl => new_own (Wd := fun _ _ _ => False) sg hl a h⟩
      | tup q a => exact call_list_of pins s σ H _ us Q I r ⟨_, _, rfl, .inr (same_t sg q), fun l hl => new_own (Wd := fun _ _ _ => False) sg hl a h⟩
      | _ => exact h.elim
    | cons p2 t2 => cases p <;> exact h.elim
theorem dList_noex : ∀ x c fs, dList x ≠ .ex c fs := fun x c fs h => by
  unfold dList at h
  split at h <;> cases h
theorem crd_tuple : CallR X (.type "tuple") (rDA X.K X.mg dTuple) := by
  refine crd_of fun pins s σ H G xs ds us Q I r sg p h => ?_
  cases p with
  | nil => exact h.elim
  | cons p t =>
    cases t with
    | nil =>
      cases p with
      | lst q a => exact call_tuple_of pins s σ H _ us Q I r ⟨_, _, rfl, .inl ⟨.inl (same_rd sg q), tup_new sg a h⟩⟩
      | tup q a => exact call_tuple_of pins s σ H _ us Q I r ⟨_, _, rfl, .inr ⟨same_t sg q, h _ H G (.refl sg) (.tup q a)⟩⟩
      | _ => exact h.elim
    | cons p2 t2 => cases p <;> exact h.elim
theorem dTuple_noex : ∀ x c fs, dTuple x ≠ .ex c fs := fun x c fs h => by
  unfold dTuple at h
  split at h <;> cases h
theorem crd_sum (hc : X.calm = true) : CallR X (.builtin "sum") (rDA X.K X.mg dSum) := by
  refine crd_of fun pins s σ H G xs ds us Q I r sg p h => ?_
  cases p with
  | nil => exact h.elim
  | cons p t =>
    cases t with
    | nil =>
      cases p with
      | lst q a =>
        simp only [dSum] at h
        split at h
        · rename_i ns e
          have ex := dp_ints a e
          subst ex
          exact cr_sum hc pins s σ H _ us Q I r ⟨_, ns, rfl, .inl (same_rd sg q), h _ H G (.refl sg) (.int _)⟩
        · exact h.elim
      | _ => exact h.elim
    | cons p2 t2 => cases p <;> exact h.elim
theorem dSum_noex : ∀ x c fs, dSum x ≠ .ex c fs := fun x c fs h => by
  unfold dSum at h
  split at h
  · split at h <;> cases h
  · cases h
theorem crd_all (hc : X.calm = true) : CallR X (.builtin "all") (rDA X.K X.mg dAll) := by
  refine crd_of fun pins s σ H G xs ds us Q I r sg p h => ?_
  cases p with
  | nil => exact h.elim
  | cons p t =>
    cases t with
    | nil =>
      cases p with
      | lst q a =>
        simp only [dAll] at h
        split at h
        · rename_i ns e
          have ex := dp_bls a e
          subst ex
          exact cr_all hc pins s σ H _ us Q I r ⟨_, ns, rfl, .inl (same_rd sg q), h _ H G (.refl sg) (.bl _)⟩
        · exact h.elim
      | _ => exact h.elim
    | cons p2 t2 => cases p <;> exact h.elim
theorem dAll_noex : ∀ x c fs, dAll x ≠ .ex c fs := fun x c fs h => by
  unfold dAll at h
  split at h
  · split at h <;> cases h
  · cases h
theorem crd_any (hc : X.calm = true) : CallR X (.builtin "any") (rDA X.K X.mg dAny) := by
  refine crd_of fun pins s σ H G xs ds us Q I r sg p h => ?_
  cases p with
  | nil => exact h.elim
  | cons p t =>
    cases t with
    | nil =>
      cases p with
      | lst q a =>
        simp only [dAny] at h
        split at h
        · rename_i ns e
          have ex := dp_bls a e
          subst ex
          exact cr_any hc pins s σ H _ us Q I r ⟨_, ns, rfl, .inl (same_rd sg q), h _ H G (.refl sg) (.bl _)⟩
        · exact h.elim
      | _ => exact h.elim
    | cons p2 t2 => cases p <;> exact h.elim
theorem dAny_noex : ∀ x c fs, dAny x ≠ .ex c fs := fun x c fs h => by
  unfold dAny at h
  split at h
  · split at h <;> cases h
  · cases h
theorem crd_min2 (hc : X.calm = true) : CallR X (.builtin "min") (rDA X.K X.mg dMin2) := by
  refine crd_of fun pins s σ H G xs ds us Q I r sg p h => ?_
  unfold dMin2 at h
  split at h
  · rename_i i j
    cases p with
    | cons p t => cases t with
      | cons p2 t2 => cases t2; cases p; cases p2; exact call_min2 hc pins s σ H _ us Q I r ⟨i, j, rfl, h _ H G (.refl sg) (.int _)⟩
  · exact h.elim
theorem dMin2_noex : ∀ x c fs, dMin2 x ≠ .ex c fs := fun x c fs h => by
  unfold dMin2 at h
  split at h <;> cases h
theorem crd_max2 (hc : X.calm = true) : CallR X (.builtin "max") (rDA X.K X.mg dMax2) := by
  refine crd_of fun pins s σ H G xs ds us Q I r sg p h => ?_
  unfold dMax2 at h
  split at h
  · rename_i i j
    cases p with
    | cons p t => cases t with
      | cons p2 t2 => cases t2; cases p; cases p2; exact call_max2 hc pins s σ H _ us Q I r ⟨i, j, rfl, h _ H G (.refl sg) (.int _)⟩
  · exact h.elim
theorem dMax2_noex : ∀ x c fs, dMax2 x ≠ .ex c fs := fun x c fs h => by
  unfold dMax2 at h
  split at h <;> cases h

/-! ### isinstance with built-in classes -/
inductive Ty where
  | int | str | bool | list | tuple | dict
def Ty.nm : Ty → String
  | .int => "int" | .str => "str" | .bool => "bool" | .list => "list" | .tuple => "tuple" | .dict => "dict"
def isB : Ty → D → Bool
  | .int, .int _ => true
  | .int, .bl _ => true
  | .str, .str _ => true
  | .bool, .bl _ => true
  | .list, .lst _ => true
  | .tuple, .tup _ => true
  | .dict, .dct _ => true
  | _, _ => false
def isObjD : D → Bool
  | .obj _ _ => true
  | .exn _ _ _ _ => true
  | _ => false
def dIs (T : Ty) (d : D) : R RV := if isObjD d then .stuck else okd (.bl (isB T d))
def tyS : D → String
  | .non => "NoneType" | .bl _ => "bool" | .int _ => "int" | .str _ => "str" | .lst _ => "list" | .tup _ => "tuple" | .dct _ => "dict" | .obj _ _ => "" | .exn _ _ _ _ => ""
theorem kitB_tab (T : Ty) (d : D) (h : isObjD d = false) : kitB (tyS d) T.nm = some (isB T d) := by
  cases d <;> first
    | (cases h; done)
    | (cases T <;> (simp only [tyS, Ty.nm, isB]; decide +kernel))
theorem tyx_of {K : PySem.W.Frag} {mg : Str → Option Value} {H G : Hp} {v : V} {d : D} (s : Same G H) (p : Dp K mg G v d) (h : isObjD d = false) : TyX K H v (.type (tyS d)) := by
  cases p with
  | non => exact .base .non
  | bl b => exact .base (.bl b)
  | int i => exact .base (.int i)
  | str x _ => exact .base (.str x)
  | lst r a =>
    rcases same_rd s r with r | ⟨o, r⟩
    · exact .base (.lst r)
    · exact .base (.frz r)
  | tup r a =>
    rcases same_t s r with (r | ⟨o, r⟩) | ⟨o, its, n, hk, hc, _⟩
    · exact .base (.tup r)
    · exact .fTuple r
    · exact .kTuple hk hc
  | dk r a => exact .base (.dK (s _ _ r))
  | dt r a => exact .base (.dT (s _ _ r))
  | obj a b c => cases h
  | exn a b c => cases h
theorem ed_isi (T : Ty) {x : Str} {e : Expr} {f : DE → R RV} {p p2 pos : Pos} (he : Ed X H0 W e f) (hm0 : X.mg "isinstance" = none) (hmx : X.mg x = none) (hv : bootBuiltins x = some (.type T.nm)) (hg0 : Gl X "isinstance" := by rfl) (hgx : Gl X x := by rfl) (hn : x ≠ "__name__" := by decide) (hd : (x == ("__debug__" : Str)) = false := by decide)
    (he1 : starEach (e :: [.Name x p2]) X.env = (false, eval e X.env) :: starEach [.Name x p2] X.env := by rfl) (hpl : (backTo pos (starEach [.Name x p2] X.env)).any (·.1) = false := by rfl) :
    Ed X H0 W (.Call (.Name "isinstance" p) [e, .Name x p2] [] pos) (fUn (dIs T) f) := by
  have hc : PE X (.Name x p2) (tC (.ty T.nm)) := pe_bltn hgx hmx hv rfl hn hd
  refine PE.imp (pe_callB call_isi hg0 hm0 (by decide +kernel) (pa_cons he (pa_cons hc pa_nil) he1) (he := he1) (hpl := hpl)) fun σ H Q h => ?_
  obtain ⟨G, δ, s, sl, h⟩ := h
  refine ⟨G, δ, s, sl, post_bind (f := dIs T) h fun v d H1 G1 g1 p1 h1 => ?_⟩
  unfold dIs at h1
  by_cases ho : isObjD d = true
  · rw [if_pos ho] at h1; exact h1.elim
  · rw [if_neg ho] at h1
    have ho' : isObjD d = false := by simpa using ho
    exact ⟨v, .ty T.nm, .type (tyS d), .type T.nm, _, rfl, .ty _, tyx_of g1.gh p1 ho', kit_ty (kitB_tab T d ho'), h1 _ H1 G1 (.refl g1.gh) (.bl _)⟩
/-- .. with two of them -/
def dIs2 (T U : Ty) (d : D) : R RV := if isObjD d then .stuck else okd (.bl (isB T d || isB U d))
theorem ed_isi2 (T U : Ty) {x y : Str} {e : Expr} {f : DE → R RV} {k} {p p2 p3 pt pos : Pos} (he : Ed X H0 W e f) (hm0 : X.mg "isinstance" = none) (hmx : X.mg x = none) (hv : bootBuiltins x = some (.type T.nm)) (hmy : X.mg y = none) (hvy : bootBuiltins y = some (.type U.nm)) (hg0 : Gl X "isinstance" := by rfl)
    (hgx : Gl X x := by rfl) (hn : x ≠ "__name__" := by decide) (hd : (x == ("__debug__" : Str)) = false := by decide) (hgy : Gl X y := by rfl) (hny : y ≠ "__name__" := by decide) (hdy : (y == ("__debug__" : Str)) = false := by decide)
    (he1 : starEach (e :: [.Tuple [.Name x p2, .Name y p3] k pt]) X.env = (false, eval e X.env) :: starEach [.Tuple [.Name x p2, .Name y p3] k pt] X.env := by rfl) (hpl : (backTo pos (starEach [.Tuple [.Name x p2, .Name y p3] k pt] X.env)).any (·.1) = false := by rfl) :
    Ed X H0 W (.Call (.Name "isinstance" p) [e, .Tuple [.Name x p2, .Name y p3] k pt] [] pos) (fUn (dIs2 T U) f) := by
  have hc : PE X (.Name x p2) (tC (.ty T.nm)) := pe_bltn hgx hmx hv rfl hn hd
  have hc2 : PE X (.Name y p3) (tC (.ty U.nm)) := pe_bltn hgy hmy hvy rfl hny hdy
  refine PE.imp (pe_callB call_isiT hg0 hm0 (by decide +kernel) (pa_cons he (pa_cons (pe_tup (pa_cons hc (pa_cons hc2 pa_nil))) pa_nil) he1) (he := he1) (hpl := hpl)) fun σ H Q h => ?_
  obtain ⟨G, δ, s, sl, h⟩ := h
  refine ⟨G, δ, s, sl, post_bind (f := dIs2 T U) h fun v d H1 G1 g1 p1 h1 => ?_⟩
  unfold dIs2 at h1
  by_cases ho : isObjD d = true
  · rw [if_pos ho] at h1; exact h1.elim
  · rw [if_neg ho] at h1
    have ho' : isObjD d = false := by simpa using ho
    refine ⟨by show 2 ≤ sizeLine; rw [sizeLine_eq]; decide, fun q hq => ?_⟩
    refine ⟨v, q, [.ty T.nm, .ty U.nm], .type (tyS d), [.type T.nm, .type U.nm], _, rfl, upd_same, .cons (.ty _) (.cons (.ty _) .nil), tyx_of (g1.gh.trans (upd_same_of hq)) p1 ho', ?_, h1 _ (upd H1 q _) _ (.mut g1.gh hq) (.bl _)⟩
    refine kitAny_cons (kit_ty (kitB_tab T d ho')) (fun z => kitAny_cons (kit_ty (kitB_tab U d ho')) (fun z2 => ?_) fun z2 => ?_) fun z => ?_
    · rw [z, z2]; rfl
    · rw [z, z2]; rfl
    · rw [z]; rfl
theorem dIs_noex {T : Ty} : ∀ x c fs, dIs T x ≠ .ex c fs := fun x c fs h => by
  unfold dIs at h
  split at h <;> cases h

/-! ### join -/
def dJoin : D → D → R RV
  | .str a, .lst ds => (match strsOf ds with | some ys => if (ys.map (·.length)).sum + ys.length * a.length ≤ SZ then okd (.str (Txt.join a ys)) else .stuck | none => .stuck)
  | .str a, .tup ds => (match strsOf ds with | some ys => if (ys.map (·.length)).sum + ys.length * a.length ≤ SZ then okd (.str (Txt.join a ys)) else .stuck | none => .stuck)
  | _, _ => .stuck
end
end DL


set_option maxRecDepth 100000
set_option maxHeartbeats 4000000
namespace DL
open PySem PySem.Spec PyProof.Rows L2

/-! ### own things, seen as frozen for a while -/
mutual
/-- no lists within (q: no dicts either) -/
def safeD (q : Bool) : D → Bool
  | .lst _ => false
  | .tup xs => safeDs q xs
  | .dct kvs => !q && safeKs q kvs
  | .obj _ fs => safeFs q fs
  | .exn _ _ _ _ => false
  | .non => true
  | .bl _ => true
  | .int _ => true
  | .str _ => true
def safeDs (q : Bool) : List D → Bool
  | [] => true
  | x :: xs => safeD q x && safeDs q xs
def safeKs (q : Bool) : List (D × D) → Bool
  | [] => true
  | (_, x) :: xs => safeD q x && safeKs q xs
def safeFs (q : Bool) : List (Str × D) → Bool
  | [] => true
  | (_, x) :: xs => safeD q x && safeFs q xs
end
/-- G' holds what G holds but for lists (and, q, dicts) -/
structure Cut (q : Bool) (G G' : Hp) : Prop where
  rest : ∀ a o, G a = some o → (∀ xs, o ≠ .lst xs) → (q = true → ∀ xs, o ≠ .dK xs) → (q = true → ∀ xs, o ≠ .dT xs) → G' a = some o
mutual
theorem Dp.cut {K : PySem.W.Frag} {mg : Str → Option Value} {G G' : Hp} {q : Bool} (c : Cut q G G') : ∀ {d : D} {v : V}, safeD q d = true → Dp K mg G v d → Dp K mg G' v d
  | .non, _, _, .non => .non
  | .bl b, _, _, .bl _ => .bl b
  | .int i, _, _, .int _ => .int i
  | .str x, _, _, .str _ h => .str x h
  | .lst _, _, h, _ => by simp [safeD] at h
  | .tup xs, _, h, .tup r a => by
    refine .tup ?_ (DpAll.cut c (by simpa [safeD] using h) a)
    rcases r with (r | ⟨o, r⟩) | r
    · exact .inl (.inl (c.rest _ _ r (fun _ z => nomatch z) (fun _ _ z => nomatch z) (fun _ _ z => nomatch z)))
    · exact .inl (.inr ⟨o, c.rest _ _ r (fun _ z => nomatch z) (fun _ _ z => nomatch z) (fun _ _ z => nomatch z)⟩)
    · exact .inr r
  | .dct ks, _, h, .dk r a => by
    simp only [safeD, Bool.and_eq_true, Bool.not_eq_true'] at h
    exact .dk (c.rest _ _ r (fun _ z => nomatch z) (fun z => by rw [h.1] at z; cases z) (fun _ _ z => nomatch z)) (DpK.cut c h.2 a)
  | .dct ks, _, h, .dt r a => by
    simp only [safeD, Bool.and_eq_true, Bool.not_eq_true'] at h
    exact .dt (c.rest _ _ r (fun _ z => nomatch z) (fun _ _ z => nomatch z) (fun z => by rw [h.1] at z; cases z)) (DpT.cut c h.2 a)
  | .obj n fs, _, h, .obj e r a => .obj e (c.rest _ _ r (fun _ z => nomatch z) (fun _ _ z => nomatch z) (fun _ _ z => nomatch z)) (DpF.cut c (by simpa [safeD] using h) a)
  | .exn _ _ _ _, _, h, _ => by simp [safeD] at h
theorem DpAll.cut {K : PySem.W.Frag} {mg : Str → Option Value} {G G' : Hp} {q : Bool} (c : Cut q G G') : ∀ {ds : List D} {vs : List V}, safeDs q ds = true → DpAll K mg G vs ds → DpAll K mg G' vs ds
  | [], _, _, .nil => .nil
  | _ :: _, _, h, .cons p t => by
    simp only [safeDs, Bool.and_eq_true] at h
    exact .cons (Dp.cut c h.1 p) (DpAll.cut c h.2 t)
theorem DpK.cut {K : PySem.W.Frag} {mg : Str → Option Value} {G G' : Hp} {q : Bool} (c : Cut q G G') : ∀ {ds : List (D × D)} {vs : List (Key × V)}, safeKs q ds = true → DpK K mg G vs ds → DpK K mg G' vs ds
  | [], _, _, .nil => .nil
  | _ :: _, _, h, .cons p t => by
    simp only [safeKs, Bool.and_eq_true] at h
    exact .cons (Dp.cut c h.1 p) (DpK.cut c h.2 t)
theorem DpT.cut {K : PySem.W.Frag} {mg : Str → Option Value} {G G' : Hp} {q : Bool} (c : Cut q G G') : ∀ {ds : List (D × D)} {vs : List (List Key × V)}, safeKs q ds = true → DpT K mg G vs ds → DpT K mg G' vs ds
  | [], _, _, .nil => .nil
  | _ :: _, _, h, .cons p t => by
    simp only [safeKs, Bool.and_eq_true] at h
    exact .cons (Dp.cut c h.1 p) (DpT.cut c h.2 t)
theorem DpF.cut {K : PySem.W.Frag} {mg : Str → Option Value} {G G' : Hp} {q : Bool} (c : Cut q G G') : ∀ {ds : List (Str × D)} {vs : List (Str × V)}, safeFs q ds = true → DpF K mg G vs ds → DpF K mg G' vs ds
  | [], _, _, .nil => .nil
  | _ :: _, _, h, .cons p t => by
    simp only [safeFs, Bool.and_eq_true] at h
    exact .cons (Dp.cut c h.1 p) (DpF.cut c h.2 t)
end
def frzAll (δ : DE) : DE := δ.map fun s => s.map fun r => .fr r.d
def hasDict (δ : DE) : Bool := δ.any fun s => match s with
  | some (.od _ _) => true
  | _ => false
def fView (f : DE → R RV) (δ : DE) : R RV := match f (frzAll δ) with
  | .ok (.fr d) => if safeD (hasDict δ) d then .ok (.fr d) else .stuck
  | .ok (.ol ds) => if safeDs (hasDict δ) ds then .ok (.ol ds) else .stuck
  | _ => .stuck
section
variable {X : Cx} {H0 G0 : Hp} {W : WX}
/-- an address that a slot owns -/
def OwnAt (σ : L2.St) (δ : DE) (a : Addr) : Prop := ∃ (i : Nat) (r : RV), δ[i]? = some (some r) ∧ r.own = true ∧ σ[i]? = some (some (.ref a))
open Classical in
noncomputable def viewG (σ : L2.St) (δ : DE) (H G : Hp) : Hp := fun b => if OwnAt σ δ b then H b else G b
theorem own_at {K : PySem.W.Frag} {mg : Str → Option Value} {H G : Hp} {σ : L2.St} {δ : DE} (sl : Sl K mg H0 H G σ δ) {a : Addr} (o : OwnAt σ δ a) : G a = none ∧ H0 a = none ∧ ((∃ xs, H a = some (.lst xs)) ∨ (hasDict δ = true ∧ ((∃ xs, H a = some (.dK xs)) ∨ ∃ xs, H a = some (.dT xs)))) := by
  obtain ⟨i, r, e, ow, es⟩ := o
  obtain ⟨v, e2, p⟩ := sl.at_ i r e
  rw [es] at e2; cases e2
  have hd : ∀ t kvs, r = .od t kvs → hasDict δ = true := fun t kvs z => by
    subst z
    unfold hasDict
    rw [List.any_eq_true]
    exact ⟨_, List.mem_of_getElem? e, rfl⟩
  cases r with
  | fr d => cases ow
  | ol ds => obtain ⟨b, xs, eb, h1, h2, h3, _⟩ := p; cases eb; exact ⟨h2, h3, .inl ⟨_, h1⟩⟩
  | od t ds =>
    cases t
    · obtain ⟨b, xs, eb, h1, h2, h3, _⟩ := p; cases eb; exact ⟨h2, h3, .inr ⟨hd _ _ rfl, .inl ⟨_, h1⟩⟩⟩
    · obtain ⟨b, xs, eb, h1, h2, h3, _⟩ := p; cases eb; exact ⟨h2, h3, .inr ⟨hd _ _ rfl, .inr ⟨_, h1⟩⟩⟩
theorem view_gg {K : PySem.W.Frag} {mg : Str → Option Value} {H G : Hp} {σ : L2.St} {δ : DE} (sl : Sl K mg H0 H G σ δ) : Same G (viewG σ δ H G) := fun b o e => by
  unfold viewG
  split
  · rename_i ob
    rw [(own_at sl ob).1] at e; cases e
  · exact e
theorem view_gh {K : PySem.W.Frag} {mg : Str → Option Value} {H G : Hp} {σ : L2.St} {δ : DE} (s : Same G H) (sl : Sl K mg H0 H G σ δ) : Same (viewG σ δ H G) H := fun b o e => by
  unfold viewG at e
  split at e
  · exact e
  · exact s _ _ e
theorem view_sl {K : PySem.W.Frag} {mg : Str → Option Value} {H G : Hp} {σ : L2.St} {δ : DE} (sl : Sl K mg H0 H G σ δ) : Sl K mg H0 H (viewG σ δ H G) σ (frzAll δ) := by
  have fr : ∀ (i : Nat) r, (frzAll δ)[i]? = some (some r) → ∃ r0, δ[i]? = some (some r0) ∧ r = .fr r0.d := fun i r e => by
    unfold frzAll at e
    rw [List.getElem?_map] at e
    cases h : δ[i]? with
    | none => rw [h] at e; cases e
    | some s =>
      rw [h] at e
      cases s with
      | none => cases e
      | some r0 => cases e; exact ⟨r0, rfl, rfl⟩
  refine ⟨by unfold frzAll; rw [List.length_map]; exact sl.len, fun i r e => ?_, fun i j r r' v e o => ?_⟩
  · obtain ⟨r0, e0, rfl⟩ := fr i r e
    obtain ⟨v, ev, p⟩ := sl.at_ i r0 e0
    refine ⟨v, ev, ?_⟩
    have s := view_gg sl
    have at_ : ∀ a, r0.own = true → v = .ref a → viewG σ δ H G a = H a := fun a ow z => by
      unfold viewG
      rw [if_pos ⟨i, r0, e0, ow, by rw [ev, z]⟩]
    cases r0 with
    | fr d => exact Dp.mono s p
    | ol ds => obtain ⟨b, xs, eb, h1, h2, h3, h4⟩ := p; subst eb; exact .lst (.inl ((at_ b rfl rfl).trans h1)) (h4.mono s)
    | od t ds =>
      cases t
      · obtain ⟨b, xs, eb, h1, h2, h3, h4⟩ := p; subst eb; exact .dk ((at_ b rfl rfl).trans h1) (h4.mono s)
      · obtain ⟨b, xs, eb, h1, h2, h3, h4⟩ := p; subst eb; exact .dt ((at_ b rfl rfl).trans h1) (h4.mono s)
  · obtain ⟨r0, _, rfl⟩ := fr i r e
    cases o
open Classical in
theorem view_back {K : PySem.W.Frag} {mg : Str → Option Value} {H G H' G2 : Hp} {σ : L2.St} {δ : DE} (s : Same G H) (sl : Sl K mg H0 H G σ δ) (g : Gr H (viewG σ δ H G) H' G2) :
    ∃ G', Gr H G H' G' ∧ Cut (hasDict δ) G2 G' ∧ ∀ b, G2 b = none → G' b = none := by
  have ownH : ∀ b, OwnAt σ δ b → H b ≠ none := fun b o => by
    rcases (own_at sl o).2.2 with ⟨_, h⟩ | ⟨_, ⟨_, h⟩ | ⟨_, h⟩⟩ <;> rw [h] <;> exact fun z => nomatch z
  refine ⟨fun b => if OwnAt σ δ b then none else G2 b, ⟨g.hh, fun b o e => ?_, fun b o e => ?_, fun b hb => ?_⟩, ⟨fun a o e h1 h2 h3 => ?_⟩, fun b e => ?_⟩
  · have nb : ¬ OwnAt σ δ b := fun z => by rw [(own_at sl z).1] at e; cases e
    simp only [if_neg nb]
    refine g.gg _ _ ?_
    unfold viewG
    rw [if_neg nb]
    exact e
  · by_cases ob : OwnAt σ δ b
    · simp only [if_pos ob] at e; cases e
    · simp only [if_neg ob] at e
      exact g.gh _ _ e
  · by_cases ob : OwnAt σ δ b
    · simp only [if_pos ob]
      exact (own_at sl ob).1.symm
    · simp only [if_neg ob]
      rw [g.old b hb]
      unfold viewG
      rw [if_neg ob]
  · by_cases ob : OwnAt σ δ a
    · exfalso
      have e2 : G2 a = H a := by
        rw [g.old a (ownH a ob)]
        unfold viewG
        rw [if_pos ob]
      rw [e] at e2
      rcases (own_at sl ob).2.2 with ⟨xs, h⟩ | ⟨hd, ⟨xs, h⟩ | ⟨xs, h⟩⟩
      · rw [h] at e2; cases e2; exact h1 xs rfl
      · rw [h] at e2; cases e2; exact h2 hd xs rfl
      · rw [h] at e2; cases e2; exact h3 hd xs rfl
    · simp only [if_neg ob]
      exact e
  · by_cases ob : OwnAt σ δ b
    · simp only [if_pos ob]
    · simp only [if_neg ob]; exact e
theorem ed_view {e : Expr} {f : DE → R RV} (he : Ed X H0 W e f) : Ed X H0 W e (fView f) := by
  refine PE.imp he fun σ H Q h => ?_
  obtain ⟨G, δ, s, sl, h⟩ := h
  refine ⟨viewG σ δ H G, frzAll δ, view_gh s sl, view_sl sl, ?_⟩
  unfold fView at h
  cases hf : f (frzAll δ) with
  | ok r =>
    rw [hf] at h
    intro v H1 G1 g1 p1
    obtain ⟨G', g', c, nn⟩ := view_back s sl g1
    cases r with
    | fr d =>
      simp only at h
      by_cases hs : safeD (hasDict δ) d = true
      · rw [if_pos hs] at h
        exact h v H1 G' g' (Dp.cut c hs p1)
      · rw [if_neg hs] at h; exact h.elim
    | ol ds =>
      simp only at h
      by_cases hs : safeDs (hasDict δ) ds = true
      · rw [if_pos hs] at h
        obtain ⟨a, xs, rfl, h1, h2, h3, h4⟩ := p1
        exact h _ H1 G' g' ⟨a, xs, rfl, h1, nn _ h2, h3, DpAll.cut c hs h4⟩
      · rw [if_neg hs] at h; exact h.elim
    | od t ds => exact h.elim
  | ex c fs => rw [hf] at h; exact h.elim
  | stuck => rw [hf] at h; exact h.elim
/-- .. as a test -/
def bView (f : DE → R Bool) (δ : DE) : R Bool := match f (frzAll δ) with
  | .ok b => .ok b
  | _ => .stuck
theorem td_view {e : Expr} {f : DE → R Bool} (he : Td X H0 W e f) : Td X H0 W e (bView f) := by
  refine PT.imp he fun σ H Q h => ?_
  obtain ⟨G, δ, s, sl, h⟩ := h
  refine ⟨viewG σ δ H G, frzAll δ, view_gh s sl, view_sl sl, ?_⟩
  unfold bView at h
  cases hf : f (frzAll δ) with
  | ok r =>
    rw [hf] at h
    intro H1 G1 g1
    obtain ⟨G', g', c, nn⟩ := view_back s sl g1
    exact h H1 G' g'
  | ex c fs => rw [hf] at h; exact h.elim
  | stuck => rw [hf] at h; exact h.elim

/-! ### join -/
theorem join_ok {a : Str} (ha : a.cps.all (· < 0x110000) = true) : ∀ {ys : List Str}, (∀ y ∈ ys, y.cps.all (· < 0x110000) = true) → (Str.join a ys).cps.all (· < 0x110000) = true
  | [], _ => by show (Str.mk #[]).cps.all _ = true; simp
  | [x], h => h x List.mem_cons_self
  | x :: y :: r, h => str_app (str_app (h x List.mem_cons_self) ha) (join_ok ha fun z hz => h z (List.mem_cons_of_mem _ hz))
def dJn (a : Str) (ds : List D) : R RV := match strsOf ds with
  | some ys => if (ys.map (·.length)).sum + ys.length * a.length ≤ SZ then okd (.str (Str.join a ys)) else .stuck
  | none => .stuck
def dJoin2 : D → D → R RV
  | .str a, .lst ds => dJn a ds
  | .str a, .tup ds => dJn a ds
  | _, _ => .stuck
theorem sz_le2 {n : Nat} (h : n ≤ SZ) : n ≤ 16777216 := Nat.le_trans h (by decide)
def isStrD : D → Bool
  | .str _ => true
  | _ => false
/-- a method with one argument: the receiver is looked at first -/
def fM1 (chk : D → Bool) (g : D → D → R RV) (fo fe : DE → R RV) (δ : DE) : R RV := fo δ >>= fun x => if chk x.d = true then fe δ >>= fun y => g x.d y.d else .stuck
theorem m1_core {K : PySem.W.Frag} {mg : Str → Option Value} {chk : D → Bool} {g : D → D → R RV} {fo fe : DE → R RV} {σ : L2.St} {H : Hp} {Q : VK} {r : V → V → Hp → VK → Prop} {C : V → Hp → Prop} (h : tE K mg H0 W (fM1 chk g fo fe) σ H Q)
    (hC : ∀ v d H1 G1, Same G1 H1 → Dp K mg G1 v d → chk d = true → C v H1)
    (hr : ∀ v u d e H1 G1, Same G1 H1 → Dp K mg G1 v d → Dp K mg G1 u e → chk d = true → post K mg H1 G1 (fun c d H' => W c d σ H') Q (g d e) → r v u H1 Q) :
    tE K mg H0 W fo σ H fun x H1 => C x H1 ∧ tE K mg H0 W fe σ H1 fun y H2 => r x y H2 Q := by
  obtain ⟨G, δ, s, sl, h⟩ := h
  refine ⟨G, δ, s, sl, post_bind (f := fun d => if chk d = true then fe δ >>= fun y => g d y.d else .stuck) h fun v d H1 G1 g1 p1 h1 => ?_⟩
  by_cases c : chk d = true
  · rw [if_pos c] at h1
    refine ⟨hC v d H1 G1 g1.gh p1 c, G1, δ, g1.gh, sl.mono g1, post_bind (f := fun y => g d y) h1 fun u e H2 G2 g2 p2 h2 => ?_⟩
    exact hr v u d e H2 G2 g2.gh (p1.mono g2.gg) p2 c h2
  · rw [if_neg c] at h1; exact h1.elim
theorem str_of_chk {K : PySem.W.Frag} {mg : Str → Option Value} {G : Hp} {v : V} {d : D} (p : Dp K mg G v d) (c : isStrD d = true) : ∃ a, v = .str a ∧ d = .str a ∧ a.cps.all (· < 0x110000) = true := by
  cases p <;> first | (cases c; done) | exact ⟨_, rfl, rfl, by assumption⟩
theorem ed_join {o e : Expr} {fo fe : DE → R RV} {apos pos : Pos} (ho : Ed X H0 W o fo) (he : Ed X H0 W e fe) (hs : starEach [e] X.env = [(false, eval e X.env)] := by rfl) (hbase : attributeBase o "join" X.env (eval o X.env) = eval o X.env := by rfl) (hline : (apos.endLine == pos.line) = true := by rfl) :
    Ed X H0 W (.Call (.Attribute o "join" apos) [e] [] pos) (fM1 isStrD dJoin2 fo fe) := by
  refine PE.imp (pe_join ho he hs hbase hline) fun σ H Q h => ?_
  refine m1_core (C := fun x _ => ∃ a, x = .str a) (r := fun x y H Q => (fun x xs H Q => ∃ a p, ∃ ys : List Str, x = .str a ∧ xs = [.ref p] ∧ (SqL X.K H p (ys.map V.str) ∨ SqT X.K H p (ys.map V.str)) ∧
      (ys.map (·.length)).sum + ys.length * a.length ≤ 16777216 ∧ Q (.str (Txt.join a ys)) H) x [y] H Q) h (fun v d H1 G1 s p c => ?_) fun v u d e H1 G1 s p q c h2 => ?_
  · obtain ⟨a, e1, _⟩ := str_of_chk p c
    exact ⟨a, e1⟩
  · obtain ⟨a, rfl, rfl, ha⟩ := str_of_chk p c
    cases q with
    | lst r q =>
      simp only [dJoin2, dJn] at h2
      split at h2
      · rename_i ys ey
        obtain ⟨e1, e2⟩ := dp_strs q ey
        subst e1
        by_cases c : (ys.map (·.length)).sum + ys.length * a.length ≤ SZ
        · rw [if_pos c] at h2
          exact ⟨a, _, ys, rfl, rfl, .inl (.inl (same_rd s r)), sz_le2 c, by rw [TL.join_eq]; exact h2 _ H1 G1 (.refl s) (.str _ (join_ok ha e2))⟩
        · rw [if_neg c] at h2; exact h2.elim
      · exact h2.elim
    | tup r q =>
      simp only [dJoin2, dJn] at h2
      split at h2
      · rename_i ys ey
        obtain ⟨e1, e2⟩ := dp_strs q ey
        subst e1
        by_cases c : (ys.map (·.length)).sum + ys.length * a.length ≤ SZ
        · rw [if_pos c] at h2
          exact ⟨a, _, ys, rfl, rfl, .inr (same_t s r), sz_le2 c, by rw [TL.join_eq]; exact h2 _ H1 G1 (.refl s) (.str _ (join_ok ha e2))⟩
        · rw [if_neg c] at h2; exact h2.elim
      · exact h2.elim
    | _ => exact h2.elim

/-! ### an own list is changed -/
/-- x.m(..) with x an own list in slot i -/
def sOwn (i : Nat) (g : List D → List D → Option (List D)) (f : DE → R (List D)) (δ : DE) : SR := match δ[i]? with
  | some (some (.ol ds)) => lift (f δ) δ fun args => (match g ds args with | some es => .nx (δ.set i (some (.ol es))) | none => .stuck)
  | _ => .stuck
theorem lift_coreA {K : PySem.W.Frag} {mg : Str → Option Value} {H G : Hp} {D0 : Ends} {σ : L2.St} {δ : DE} {f : DE → R (List D)} {k : List D → SR} {Q : List V → Hp → Prop} (g : Gr H0 G0 H G) (sl : Sl K mg H0 H G σ δ) (h : postS K mg H0 G0 W G D0 (lift (f δ) δ k))
    (hk : ∀ ds vs H1 G1, Gr H G H1 G1 → Gr H0 G0 H1 G1 → Sl K mg H0 H1 G1 σ δ → DpAll K mg G1 vs ds → postS K mg H0 G0 W G1 D0 (k ds) → Q vs H1) : tA K mg H0 W f σ H Q := by
  refine ⟨G, δ, g.gh, sl, ?_⟩
  cases e : f δ with
  | ok r =>
    rw [e, lift_ok] at h
    intro vs H1 G1 g1 p1
    exact hk r vs H1 G1 g1 (g.trans g1) (sl.mono g1) p1 (h.mono g1.gg)
  | ex c fs =>
    rw [e] at h
    intro cls d H1 G1 g1 x
    exact h cls d σ H1 G1 (g.trans g1) g1.gg (sl.mono g1) x
  | stuck => rw [e] at h; exact h
/-- the list in the slot is replaced -/
theorem own_upd {K : PySem.W.Frag} {mg : Str → Option Value} {H G : Hp} {D0 : Ends} {σ : L2.St} {δ : DE} {i : Nat} {a : Addr} {ds es : List D} {ys : List V} (g : Gr H0 G0 H G) (sl : Sl K mg H0 H G σ δ) (e : δ[i]? = some (some (.ol ds))) (es_ : σ[i]? = some (some (.ref a)))
    (p : DpAll K mg G ys es) (h : postS K mg H0 G0 W G D0 (.nx (δ.set i (some (.ol es))))) : D0.nx σ (upd H a (.lst ys)) := by
  obtain ⟨v, e2, b, xs, eb, h1, h2, h3, h4⟩ := sl.at_ i _ e
  rw [es_] at e2
  cases e2
  cases eb
  exact h σ _ G (g.upd h2 h3) (Same.refl _) (sl.upd e rfl es_ h2 ⟨a, ys, rfl, upd_same, h2, h3, p⟩ rfl)
def gAppend (ds args : List D) : Option (List D) := match args with
  | [d] => if ds.length < SZ then some (ds ++ [d]) else none
  | _ => none
theorem own_core {K : PySem.W.Frag} {mg : Str → Option Value} {H G : Hp} {D0 : Ends} {σ : L2.St} {δ : DE} {i : Nat} {f : DE → R (List D)} {gf : List D → List D → Option (List D)} {r : V → List V → Hp → VK → Prop} {T : String}
    (g : Gr H0 G0 H G) (sl : Sl K mg H0 H G σ δ) (h : postS K mg H0 G0 W G D0 (sOwn i gf f δ)) (hT : T = "list")
    (hr : ∀ a xs ds vs args es H1 G1, H1 a = some (.lst xs) → DpAll K mg G1 xs ds → DpAll K mg G1 vs args → Same G1 H1 → gf ds args = some es → (∀ ys, DpAll K mg G1 ys es → D0.nx σ (upd H1 a (.lst ys))) → r (.ref a) vs H1 (fun _ H2 => D0.nx σ H2)) :
    tBM K T r (tVar i) (tA K mg H0 W f) σ H fun _ H1 => D0.nx σ H1 := by
  subst hT
  unfold sOwn at h
  split at h
  · rename_i ds e1
    obtain ⟨v, es_, a, xs, rfl, h1, h2, h3, h4⟩ := sl.at_ i _ e1
    refine ⟨_, es_, .inl ⟨rfl, xs, .inl (.inl h1)⟩, ?_⟩
    refine lift_coreA g sl h fun args vs H1 G1 g1 g2 sl1 pa hk => ?_
    cases eg : gf ds args with
    | none => rw [eg] at hk; exact hk.elim
    | some es =>
      rw [eg] at hk
      obtain ⟨v', e', b, xs', eb, k1, k2, k3, k4⟩ := sl1.at_ i _ e1
      rw [es_] at e'
      cases e'
      cases eb
      exact hr a xs' ds vs args es H1 G1 k1 k4 pa g2.gh eg fun ys py => own_upd g2 sl1 e1 es_ py hk
  · exact h.elim
theorem sd_append (i : Nat) {x : Str} {e : Expr} {fe : DE → R RV} {xp apos cpos pos : Pos} (he : Ed X H0 W e fe) (hN : X.N[i]? = some x := by rfl) (hv : Vis X.env.scope x := by first | exact Or.inl rfl | exact Or.inr (Or.inl rfl) | exact Or.inr (Or.inr rfl))
    (hd : (x == ("__debug__" : Str)) = false := by decide) (hcd : (x == ("__classdict__" : Str)) = false := by decide) (hs1 : starEach (e :: []) X.env = (false, eval e X.env) :: starEach [] X.env := by rfl) (hline : (apos.endLine == cpos.line) = true := by rfl)
    (hs : swapsWith (.Call (.Attribute (.Name x xp) "append" apos) [e] [] cpos) none pos.line X.env = pure false := by rfl)
    (hfew : ((backTo cpos (starEach (e :: []) X.env)).all (fun x => !x.1) && (backToKw cpos (keywordEach [] X.env)).all (fun x => x.1.isSome)
      && decide ((e :: []).length + ([] : List Keyword).length + (if ([] : List Keyword).isEmpty then 0 else 1) < 30)) = true := by rfl) :
    Sd X H0 G0 W (.Expr (.Call (.Attribute (.Name x xp) "append" apos) [e] [] cpos) pos) (sOwn i gAppend (aCons fe aNil)) := by
  refine PS.imp (ps_expr (pe_bm PySem.F.plainAttrs_list PySem.F.slot_list_append PySem.F.type_list_append mt_append (pe_var hN hv hd hcd) (ad_cons he ad_nil hs1) (hs := hs1) (hline := hline) (hfew := hfew)) hs) fun Dn σ H h => ?_
  obtain ⟨G, δ, g, sl, h⟩ := h
  refine own_core g sl h rfl fun a xs ds vs args es H1 G1 hH px pa sg eg k => ?_
  unfold gAppend at eg
  split at eg
  · rename_i d
    split at eg
    · rename_i hz
      cases eg
      cases pa with
      | cons p t =>
        cases t
        exact ⟨a, xs, _, rfl, rfl, hH, by rw [px.len]; exact sz_lt (Nat.le_of_lt hz), k _ (px.append (.cons p .nil))⟩
    · cases eg
  · cases eg
def gInsert (ds args : List D) : Option (List D) := match args with
  | [.int i, d] => if ds.length < SZ ∧ 0 ≤ i ∧ i < 2 ^ 63 then some (ds.take i.toNat ++ [d] ++ ds.drop i.toNat) else none
  | _ => none
theorem sd_insert (i : Nat) {x : Str} {e e2 : Expr} {fe fe2 : DE → R RV} {xp apos cpos pos : Pos} (he : Ed X H0 W e fe) (he2 : Ed X H0 W e2 fe2) (hN : X.N[i]? = some x := by rfl) (hv : Vis X.env.scope x := by first | exact Or.inl rfl | exact Or.inr (Or.inl rfl) | exact Or.inr (Or.inr rfl))
    (hd : (x == ("__debug__" : Str)) = false := by decide) (hcd : (x == ("__classdict__" : Str)) = false := by decide) (hs1 : starEach (e :: [e2]) X.env = (false, eval e X.env) :: starEach [e2] X.env := by rfl) (hs2 : starEach (e2 :: []) X.env = (false, eval e2 X.env) :: starEach [] X.env := by rfl) (hline : (apos.endLine == cpos.line) = true := by rfl)
    (hs : swapsWith (.Call (.Attribute (.Name x xp) "insert" apos) [e, e2] [] cpos) none pos.line X.env = pure false := by rfl)
    (hfew : ((backTo cpos (starEach (e :: [e2]) X.env)).all (fun x => !x.1) && (backToKw cpos (keywordEach [] X.env)).all (fun x => x.1.isSome)
      && decide ((e :: [e2]).length + ([] : List Keyword).length + (if ([] : List Keyword).isEmpty then 0 else 1) < 30)) = true := by rfl)
    (hplain : (backTo cpos (starEach [e2] X.env)).any (·.1) = false := by rfl) :
    Sd X H0 G0 W (.Expr (.Call (.Attribute (.Name x xp) "insert" apos) [e, e2] [] cpos) pos) (sOwn i gInsert (aCons fe (aCons fe2 aNil))) := by
  refine PS.imp (ps_expr (pe_bm PySem.F.plainAttrs_list PySem.F.slot_list_insert PySem.F.type_list_insert mt_insert (pe_var hN hv hd hcd) (ad_cons he (ad_cons he2 ad_nil hs2) hs1) (hs := hs1) (hline := hline) (hfew := hfew) (hplain := hplain)) hs) fun Dn σ H h => ?_
  obtain ⟨G, δ, g, sl, h⟩ := h
  refine own_core g sl h rfl fun a xs ds vs args es H1 G1 hH px pa sg eg k => ?_
  unfold gInsert at eg
  split at eg
  · rename_i n d
    split at eg
    · rename_i hz
      cases eg
      cases pa with
      | cons p t =>
        cases t with
        | cons p2 t2 =>
          cases t2
          cases p
          exact ⟨a, xs, _, _, rfl, rfl, hH, by rw [px.len]; exact sz_lt (Nat.le_of_lt hz.1), hz.2.1, hz.2.2, k _ (((px.take _).append (.cons p2 .nil)).append (px.drop _))⟩
    · cases eg
  · cases eg

/-! ### comprehensions -/
def compL (bd : D → DE → Option DE) (ft : DE → R Bool) (fe : DE → R RV) (δ : DE) : List D → R (List D)
  | [] => .ok []
  | d :: ds => match bd d δ with
    | none => .stuck
    | some δ1 => match ft δ1 with
      | .ok b => if b = true then (match fe δ1 with
          | .ok r => (match compL bd ft fe δ ds with
            | .ok es => .ok (r.d :: es)
            | _ => .stuck)
          | _ => .stuck) else compL bd ft fe δ ds
      | _ => .stuck
def fLc (fi : DE → R (List D)) (vs : List Nat) (bd : D → DE → Option DE) (ft : DE → R Bool) (fe : DE → R RV) (δ : DE) : R RV := fi δ >>= fun ds => match compL bd ft fe (fgtS vs δ) ds with
  | .ok es => if es.length ≤ SZ then .ok (.ol es) else .stuck
  | _ => .stuck
def bYes (_ : DE) : R Bool := .ok true
theorem wipe_at {σ : L2.St} {j : Nat} : ∀ (vs : List Nat), (wipe σ vs)[j]? = if j ∈ vs then (if j < σ.length then some none else none) else σ[j]?
  | [] => by simp [wipe]
  | v :: vs => by
    unfold wipe
    by_cases hj : v = j
    · subst hj
      by_cases hl : v < σ.length
      · rw [List.getElem?_set_self (by rw [wipe_length]; exact hl)]
        simp [hl]
      · rw [List.getElem?_eq_none (by rw [List.length_set, wipe_length]; omega)]
        simp [hl]
    · rw [List.getElem?_set_ne hj, wipe_at vs]
      have : j ≠ v := Ne.symm hj
      simp [this]
theorem wipe_set {σ : L2.St} {i : Nat} {x : Option V} {vs : List Nat} (h : i ∈ vs) : wipe (σ.set i x) vs = wipe σ vs := by
  refine List.ext_getElem? fun j => ?_
  rw [wipe_at, wipe_at, List.length_set]
  by_cases hj : j ∈ vs
  · simp [hj]
  · simp only [hj, if_false]
    rw [List.getElem?_set_ne (fun e => hj (by rw [← e]; exact h))]
theorem wipe_wipe {σ : L2.St} {vs : List Nat} : wipe (wipe σ vs) vs = wipe σ vs := by
  refine List.ext_getElem? fun j => ?_
  rw [wipe_at, wipe_length, wipe_at]
  by_cases hj : j ∈ vs
  · simp [hj]
  · simp only [hj, if_false]
theorem fgt_at {δ : DE} {j : Nat} {r : RV} : ∀ {vs : List Nat}, (fgtS vs δ)[j]? = some (some r) → j ∉ vs ∧ δ[j]? = some (some r) := by
  intro vs
  induction vs generalizing δ with
  | nil => exact fun h => ⟨by simp, h⟩
  | cons v vs ih =>
    intro h
    obtain ⟨h1, h2⟩ := ih (δ := δ.set v none) h
    by_cases hj : v = j
    · subst hj
      by_cases hl : v < δ.length
      · rw [List.getElem?_set_self hl] at h2; cases h2
      · rw [List.getElem?_eq_none (by rw [List.length_set]; omega)] at h2; cases h2
    · rw [List.getElem?_set_ne hj] at h2
      exact ⟨by simp only [List.mem_cons, not_or]; exact ⟨Ne.symm hj, h1⟩, h2⟩
theorem fgt_len {δ : DE} : ∀ (vs : List Nat), (fgtS vs δ).length = δ.length := by
  intro vs
  induction vs generalizing δ with
  | nil => rfl
  | cons v vs ih =>
    show (fgtS vs (δ.set v none)).length = δ.length
    rw [ih, List.length_set]
theorem Sl.wiped {K : PySem.W.Frag} {mg : Str → Option Value} {H G : Hp} {σ : L2.St} {δ : DE} (sl : Sl K mg H0 H G σ δ) (vs : List Nat) : Sl K mg H0 H G (wipe σ vs) (fgtS vs δ) := by
  have e1 : ∀ (j : Nat) (r : RV), (fgtS vs δ)[j]? = some (some r) → (wipe σ vs)[j]? = σ[j]? := fun j r e => by
    rw [wipe_at, if_neg (fgt_at e).1]
  refine ⟨by rw [wipe_length, fgt_len]; exact sl.len, fun j r e => ?_, fun i j r r' v e o e' o' s s' => ?_⟩
  · rw [e1 j r e]
    exact sl.at_ j r (fgt_at e).2
  · rw [e1 i r e] at s
    rw [e1 j r' e'] at s'
    exact sl.dis i j r r' v (fgt_at e).2 o (fgt_at e').2 o' s s'
/-- a block's target -/
structure BG (K : PySem.W.Frag) (mg : Str → Option Value) (g : TG) (bd : D → DE → Option DE) (vs : List Nat) : Prop where
  go : ∀ (H0 H G : Hp) (x : V) (d : D) (σ : L2.St) (δ δ1 : DE) (Q : L2.St → Hp → Prop), Same G H → Sl K mg H0 H G σ δ → Dp K mg G x d → bd d δ = some δ1 → (∀ σ2, Sl K mg H0 H G σ2 δ1 → wipe σ2 vs = wipe σ vs → Q σ2 H) → g x σ H Q
theorem bg_name {K : PySem.W.Frag} {mg : Str → Option Value} {i : Nat} {vs : List Nat} (h : i ∈ vs := by decide) : BG K mg (gName i) (gSet i) vs := ⟨fun H0 H G x d σ δ δ1 Q s sl p e k => by
  cases e
  exact k _ (sl.put (r := .fr d) p fun o => nomatch o) (wipe_set h)⟩
theorem gSets_wipe {K : PySem.W.Frag} {mg : Str → Option Value} {H G : Hp} {vs0 : List Nat} : ∀ {is : List Nat} {vs : List V} {ds : List D} {σ : L2.St} {δ δ' : DE} {Q : L2.St → Hp → Prop}, (∀ i ∈ is, i ∈ vs0) → Sl K mg H0 H G σ δ → DpAll K mg G vs ds → gSets is ds δ = some δ' →
    (∀ σ', Sl K mg H0 H G σ' δ' → wipe σ' vs0 = wipe σ vs0 → Q σ' H) → gNames is vs σ H Q
  | [], _, _, _, _, _, _, hi, sl, .nil, e, k => by
    simp [gSets] at e
    subst e
    exact ⟨rfl, k _ sl rfl⟩
  | i :: is, _, _, σ, δ, δ', Q, hi, sl, .cons (v := v) (vs := vs) (d := d) p t, e, k => by
    refine ⟨v, vs, rfl, ?_⟩
    exact gSets_wipe (σ := σ.set i (some v)) (fun j hj => hi j (List.mem_cons_of_mem _ hj)) (sl.put (r := .fr d) p fun o => nomatch o) t (by simpa [gSets] using e) fun σ' s' w => k σ' s' (w.trans (wipe_set (hi i List.mem_cons_self)))
  | [], _, _, _, _, _, _, _, _, .cons _ _, e, _ => by simp [gSets] at e
  | _ :: _, _, _, _, _, _, _, _, _, .nil, e, _ => by simp [gSets] at e
theorem bg_tup {K : PySem.W.Frag} {mg : Str → Option Value} {is vs : List Nat} (hi : ∀ i ∈ is, i ∈ vs := by decide) : BG K mg (gTup K is.length (gNames is)) (gTupD is) vs := ⟨fun H0 H G x d σ δ δ1 Q s sl p e k => by
  unfold gTupD at e
  cases p with
  | tup q a =>
    rename_i adr xs ds
    by_cases hl : ds.length = is.length
    · simp only [hl, if_true] at e
      exact ⟨_, _, rfl, same_t s q, by rw [a.len, hl], gSets_wipe hi sl a e k⟩
    · simp only [hl, if_false] at e
      cases e
  | _ => cases e⟩
theorem lc_read {K : PySem.W.Frag} {mg : Str → Option Value} {fi : DE → R (List D)} {vs : List Nat} {bd : D → DE → Option DE} {ft : DE → R Bool} {fe : DE → R RV} {g : TG} (bg : BG K mg g bd vs) (σ : L2.St) (H : Hp) (Q : VK) (h : tE K mg H0 W (fLc fi vs bd ft fe) σ H Q) :
    tLc (tI K mg H0 W fi) g (tB K mg H0 (fun _ _ _ _ => False) ft) (tE K mg H0 (fun _ _ _ _ => False) fe) vs σ H Q := by
  obtain ⟨G, δ, s, sl, h⟩ := h
  refine ⟨G, δ, s, sl, ?_⟩
  unfold fLc at h
  cases hf : fi δ with
  | ex c fs => rw [hf, bind_ex] at h; exact h
  | stuck => rw [hf, bind_stuck] at h; exact h
  | ok ds =>
    rw [hf, bind_ok] at h
    cases hc : compL bd ft fe (fgtS vs δ) ds with
    | ex c fs => rw [hc] at h; exact h.elim
    | stuck => rw [hc] at h; exact h.elim
    | ok es0 =>
      rw [hc] at h
      simp only at h
      rcases Nat.lt_or_ge SZ es0.length with hz | hz
      · rw [if_neg (by omega)] at h; exact h.elim
      rw [if_pos hz] at h
      intro J H1 G1 g1 it Dn hDn
      refine ⟨fun i m H' => m = ds.length - i ∧ i ≤ ds.length ∧ ∃ G' acc es rs, Gr H G H' G' ∧ Same G1 G' ∧ H' Dn = some (.lst acc) ∧ G' Dn = none ∧ DpAll K mg G' acc es ∧ compL bd ft fe (fgtS vs δ) (ds.drop i) = .ok rs ∧ es ++ rs = es0, ?_, ?_⟩
      · refine ⟨_, rfl, Nat.zero_le _, G1, [], [], es0, g1.trans (.mut g1.gh hDn), Same.refl _, upd_same, ?_, .nil, hc, rfl⟩
        cases e : G1 Dn with
        | none => rfl
        | some o => have := g1.gh _ _ e; rw [hDn] at this; cases this
      · rintro i m H' ⟨rfl, hi, G', acc, es, rs, g', s', hD, hG, pa, hr, he⟩
        obtain ⟨it1, it2⟩ := it G' H' s' g'.gh
        rcases Nat.lt_or_ge i ds.length with hlt | hge
        · right
          obtain ⟨d, ed⟩ : ∃ d, ds[i]? = some d := ⟨ds[i], List.getElem?_eq_getElem hlt⟩
          obtain ⟨go, yl⟩ := it1 i d ed
          have edr : ds.drop i = d :: ds.drop (i + 1) := by
            rw [List.drop_eq_getElem_cons hlt]
            rw [List.getElem?_eq_getElem hlt] at ed
            cases ed
            rfl
          rw [edr] at hr
          unfold compL at hr
          cases eb : bd d (fgtS vs δ) with
          | none => simp only [eb] at hr; cases hr
          | some δ1 =>
            simp only [eb] at hr
            refine ⟨go, fun H2 => ∃ G2 acc2 es2 rs2, Gr H G H2 G2 ∧ Same G1 G2 ∧ H2 Dn = some (.lst acc2) ∧ G2 Dn = none ∧ DpAll K mg G2 acc2 es2 ∧ compL bd ft fe (fgtS vs δ) (ds.drop (i + 1)) = .ok rs2 ∧ es2 ++ rs2 = es0, fun H2 ⟨G2, acc2, es2, rs2, a⟩ => ⟨_, by omega, rfl, hlt, G2, acc2, es2, rs2, a⟩, fun x H2 y => ?_⟩
            obtain ⟨G2, g2, p2⟩ := yl x H2 y
            have k1 : ∀ {Hx Gx : Hp}, Gr H' G' Hx Gx → Hx Dn = some (.lst acc) ∧ Gx Dn = none := fun {Hx Gx} gx => ⟨gx.hh _ _ hD, (gx.old Dn (by rw [hD]; exact fun z => nomatch z)).trans hG⟩
            refine bg.go H0 H2 G2 x d _ _ δ1 _ g2.gh (((sl.mono g').mono g2).wiped vs) p2 eb fun σ2 sl2 w2 => ⟨by rw [w2, wipe_wipe], ?_⟩
            cases et : ft δ1 with
            | ex c fs => simp only [et] at hr; cases hr
            | stuck => simp only [et] at hr; cases hr
            | ok b =>
              simp only [et] at hr
              refine ⟨G2, δ1, g2.gh, sl2, ?_⟩
              rw [et]
              intro H3 G3 g3
              by_cases hb : b = true
              · rw [if_pos hb] at hr ⊢
                cases ee : fe δ1 with
                | ex c fs => simp only [ee] at hr; cases hr
                | stuck => simp only [ee] at hr; cases hr
                | ok r =>
                  simp only [ee] at hr
                  cases er : compL bd ft fe (fgtS vs δ) (ds.drop (i + 1)) with
                  | ex c fs => simp only [er] at hr; cases hr
                  | stuck => simp only [er] at hr; cases hr
                  | ok rs2 =>
                    simp only [er] at hr
                    cases hr
                    refine ⟨G3, δ1, g3.gh, sl2.mono g3, ?_⟩
                    rw [ee]
                    intro v H4 G4 g4 p4
                    obtain ⟨G5, g5, s5, p5, _⟩ := RVp.frz g4 p4
                    have gx : Gr H' G' H4 G5 := g2.trans (g3.trans g5)
                    obtain ⟨q1, q2⟩ := k1 gx
                    refine ⟨acc, q1, ?_, G5, acc ++ [v], es ++ [r.d], rs2, (g'.trans gx).upd q2 (g1.hh.free hDn), s'.trans gx.gg, upd_same, q2, (pa.mono gx.gg).append (.cons p5 .nil), rfl, by rw [List.append_assoc]; exact he⟩
                    rw [pa.len]
                    refine Nat.lt_of_lt_of_le ?_ (sz_le hz)
                    rw [← he, List.length_append, List.length_cons]
                    omega
              · rw [if_neg hb] at hr ⊢
                have gx : Gr H' G' H3 G3 := g2.trans g3
                obtain ⟨q1, q2⟩ := k1 gx
                exact ⟨G3, acc, es, rs, g'.trans gx, s'.trans gx.gg, q1, q2, pa.mono gx.gg, hr, he⟩
        · left
          have e : i = ds.length := by omega
          subst e
          rw [List.drop_length] at hr
          cases hr
          rw [List.append_nil] at he
          subst he
          exact ⟨it2, h _ H' G' g' ⟨Dn, acc, rfl, hD, hG, g1.hh.free hDn, pa⟩⟩
/-- what a block's parts show -/
abbrev Blk (X : Cx) (scope : Scope) (s : Shared) (H : Hp) (C : Addr) (cl : List (Str × Addr)) (fp : List Addr) : Cx := X.blk s H scope (compEnvC scope cl C X.env) fp
def W0 : WX := fun _ _ _ _ => False
theorem ed_lc {elt tg iter : Expr} {ifs : List Expr} {scope : Scope} {own : List (Str × Nat)} {pos : Pos} {fi : DE → R (List D)} {bd : D → DE → Option DE} {ft : DE → R Bool} {fe : DE → R RV} {g : TG} (hc : X.calm = true) (hN : X.N.Nodup) (hi : Id_ X H0 W tg iter fi) (ok : BlkOk X.N X.env.scope scope own) (bg : BG X.K X.mg g bd (own.map (·.2)))
    (hg : ∀ (s : Shared) (H : Hp) (C : Addr) (cl : List (Str × Addr)) (fp : List Addr), PG (Blk X scope s H C cl fp) tg g) (ht : ∀ (s : Shared) (H : Hp) (C : Addr) (cl : List (Str × Addr)) (fp : List Addr), PTs (Blk X scope s H C cl fp) ifs (tB X.K X.mg H0 W0 ft))
    (he : ∀ (s : Shared) (H : Hp) (C : Addr) (cl : List (Str × Addr)) (fp : List Addr), Ed (Blk X scope s H C cl fp) H0 W0 elt fe) (hs : ∀ x, foldedSetIterable iter X.env x = pure x := by intro _; rfl) :
    Ed X H0 W (.ListComp elt [⟨tg, iter, ifs, 0⟩] scope pos) (fLc fi (own.map (·.2)) bd ft fe) :=
  PE.imp (pe_lc hc hN hi ok hg ht he hs) fun σ H Q h => lc_read bg σ H Q h
theorem sd_setLc (i : Nat) {y : Str} {py : Pos} {elt tg iter : Expr} {ifs : List Expr} {scope : Scope} {own : List (Str × Nat)} {pos spos : Pos} {fi : DE → R (List D)} {bd : D → DE → Option DE} {ft : DE → R Bool} {fe : DE → R RV} {g : TG} (hc : X.calm = true) (hN : X.N.Nodup) (hi : Id_ X H0 W tg iter fi) (ok : BlkOk X.N X.env.scope scope own) (bg : BG X.K X.mg g bd (own.map (·.2)))
    (hg : ∀ (s : Shared) (H : Hp) (C : Addr) (cl : List (Str × Addr)) (fp : List Addr), PG (Blk X scope s H C cl fp) tg g) (ht : ∀ (s : Shared) (H : Hp) (C : Addr) (cl : List (Str × Addr)) (fp : List Addr), PTs (Blk X scope s H C cl fp) ifs (tB X.K X.mg H0 W0 ft))
    (he : ∀ (s : Shared) (H : Hp) (C : Addr) (cl : List (Str × Addr)) (fp : List Addr), Ed (Blk X scope s H C cl fp) H0 W0 elt fe) (hy : X.N[i]? = some y := by rfl) (hyl : X.env.scope.names.lookup y = some .local := by rfl)
    (hsw : swapsWith (.ListComp elt [⟨tg, iter, ifs, 0⟩] scope pos) (some (.Name y py)) spos.line X.env = pure true := by exact sw_true rfl rfl rfl (by decide +kernel)) (hs : ∀ x, foldedSetIterable iter X.env x = pure x := by intro _; rfl) :
    Sd X H0 G0 W (.Assign [.Name y py] (.ListComp elt [⟨tg, iter, ifs, 0⟩] scope pos) spos) (sSet i (fLc fi (own.map (·.2)) bd ft fe)) := by
  refine PS.imp (ps_setLc (te := tE X.K X.mg H0 W0 fe) hc hN hy hyl hsw hi ok hg ht he hs) fun D σ H h => ?_
  obtain ⟨G, δ, gr, sl, h⟩ := h
  refine lc_read bg σ H _ (lift_core gr sl h fun r v H1 G1 e1 g1 g2 sl1 p1 h1 => ?_)
  exact h1 _ H1 G1 g2 (Same.refl _) (Sl.set gr.hh sl g1 p1)
end
end DL


set_option maxRecDepth 100000
set_option maxHeartbeats 4000000
namespace DL
open PySem PySem.Spec PyProof.Rows L2

section
variable {X : Cx} {H0 G0 : Hp} {W : WX}
/-! ### names from a tuple or a list -/
def gTL (K : PySem.W.Frag) (n : Nat) (t : TGs) : TG := fun v σ H Q => gTup K n t v σ H Q ∨ gUnl K n t v σ H Q
theorem pg_tl {es : List Expr} {k : Nat} {pos : Pos} {t : TGs} {n : Nat} (hc : X.calm = true) (h : PGs X es t) (hn : (assignEach es X.env).length = n := by rfl) (hst : (assignEach es X.env).findIdx? (·.1) = none := by rfl) : PG X (.Tuple es k pos) (gTL X.K n t) :=
  ⟨fun pins s σ H v u Q I r hw => hw.elim (fun q => (pg_tup hc h hn hst).run pins s σ H v u Q I r q) fun q => (pg_unl hc h hn hst).run pins s σ H v u Q I r q⟩
def gTLD (is : List Nat) (d : D) (δ : DE) : Option DE := match d with
  | .tup ds => if ds.length = is.length then gSets is ds δ else none
  | .lst ds => if ds.length = is.length then gSets is ds δ else none
  | _ => none
theorem gd_tl {is : List Nat} {es : List Expr} {k : Nat} {pos : Pos} (hc : X.calm = true) (h : PGs X es (gNames is)) (hn : (assignEach es X.env).length = is.length := by rfl) (hst : (assignEach es X.env).findIdx? (·.1) = none := by rfl) : Gd X H0 G0 (.Tuple es k pos) (gTLD is) := by
  refine ⟨fun pins s σ H v u Q I r h' => (pg_tl hc h hn hst).run pins s σ H v u Q I r ?_⟩
  obtain ⟨G, δ, d, g, sl, p, h'⟩ := h'
  unfold gTLD at h'
  cases p with
  | tup q a =>
    rename_i adr xs ds
    by_cases hl : ds.length = is.length
    · simp only [hl, if_true] at h'
      cases e : gSets is ds δ with
      | some δ' =>
        simp only [e] at h'
        exact .inl ⟨_, _, rfl, same_t g.gh q, by rw [a.len, hl], gSets_ok g sl a e fun σ' sl' => h' σ' H G g (Same.refl _) sl'⟩
      | none => simp only [e] at h'
    · simp only [hl, if_false] at h'
  | lst q a =>
    rename_i adr xs ds
    by_cases hl : ds.length = is.length
    · simp only [hl, if_true] at h'
      cases e : gSets is ds δ with
      | some δ' =>
        simp only [e] at h'
        exact .inr ⟨_, _, rfl, .inl (same_rd g.gh q), by rw [a.len, hl], gSets_ok g sl a e fun σ' sl' => h' σ' H G g (Same.refl _) sl'⟩
      | none => simp only [e] at h'
    · simp only [hl, if_false] at h'
  | _ => exact h'.elim
theorem bg_tl {K : PySem.W.Frag} {mg : Str → Option Value} {is vs : List Nat} (hi : ∀ i ∈ is, i ∈ vs := by decide) : BG K mg (gTL K is.length (gNames is)) (gTLD is) vs := ⟨fun H0 H G x d σ δ δ1 Q s sl p e k => by
  unfold gTLD at e
  cases p with
  | tup q a =>
    rename_i adr xs ds
    by_cases hl : ds.length = is.length
    · simp only [hl, if_true] at e
      exact .inl ⟨_, _, rfl, same_t s q, by rw [a.len, hl], gSets_wipe hi sl a e k⟩
    · simp only [hl, if_false] at e
      cases e
  | lst q a =>
    rename_i adr xs ds
    by_cases hl : ds.length = is.length
    · simp only [hl, if_true] at e
      exact .inr ⟨_, _, rfl, .inl (same_rd s q), by rw [a.len, hl], gSets_wipe hi sl a e k⟩
    · simp only [hl, if_false] at e
      cases e
  | _ => cases e⟩
/-! ### what is not reached -/
theorem sd_no {st : Stmt} : Sd X H0 G0 W st (fun _ => .stuck) := ⟨fun pins s σ H D I h => by
  obtain ⟨G, δ, g, sl, h⟩ := h
  exact h.elim⟩
theorem bd_no {st : List Stmt} : Bd X H0 G0 W st (fun _ => .stuck) := ⟨fun pins s σ H D I h => by
  obtain ⟨G, δ, g, sl, h⟩ := h
  exact h.elim⟩
/-! ### a call with keywords -/
abbrev Kd (X : Cx) (H0 : Hp) (W : WX) (ks : List Keyword) (f : DE → R (List D)) : Prop := PK X ks (tA X.K X.mg H0 W f)
theorem PK.imp {ks : List Keyword} {t t' : TA} (h : PK X ks t) (w : ∀ σ H Q, t' σ H Q → t σ H Q) : PK X ks t' := ⟨fun pos pins s σ H Q I q => h.run pos pins s σ H Q I (w σ H Q q)⟩
theorem acons_core {f : DE → R RV} {fs : DE → R (List D)} {K : PySem.W.Frag} {mg : Str → Option Value} (σ : L2.St) (H : Hp) (Q : List V → Hp → Prop) (h : tA K mg H0 W (aCons f fs) σ H Q) : tCons (tE K mg H0 W f) (tA K mg H0 W fs) σ H Q := by
  obtain ⟨G, δ, s, sl, h⟩ := h
  refine ⟨G, δ, s, sl, ?_⟩
  unfold aCons at h
  cases hf : f δ with
  | ok r =>
    rw [hf, bind_ok] at h
    intro v H1 G1 g1 p1
    obtain ⟨G2, g2, _, p2, _⟩ := RVp.frz g1 p1
    refine ⟨G2, δ, g2.gh, sl.mono g2, ?_⟩
    cases hg : fs δ with
    | ok ds =>
      rw [hg, bind_ok] at h
      intro vs H3 G3 g3 p3
      exact h (v :: vs) H3 G3 (g2.trans g3) (.cons (p2.mono g3.gg) p3)
    | ex c fs' =>
      rw [hg, bind_ex] at h
      exact postX.mono g2 h
    | stuck =>
      rw [hg, bind_stuck] at h
      exact h
  | ex c fs' => rw [hf, bind_ex] at h; exact h
  | stuck => rw [hf, bind_stuck] at h; exact h
theorem kd_nil : Kd X H0 W [] aNil := PK.imp pk_nil fun σ H Q h => by
  obtain ⟨G, δ, s, sl, h⟩ := h
  exact h [] H G (.refl s) .nil
theorem kd_cons {e : Expr} {ks : List Keyword} {nm : Option Str} {kpos : Pos} {f : DE → R RV} {fs : DE → R (List D)} (he : Ed X H0 W e f) (hr : Kd X H0 W ks fs) : Kd X H0 W (⟨nm, e, kpos⟩ :: ks) (aCons f fs) :=
  PK.imp (pk_cons he hr) fun σ H Q h => acons_core σ H Q h
theorem dpall_split {K : PySem.W.Frag} {mg : Str → Option Value} {G : Hp} {vs : List V} : ∀ {ds es : List D}, DpAll K mg G vs (ds ++ es) → ∃ xs ys, vs = xs ++ ys ∧ DpAll K mg G xs ds ∧ DpAll K mg G ys es
  | [], es, h => ⟨[], vs, rfl, .nil, h⟩
  | d :: ds, es, h => by
    cases h with
    | cons p t =>
      obtain ⟨xs, ys, e, a, b⟩ := dpall_split t
      exact ⟨_ :: xs, ys, by rw [e]; rfl, .cons p a, b⟩
/-- a def of the text, called with n positional arguments and keywords ks -/
structure CalK (P : Program) (w : World) (K : PySem.W.Frag) (mg : Str → Option Value) (base : Heap) (k : Nat) (x : Str) (n : Nat) (ks : List Str) (pm : List D → List D → List D) (g : List D → R RV) : Prop where
  ex : ∃ (f : Addr) (fd : FuncData) (ps : List Str) (gg : List Value → List Value → List Value) (gV : List V → List V → List V), FnOk P w K mg base (L2N.CX P w) k f fd ps (spD K mg g) ∧ mg x = some (.ref f) ∧ PySem.W.keepIn K (.ref f) = true ∧ KBn K fd ps n ks gg gV ∧
    ∀ (G : Hp) (vs zs : List V) (ds es : List D), ds.length = n → es.length = ks.length → DpAll K mg G vs ds → DpAll K mg G zs es → DpAll K mg G (gV vs zs) (pm ds es)
theorem run_fnKS {CX : CXT} {k n : Nat} {f : Addr} {fd : FuncData} {ps ks : List Str} {sp : Sp} {E : L2.St → XK} {g : List Value → List Value → List Value} {gV : List V → List V → List V} {pins : List (Addr × Obj)} {σ : L2.St} {H : Hp} {s : Shared} {Q : VK} {us ws : List Value} {vs zs : List V} (F : FnOk X.prog X.w X.K X.mg X.base CX k f fd ps sp) (hr : Room k X.A) (hb : KBn X.K fd ps n ks g gV) (hx : PassesAt CX X σ (E σ))
    (I : Inv X pins σ H s) (r : Vals vs us) (rz : Vals zs ws) (l1 : vs.length = n) (l2 : zs.length = ks.length) (h : sp (gV vs zs) H Q (E σ)) : wpAny (model X.prog X.w) X.A (call (.ref f) us (ks.zip ws)) (EP X pins σ Q) X.xe s := by
  have r2 := hb.rel r rz
  refine wpAny_call (codeAny_mono (F.run X.A X.stack s H ⟨us, ks.zip ws⟩ (g us ws) (gV vs zs) Q (E σ) hr I.env0 (hb.to s us ws I.kIn (r.length.symm.trans l1) (rz.length.symm.trans l2)) r2 h) fun r s' hq => ?_)
  cases r with
  | error e => exact hx pins H s e s' I hq
  | ok fl =>
    cases fl with
    | ret u => exact I.after hq
    | next => exact False.elim hq
    | brk => exact False.elim hq
    | cont => exact False.elim hq
/-- f(k = v, ..) -/
def fCallK (n m : Nat) (pm : List D → List D → List D) (g : List D → R RV) (fa fk : DE → R (List D)) (δ : DE) : R RV := fa δ >>= fun ds => fk δ >>= fun es => if ds.length = n ∧ es.length = m then g (pm ds es) else .stuck
theorem ed_callK0 {k j : Nat} {A0 : Around} {x : Str} {ks : List Str} {pm : List D → List D → List D} {g : List D → R RV} {fk : DE → R (List D)} {p pos : Pos} {kws : List Keyword} (c : CalK X.prog X.w X.K X.mg X.base k x 0 ks pm g) (hr : Room j A0) (hk : k ≤ j) (tk : L2N.Takes X W) (hkw : Kd X H0 W kws fk) (hA : X.A = A0 := by rfl) (hg : Gl X x := by rfl)
    (hall : (backToKw pos (keywordEach kws X.env)).all (·.1.isSome) = true := by rfl) (hks : (backToKw pos (keywordEach kws X.env)).filterMap (·.1) = ks := by rfl) (hdb : (x == ("__debug__" : Str)) = false := by decide)
    (hpl : ((backTo pos (starEach [] X.env)).any (·.1) || (backToKw pos (keywordEach kws X.env)).any (·.1.isNone)) = false := by rfl) :
    Ed X H0 W (.Call (.Name x p) [] kws pos) (fCallK 0 ks.length pm g aNil fk) := by
  obtain ⟨f, fd, ps, gg, gV, F, hm, kp, b, hp⟩ := c.ex
  subst hA
  refine ⟨fun pins s σ H Q I h => ?_⟩
  refine wpAny_Call_Name_kw (ld_glob I hg hm ?_ hdb)
  refine PySem.W.callWith_KW0 (h₀ := X.base) I.ok.mod.kin kp hall ?_ hpl
  obtain ⟨G, δ, sg, sl, h⟩ := h
  unfold fCallK aNil at h
  rw [bind_ok] at h
  have go : tA X.K X.mg H0 W fk σ H (fun zs H2 => zs.length = ks.length ∧ spD X.K X.mg g (gV [] zs) H2 Q (WE W σ)) := by
    refine ⟨G, δ, sg, sl, ?_⟩
    cases hf : fk δ with
    | ok es =>
      rw [hf, bind_ok] at h
      intro zs H1 G1 g1 p1
      by_cases hl : ([] : List D).length = 0 ∧ es.length = ks.length
      · rw [if_pos hl] at h
        refine ⟨p1.len.trans hl.2, G1, pm [] es, g1.gh, hp G1 [] zs [] es rfl hl.2 .nil p1, ?_⟩
        cases hg : g (pm [] es) with
        | ok r =>
          rw [hg] at h
          intro v H2 G2 g2 p2
          exact h v H2 G2 (g1.trans g2) (p2.back g1.hh)
        | ex c fs =>
          rw [hg] at h
          exact postX.mono g1 h
        | stuck => rw [hg] at h; exact h
      · rw [if_neg hl] at h; exact h.elim
    | ex c fs' => rw [hf, bind_ex] at h; exact h
    | stuck => rw [hf, bind_stuck] at h; exact h
  refine thn (hkw.run pos pins s σ H _ I go) fun ws s2 ⟨zs, H2, I2, rz, l2, q2⟩ => ⟨I2.kIn, ?_⟩
  rw [hks]
  exact run_fnKS (us := []) (vs := []) (E := fun σ => WE W σ) F (hr.mono hk) b (L2N.passAt tk σ) I2 .nil rz rfl l2 q2
theorem ed_callK {k j n : Nat} {A0 : Around} {x : Str} {ks : List Str} {pm : List D → List D → List D} {g : List D → R RV} {fa fk : DE → R (List D)} {p pos : Pos} {e : Expr} {es : List Expr} {kws : List Keyword} (c : CalK X.prog X.w X.K X.mg X.base k x n ks pm g) (hr : Room j A0) (hk : k ≤ j) (tk : L2N.Takes X W) (ha : Ad X H0 W (e :: es) fa) (hkw : Kd X H0 W kws fk) (hA : X.A = A0 := by rfl) (hg : Gl X x := by rfl)
    (hall : (backToKw pos (keywordEach kws X.env)).all (·.1.isSome) = true := by rfl) (hks : (backToKw pos (keywordEach kws X.env)).filterMap (·.1) = ks := by rfl) (hdb : (x == ("__debug__" : Str)) = false := by decide)
    (he : starEach (e :: es) X.env = (false, eval e X.env) :: starEach es X.env := by rfl)
    (hpl : ((backTo pos (starEach (e :: es) X.env)).any (·.1) || (backToKw pos (keywordEach kws X.env)).any (·.1.isNone)) = false := by rfl) :
    Ed X H0 W (.Call (.Name x p) (e :: es) kws pos) (fCallK n ks.length pm g fa fk) := by
  obtain ⟨f, fd, ps, gg, gV, F, hm, kp, b, hp⟩ := c.ex
  subst hA
  refine ⟨fun pins s σ H Q I h => ?_⟩
  refine wpAny_Call_Name_kw (ld_glob I hg hm ?_ hdb)
  obtain ⟨G, δ, sg, sl, h⟩ := h
  unfold fCallK at h
  have go : tA X.K X.mg H0 W fa σ H (fun vs H1 => tA X.K X.mg H0 W fk σ H1 (fun zs H2 => vs.length = n ∧ zs.length = ks.length ∧ spD X.K X.mg g (gV vs zs) H2 Q (WE W σ))) := by
    refine ⟨G, δ, sg, sl, ?_⟩
    cases hfa : fa δ with
    | ok ds =>
      rw [hfa, bind_ok] at h
      intro vs H1 G1 g1 p1
      refine ⟨G1, δ, g1.gh, sl.mono g1, ?_⟩
      cases hf : fk δ with
      | ok es =>
        rw [hf, bind_ok] at h
        intro zs H2 G2 g2 p2
        by_cases hl : ds.length = n ∧ es.length = ks.length
        · rw [if_pos hl] at h
          refine ⟨p1.len.trans hl.1, p2.len.trans hl.2, G2, pm ds es, g2.gh, hp G2 vs zs ds es hl.1 hl.2 (p1.mono g2.gg) p2, ?_⟩
          have g12 := g1.trans g2
          cases hg : g (pm ds es) with
          | ok r =>
            rw [hg] at h
            intro v H3 G3 g3 p3
            exact h v H3 G3 (g12.trans g3) (p3.back g12.hh)
          | ex c fs =>
            rw [hg] at h
            exact postX.mono g12 h
          | stuck => rw [hg] at h; exact h
        · rw [if_neg hl] at h; exact h.elim
      | ex c fs' => rw [hf, bind_ex] at h; exact postX.mono g1 h
      | stuck => rw [hf, bind_stuck] at h; exact h
    | ex c fs' => rw [hfa, bind_ex] at h; exact h
    | stuck => rw [hfa, bind_stuck] at h; exact h
  refine PySem.W.callWith_KW (h₀ := X.base) I.ok.mod.kin kp hall (thn (ha.run pos pins s σ H _ I go) fun us s1 ⟨vs, H1, I1, r, q⟩ => ?_) hpl he
  refine thn (hkw.run pos pins s1 σ H1 _ I1 q) fun ws s2 ⟨zs, H2, I2, rz, l1, l2, q2⟩ => ⟨I2.kIn, ?_⟩
  rw [hks]
  exact run_fnKS (E := fun σ => WE W σ) F (hr.mono hk) b (L2N.passAt tk σ) I2 r rz l1 l2 q2
end
end DL


set_option maxRecDepth 100000
set_option maxHeartbeats 4000000
namespace DL
open PySem PySem.Spec PyProof.Rows L2

/-! ### an own exception's __init__: self.f = f, .. -/
/-- what __init__ keeps: the fields fl, in this order -/
def spInit (K : PySem.W.Frag) (fl : List Str) : Sp := fun vs H Q _ => ∃ (a C : Addr) (xs : List V), vs = .ref a :: xs ∧ xs.length = fl.length ∧ OexC K C ∧ (∀ f ∈ fl, PySem.W.findIn K (.ref C) f = some none) ∧ H a = some (exo a C none) ∧
  ∀ dx H', H dx = none → dx ≠ a → H' a = some (exo a C (some dx)) → H' dx = some (exd dx (fl.zip xs).reverse) → (∀ b, b ≠ a → b ≠ dx → H' b = H b) → Q .non H'
section
variable {P : Program} {w : World} {K : PySem.W.Frag} {mg : Str → Option Value} {base : Heap} {x qual : Str} {params : Arguments} {body : List Stmt} {sc : Scope} {dvs : List V} {kws : List (Str × V)} {f : Addr} {fd : FuncData} {CX : CXT}
theorem init1 {f1 n1 self : Str} {p1 p2 p3 p4 : Pos} (F : FunD K x qual params body sc dvs kws f fd) (S : FnScope [self, n1] [self, n1] sc) (hb : body = [.Assign [.Attribute (.Name self p1) f1 p2] (.Name n1 p3) p4])
    (k0 : sc.names.lookup self = some .local := by rfl) (k1 : sc.names.lookup n1 = some .local := by rfl) (d0 : (self == ("__debug__" : Str)) = false := by decide) (c0 : (self == ("__classdict__" : Str)) = false := by decide)
    (d1 : (n1 == ("__debug__" : Str)) = false := by decide) (c1 : (n1 == ("__classdict__" : Str)) = false := by decide) : FnOk P w K mg base CX 1 f fd [self, n1] (spInit K [f1]) := by
  subst hb
  refine F.ok S (fun vs H Q E h => ?_) (fun cdv A outer s H vs Q E hr h => ?_)
  · obtain ⟨a, C, xs, rfl, hl, _⟩ := h
    simp [hl]
  · obtain ⟨a, C, xs, rfl, hl, T, hf, ha, q⟩ := h
    obtain ⟨y, rfl⟩ : ∃ y, xs = [y] := by
      match xs, hl with
      | [y], _ => exact ⟨y, rfl⟩
    refine ⟨_, pss_one (ps_ost (pe_var (i := 0) rfl (.inl k0) d0 c0) (pe_var (i := 1) rfl (.inl k1) d1 c1)), ?_⟩
    refine ⟨y, rfl, .ref a, rfl, a, C, rfl, T, hf f1 (by simp), .inl ⟨ha, fun dx hd hne => ?_⟩⟩
    exact q dx _ hd hne upd_same (by rw [upd_ne hne, upd_same]; rfl) fun b h1 h2 => by rw [upd_ne h1, upd_ne h2]
end
section
variable {X : Cx} {H0 G0 : Hp} {W : WX}
theorem mk_endN {pins : List (Addr × Obj)} {σ : L2.St} {H1 H2 : Hp} {Q : XK} {hp hp2 h2 : Heap} {g1 g2 : Array GenState} {d1 d2 : Drawn} {t1 t2 : Nat} {os1 os2 : OsState} {a C d : Addr} {fs : List (Str × V)} (T : Raises X (.ref C)) (I1 : Inv X pins σ H1 ⟨hp, g1, d1, t1, os1⟩)
    (ha : hp.objs.size ≤ a) (k : ∀ b o, hp.get? b = some o → hp2.get? b = some o) (un : Un (frs X.stack) [] (upd H1 a (exo a C none)) H2 hp2 h2) (hok : HOk X.prog X.w H2 h2) (ho : os2 = os1) (hb : AllBare g2)
    (ea : H2 a = some (exo a C (some d))) (ed : H2 d = some (exd d fs)) (hd1 : H1 d = none) (q : Q (.ref C) (some d) (upd (del H2 a) d (.xd fs))) : L2N.MkP X pins σ Q (.ref a) ⟨h2, g2, d2, t2, os2⟩ := by
  obtain ⟨t0, G, J, kG, ge, hoe, na⟩ := mk_end0 (d2 := d2) (t2 := t2) I1 ha k un hok ho hb ea ed hd1
  exact ⟨a, _, _, ⟨G, g2, d2, t2, os2⟩, _, .ref C, some d, rfl, J, kG, ge, hoe, ⟨rfl, rfl, fun vs e => by cases e; rfl⟩, rfl, rfl, na, rfl, hb, T, q⟩
theorem pmk_oexN {CX : CXT} {x : Str} {C fI : Addr} {k : Nat} {fd : FuncData} {ps : List Str} {sp : Sp} {ds : List Value} {dvs : List V} {e : Expr} {es : List Expr} {ta : TA} {p pos : Pos} (T : OexC X.K C) (iC : PySem.W.findIn X.K (.ref C) "__init__" = some (some (.ref fI))) (tI : PySem.W.typeIn X.K (.ref fI) = some (.type "function"))
    (F1 : FnOk X.prog X.w X.K X.mg X.base CX k fI fd ps sp) (hr : Room (k + 1) X.A) (hb : Binds X.K fd ps ds) (hd : Vals dvs ds) (hx : Passes CX X (fun _ _ _ => False)) (hg : Gl X x) (hm : X.mg x = some (.ref C)) (ha : PA X (e :: es) ta)
    (hdb : (x == ("__debug__" : Str)) = false := by decide) (he : starEach (e :: es) X.env = (false, eval e X.env) :: starEach es X.env := by rfl) (hpl : (backTo pos (starEach es X.env)).any (·.1) = false := by rfl) :
    L2N.PMk X (.Call (.Name x p) (e :: es) [] pos) (tMkO C sp dvs ta) := by
  intro pins s σ H Q I h
  obtain ⟨nm, q, N, bs, bm, sn, sub, ab, col, dd, k0, k1, k2, k3, k5, hC, hbm⟩ := T.cls
  refine wpAny_Call_Name_kw (ld_glob I hg hm ?_ hdb)
  refine PySem.W.callWith_K (h₀ := X.base) I.ok.mod.kin T.kC (thn (ha.run pos pins s σ H _ I h) fun us s1 ⟨vs, H1, I1, r1, hz, q1⟩ => ⟨I1.kIn, ?_⟩) he hpl
  show wpAny _ _ (call (.ref C) us) _ _ _
  obtain ⟨hp, g, dr, tk, os⟩ := s1
  have hsz : hp.objs.size ≤ hp.objs.size + 1 := Nat.le_succ _
  have hn : H1 (hp.objs.size + 1) = none := I1.hok.fresh hsz
  have hq := q1 (hp.objs.size + 1) hn
  have kk : ∀ b o, hp.get? b = some o → ((hp.push (PySem.W.kdv_tup us)).push (PySem.HandSPX.excO C hp.objs.size)).get? b = some o := fun b o e => Heap.get?_push_of_some _ (Heap.get?_push_of_some _ e)
  have hget : ((hp.push (PySem.W.kdv_tup us)).push (PySem.HandSPX.excO C hp.objs.size)).get? (hp.objs.size + 1) = some (PySem.HandSPX.excO C hp.objs.size) := by heap_get
  have I2 : Inv X pins σ (upd H1 (hp.objs.size + 1) (exo (hp.objs.size + 1) C none)) ⟨(hp.push (PySem.W.kdv_tup us)).push (PySem.HandSPX.excO C hp.objs.size), g, dr, tk, os⟩ :=
    I1.laid (t' := tk) (a := hp.objs.size + 1) (o := exo (hp.objs.size + 1) C none) (h' := (hp.push (PySem.W.kdv_tup us)).push (PySem.HandSPX.excO C hp.objs.size)) kk hsz (exo_ok hget)
  have r2 : Vals (V.ref (hp.objs.size + 1) :: (vs ++ dvs)) (Value.ref (hp.objs.size + 1) :: (us ++ ds)) := .cons rfl (r1.append hd)
  have hl : (Value.ref (hp.objs.size + 1) :: us ++ ds).length = ps.length := by
    have e := r2.length
    rw [F1.len _ _ _ _ hq] at e
    exact e.symm
  have hus : us.length ≤ sizeLine := by
    rw [← Paired.length r1, sizeLine_eq]
    omega
  refine wpAny_call (PySem.HandSPX.call_own F.excBase_ValueError (fun Y => PySem.HandSPX.refsVE_contains Y bm hbm) (I1.kIn _ _ hC) (PySem.W.looks_findIn I1.kIn iC) (fun self => PySem.W.bind_fn I1.kIn self tI) hus
    (codeAny_mono (F1.run _ X.stack _ _ ⟨Value.ref (hp.objs.size + 1) :: us, []⟩ (Value.ref (hp.objs.size + 1) :: (us ++ ds)) _ _ (fun _ _ _ => False) (hr.make C us []) (I2.env0.make C us []) (hb _ (Value.ref (hp.objs.size + 1) :: us) I2.kIn hl) r2 hq) fun r s' hq' => ?_))
  cases r with
  | error er => exact hx pins σ _ _ er s' I2 hq'
  | ok fl =>
    cases fl with
    | ret u =>
      obtain ⟨v, H2, os2, bare2, un2, hok2, rv, ev, d, fs, ea, ed, hd1, q2⟩ := hq'
      subst ev
      obtain ⟨h2, g2, d2, t2, os'⟩ := s'
      exact ⟨rv, mk_endN (raises_own T.exC T.tyC) I1 hsz kk un2 hok2 os2 bare2 ea ed hd1 q2⟩
    | next => exact False.elim hq'
    | brk => exact False.elim hq'
    | cont => exact False.elim hq'
/-- an own exception class of the text -/
structure ExcD (P : Program) (w : World) (K : PySem.W.Frag) (mg : Str → Option Value) (base : Heap) (c : Str) (fl : List Str) : Prop where
  ex : ∃ (C fI : Addr) (fd : FuncData) (ps : List Str), mg c = some (.ref C) ∧ OexC K C ∧ PySem.W.findIn K (.ref C) "__init__" = some (some (.ref fI)) ∧ PySem.W.typeIn K (.ref fI) = some (.type "function") ∧
    FnOk P w K mg base (L2N.CX P w) 1 fI fd ps (spInit K fl) ∧ Binds K fd ps [] ∧ ∀ f ∈ fl, PySem.W.findIn K (.ref C) f = some none
def sRaise (c : Str) (fl : List Str) (fa : DE → R (List D)) (δ : DE) : SR := lift (fa δ) δ fun ds => if ds.length = fl.length ∧ ds.length ≤ 1000 then .ex c (fl.zip ds).reverse δ else .stuck
theorem dpf_zip {K : PySem.W.Frag} {mg : Str → Option Value} {G : Hp} : ∀ {fl : List Str} {vs : List V} {ds : List D}, DpAll K mg G vs ds → DpF K mg G (fl.zip vs) (fl.zip ds)
  | [], _, _, _ => .nil
  | _ :: _, _, _, .nil => .nil
  | _ :: _, _, _, .cons p t => .cons p (dpf_zip t)
theorem dpf_append {K : PySem.W.Frag} {mg : Str → Option Value} {G : Hp} : ∀ {xs ys : List (Str × V)} {ds es : List (Str × D)}, DpF K mg G xs ds → DpF K mg G ys es → DpF K mg G (xs ++ ys) (ds ++ es)
  | _, _, _, _, .nil, s => s
  | _, _, _, _, .cons r t, s => .cons r (dpf_append t s)
theorem dpf_rev {K : PySem.W.Frag} {mg : Str → Option Value} {G : Hp} : ∀ {xs : List (Str × V)} {ds : List (Str × D)}, DpF K mg G xs ds → DpF K mg G xs.reverse ds.reverse
  | _, _, .nil => .nil
  | _, _, .cons r t => by
    rw [List.reverse_cons, List.reverse_cons]
    exact dpf_append (dpf_rev t) (.cons r .nil)
theorem pass_no : Passes (L2N.CX X.prog X.w) X (fun _ _ _ => False) := fun pins σ H s e s' I c => by
  obtain ⟨a, B, H', cls, d, _, _, _, _, _, _, _, z⟩ := c
  exact z.elim
theorem sd_raise {A0 : Around} {c : Str} {fl : List Str} {e : Expr} {es : List Expr} {fa : DE → R (List D)} {j : Nat} {p pos pos' : Pos} (hc : X.calm = true) (ex : ExcD X.prog X.w X.K X.mg X.base c fl) (hr : Room j A0) (hj : 2 ≤ j) (tk : L2N.Takes X W) (ha : Ad X H0 W (e :: es) fa) (hA : X.A = A0 := by rfl) (hg : Gl X c := by rfl)
    (hdb : (c == ("__debug__" : Str)) = false := by decide) (he : starEach (e :: es) X.env = (false, eval e X.env) :: starEach es X.env := by rfl) (hpl : (backTo pos (starEach es X.env)).any (·.1) = false := by rfl) :
    Sd X H0 G0 W (.Raise (some (.Call (.Name c p) (e :: es) [] pos)) none pos') (sRaise c fl fa) := by
  obtain ⟨C, fI, fd, ps, hm, T, iC, tI, F1, b, hf⟩ := ex.ex
  subst hA
  refine PS.imp (L2N.ps_raise hc tk (pmk_oexN T iC tI F1 (hr.mono hj) b .nil pass_no hg hm ha hdb he hpl)) fun Dn σ H h => ?_
  obtain ⟨G, δ, g, sl, h⟩ := h
  unfold sRaise at h
  refine ⟨G, δ, g.gh, sl, ?_⟩
  cases hfa : fa δ with
  | ok ds =>
    rw [hfa, lift_ok] at h
    by_cases hl : ds.length = fl.length ∧ ds.length ≤ 1000
    · rw [if_pos hl] at h
      intro vs H1 G1 g1 p1
      have g2 := g.trans g1
      refine ⟨by rw [p1.len]; exact hl.2, fun a hna => ⟨a, C, vs, by rw [List.append_nil], by rw [p1.len, hl.1], T, hf, upd_same, fun dx H' hd hne e1 e2 e3 => ?_⟩⟩
      rw [upd_ne hne] at hd
      refine ⟨rfl, dx, _, e1, e2, hd, ?_⟩
      have hG : G1 dx = none := by
        cases z : G1 dx with
        | none => rfl
        | some o => have := g1.gh _ _ z; rw [hd] at this; cases this
      have s1 := upd_same_of (o := .xd (fl.zip vs).reverse) hG
      have eH : upd (del H' a) dx (.xd (fl.zip vs).reverse) = upd H1 dx (.xd (fl.zip vs).reverse) := by
        funext b
        by_cases hb : b = dx
        · rw [hb, upd_same, upd_same]
        · rw [upd_ne hb, upd_ne hb]
          by_cases hba : b = a
          · rw [hba, del_same, hna]
          · rw [del_ne hba, e3 b hba hb, upd_ne hba]
      rw [eH]
      have g3 : Gr H1 G1 (upd H1 dx (.xd (fl.zip vs).reverse)) (upd G1 dx (.xd (fl.zip vs).reverse)) := .new g1.gh hd
      exact h (.ref C) (some dx) σ _ _ (g2.trans g3) (g1.gg.trans g3.gg) ((sl.mono g1).mono g3) ⟨C, dx, _, hm, rfl, rfl, upd_same, dpf_rev (dpf_zip (p1.mono s1))⟩
    · rw [if_neg hl] at h; exact h.elim
  | ex c' fs => 
    rw [hfa] at h
    exact fun cls d H1 G1 g1 x => h cls d σ H1 G1 (g.trans g1) g1.gg (sl.mono g1) x
  | stuck => rw [hfa] at h; exact h

/-! ### try, except C as e -/
def unS (i : Nat) : SR → SR
  | .nx δ => .nx (δ.set i none)
  | .br δ => .br (δ.set i none)
  | .ct δ => .ct (δ.set i none)
  | .rt r => .rt r
  | .ex _ _ _ => .stuck
  | .stuck => .stuck
open Classical in
/-- i: e's slot; Fh tells for each class what the suite does (none: the class is not caught) -/
noncomputable def sTry (i : Nat) (F : DE → SR) (Fh : Str → Option (Addr → Addr → DE → SR)) (δ : DE) : SR := match F δ with
  | .ex c fs δ' => (match Fh c with
    | some g => if ∀ a dd, unS i (g a dd (δ'.set i (some (.fr (.exn a dd c fs))))) = unS i (g 0 0 (δ'.set i (some (.fr (.exn 0 0 c fs))))) then unS i (g 0 0 (δ'.set i (some (.fr (.exn 0 0 c fs))))) else .stuck
    | none => .stuck)
  | r => r
theorem Sl.unset {K : PySem.W.Frag} {mg : Str → Option Value} {H G : Hp} {σ : L2.St} {δ : DE} (i : Nat) (sl : Sl K mg H0 H G σ δ) : Sl K mg H0 H G (σ.set i none) (δ.set i none) := by
  have f : ∀ {j : Nat} {r : RV}, (δ.set i none)[j]? = some (some r) → i ≠ j ∧ δ[j]? = some (some r) := fun {j r} e => by
    by_cases hj : i = j
    · subst hj
      by_cases hl : i < δ.length
      · rw [List.getElem?_set_self hl] at e; cases e
      · rw [List.getElem?_eq_none (by rw [List.length_set]; omega)] at e; cases e
    · rw [List.getElem?_set_ne hj] at e
      exact ⟨hj, e⟩
  refine ⟨by rw [List.length_set, List.length_set]; exact sl.len, fun j r e => ?_, fun j j' q q' u e1 o1 e2 o2 s1 s2 => ?_⟩
  · obtain ⟨h1, h2⟩ := f e
    rw [List.getElem?_set_ne h1]
    exact sl.at_ j r h2
  · obtain ⟨h1, h2⟩ := f e1
    obtain ⟨k1, k2⟩ := f e2
    rw [List.getElem?_set_ne h1] at s1
    rw [List.getElem?_set_ne k1] at s2
    exact sl.dis j j' q q' u h2 o1 k2 o2 s1 s2
/-- known classes against the clause's one -/
structure Caught (K : PySem.W.Frag) (mg : Str → Option Value) (cv : Value) (Fh : Str → Option (Addr → Addr → DE → SR)) : Prop where
  yes : ∀ c C g, Fh c = some g → mg c = some (.ref C) → PySem.W.exmOne K (.ref C) cv = some true
theorem sd_try {x n : Str} {cv : Value} {i : Nat} {body suite : List Stmt} {b₀ : Stmt} {np pos pos' : Pos} {F : DE → SR} {Fh : Str → Option (Addr → Addr → DE → SR)} (hs : X.stack = X.env :: X.outer) (hf : X.env.frame = some X.env.locals) (hN : X.N.Nodup) (tk : L2N.Takes X W) (hc : Names X x cv) (hcat : Caught X.K X.mg cv Fh)
    (hb : ∀ (W' : WX) (pn : List (Addr × Obj)) (xe : Value → Shared → Prop), L2N.Takes (X.tr pn xe) W' → PassesOwn (model X.prog X.w) X.A X.env xe → Bd (X.tr pn xe) H0 G0 W' body F)
    (hsu : ∀ (c : Str) (g : Addr → Addr → DE → SR) (C a dd : Addr) (oe : Obj) (pn : List (Addr × Obj)), Fh c = some g → X.mg c = some (.ref C) → L2N.Zn (.ref C) (some dd) oe → (∃ vs, oe.data = .fields vs) → Bd (X.suite a ((a, oe) :: pn)) H0 G0 W0 (b₀ :: suite) (g a dd))
    (hi : X.N[i]? = some n := by rfl) (hln : X.env.kindOf n = some .local := by rfl) :
    Sd X H0 G0 W (.Try body [.ExceptHandler (some (.Name x np)) (some n) (b₀ :: suite) pos'] [] [] pos) (sTry i F Fh) := by
  refine PS.imp (L2N.ps_try_as (tb := fun W' => tS X.K X.mg H0 G0 W' F) (ts := fun a cls d Dn σ H => ∃ c C dd g, cls = .ref C ∧ d = some dd ∧ X.mg c = some (.ref C) ∧ Fh c = some g ∧ tS X.K X.mg H0 G0 W0 (g a dd) Dn σ H) (Wout := W) hs hf hN hi hln hc tk hb ?_) fun Dn σ H h => ?_
  · intro a oe cls d pn hz hfl
    refine ⟨fun pins s σ H Dn I h => ?_⟩
    obtain ⟨c, C, dd, g, rfl, rfl, hm, hg, h⟩ := h
    exact (hsu c g C a dd oe pn hg hm hz hfl).run pins s σ H Dn I h
  · obtain ⟨G, δ, g, sl, h⟩ := h
    refine ⟨G, δ, g, sl, ?_⟩
    unfold sTry at h
    cases e : F δ with
    | nx δ' => rw [e] at h; exact h
    | br δ' => rw [e] at h; exact h
    | ct δ' => rw [e] at h; exact h
    | rt r => rw [e] at h; exact h
    | stuck => rw [e] at h; exact h
    | ex c fs δ' =>
      rw [e] at h
      simp only at h
      cases hg : Fh c with
      | none => rw [hg] at h; exact h.elim
      | some gg =>
        rw [hg] at h
        simp only at h
        by_cases hall : ∀ a dd, unS i (gg a dd (δ'.set i (some (.fr (.exn a dd c fs))))) = unS i (gg 0 0 (δ'.set i (some (.fr (.exn 0 0 c fs)))))
        · rw [if_pos hall] at h
          intro cls d σ' H' G' g' s' sl' xr
          obtain ⟨C, dd, xs, hm, rfl, rfl, hxd, hdf⟩ := xr
          refine ⟨true, hcat.yes c C gg hg hm, fun _ a hna => ?_, fun z => nomatch z⟩
          refine ⟨c, C, dd, gg, rfl, rfl, hm, hg, G', δ'.set i (some (.fr (.exn a dd c fs))), g', sl'.put (r := .fr _) (Dp.exn hm hxd hdf) (fun o => nomatch o), ?_⟩
          have h2 := h
          rw [← hall a dd] at h2
          have ends := h2
          generalize gg a dd (δ'.set i (some (.fr (.exn a dd c fs)))) = y at ends
          cases y with
          | nx δ2 => exact fun σ2 H2 G2 g2 s2 sl2 => ends _ H2 G2 g2 (s'.trans s2) (sl2.unset i)
          | br δ2 => exact fun σ2 H2 G2 g2 s2 sl2 => ends _ H2 G2 g2 (s'.trans s2) (sl2.unset i)
          | ct δ2 => exact fun σ2 H2 G2 g2 s2 sl2 => ends _ H2 G2 g2 (s'.trans s2) (sl2.unset i)
          | rt r => exact ends
          | ex c2 fs2 δ2 => exact ends.elim
          | stuck => exact ends
        · rw [if_neg hall] at h; exact h.elim

/-! ### within the suite -/
/-- e.f -/
def fXf (a dd : Addr) (c n : Str) (f : DE → R RV) (δ : DE) : R RV := f δ >>= fun r => match r.d with
  | .exn a' dd' c' fs => if a' = a ∧ dd' = dd ∧ c' = c then (match fs.lookup n with | some d => .ok (.fr d) | none => .stuck) else .stuck
  | _ => .stuck
theorem dpf_look {K : PySem.W.Frag} {mg : Str → Option Value} {G : Hp} {n : Str} {d : D} : ∀ {xs : List (Str × V)} {ds : List (Str × D)}, DpF K mg G xs ds → ds.lookup n = some d → ∃ v, xs.lookup n = some v ∧ Dp K mg G v d
  | _, _, .nil, e => by simp at e
  | _, _, .cons (f := f) (v := v) p t, e => by
    by_cases h : (n == f) = true
    · simp only [List.lookup, h] at e ⊢
      cases e
      exact ⟨v, rfl, p⟩
    · have h' : (n == f) = false := by simpa using h
      simp only [List.lookup, h'] at e ⊢
      exact dpf_look t e
theorem ed_xf {a dd C : Addr} {c n : Str} {oe : Obj} {pn : List (Addr × Obj)} {e : Expr} {f : DE → R RV} {pos : Pos} (hm : X.mg c = some (.ref C)) (T : XfC X.K C) (hno : PySem.W.findIn X.K (.ref C) n = some none) (hz : L2N.Zn (.ref C) (some dd) oe) (hf : ∃ vs, oe.data = .fields vs)
    (he : Ed (X.suite a ((a, oe) :: pn)) H0 W e f) (hb : attributeBase e n X.env (eval e X.env) = eval e X.env := by rfl) : Ed (X.suite a ((a, oe) :: pn)) H0 W (.Attribute e n pos) (fXf a dd c n f) := by
  refine PE.imp (pe_xf T hno hz.zc hf he hb) fun σ H Q h => ?_
  obtain ⟨G, δ, s, sl, h⟩ := h
  refine ⟨G, δ, s, sl, post_bind (f := fun d => match d with
    | .exn a' dd' c' fs => if a' = a ∧ dd' = dd ∧ c' = c then (match fs.lookup n with | some d => .ok (.fr d) | none => .stuck) else .stuck
    | _ => .stuck) h fun v d H1 G1 g1 p1 h1 => ?_⟩
  cases p1 with
  | exn hmc hx hdf =>
    rename_i a' dd' C' xs c' fs
    simp only at h1
    by_cases hall : a' = a ∧ dd' = dd ∧ c' = c
    · rw [if_pos hall] at h1
      obtain ⟨rfl, rfl, rfl⟩ := hall
      cases hl : fs.lookup n with
      | none => rw [hl] at h1; exact h1.elim
      | some d =>
        rw [hl] at h1
        obtain ⟨v, hv, pv⟩ := dpf_look hdf hl
        exact ⟨rfl, rfl, dd', xs, v, rfl, g1.gh _ _ hx, hv, h1 v H1 G1 (.refl g1.gh) pv⟩
    · rw [if_neg hall] at h1; exact h1.elim
  | _ => exact h1.elim
theorem kin_classD {K : PySem.W.Frag} {prog : Program} {w : World} {A : Around} {E : Value → Shared → Prop} {s : Shared} {x Dd : Addr} {ox oo : Obj} {Q : Option Value → Shared → Prop} (T : ExcC K Dd) (XI : K.In s.heap) (I : PySem.W.InstAt s.heap x ox Dd (some oo)) (h : Q (some (.ref Dd)) { s with toks := s.toks + 1 }) : wpAny (model prog w) A (getAttr? (.ref x) "__class__") Q E s := by
  have hf : PySem.W.findObj K Dd (some oo) "__class__" = some (.bind (.builtin "getset_descriptor.__get__") (.builtin "object.__class__")) := PySem.W.findObj_data (by obtain ⟨cd, hc, _⟩ := PySem.W.any_some T.hd; rw [hc]; rfl) T.ha T.hn T.ht
  obtain ⟨hp, g, d, t, os⟩ := s
  have L0 := I.type (M := model prog w)
  have L1 := PySem.W.looks_findIn (M := model prog w) XI T.hg
  have L2 := PySem.W.looks_findIn (M := model prog w) XI T.hk
  have L3 := PySem.W.looks_find (M := model prog w) XI I hf
  have sub : PySem.W.Looks (model prog w) hp (isInstance (.ref x) (.type "BaseException")) true := L0.andThen (PySem.W.looks_subIn XI T.hs)
  have hx0 : (false && onTheHeap (Value.builtin "BaseException.__getattribute__")) = false := rfl
  have hx2 : (Value.builtin "BaseException.__getattribute__" == Value.builtin "object.__getattribute__") = false := by decide +kernel
  have hx1 : (onTheHeap (Value.ref Dd) && Value.builtin "BaseException.__getattribute__" == Value.builtin "object.__getattribute__") = false := by rw [hx2]; rfl
  unfold getAttr? getAttrBy? getAttrBy
  refine wpAny_bind (wpAny_mkText (wpAny_bind (wpAny_attempt (wpAny_holding (wpAny_bind (L0.at (wpAny_bind (L1.at ?_))))))))
  show wpAny _ _ (if (onTheHeap (Value.ref Dd) && Value.builtin "BaseException.__getattribute__" == Value.builtin "object.__getattribute__") = true then _ else _) _ _ _
  rw [hx1, if_neg Bool.false_ne_true]
  unfold getAttrByItsOwn hookBefore
  refine wpAny_bind ?_
  rw [if_pos (show onTheHeap (Value.ref Dd) = true from rfl)]
  refine L2.at ?_
  refine wpAny_bind (wpAny_attempt (wpAny_holding ?_))
  unfold callGetattribute
  rw [hx0, if_neg Bool.false_ne_true]
  unfold boundAndCalled
  rw [PySem.F.excAttr_ValueError.ga.bind (.ref x)]
  refine wpAny_bind (wpAny_pure ?_)
  show wpAny _ _ (call (.builtin "BaseException.__getattribute__") [.ref x, .str "__class__" t]) _ _ _
  refine wpAny_call (codeAny_call_builtin PySem.F.excAttr_ValueError.ga.plain PySem.F.entry_bexc_ga ?_)
  refine @PySem.W.check_slot (model prog w) _ _ ⟨hp, g, d, t + 1, os⟩ "BaseException.__getattribute__" "BaseException" "__getattribute__" (.ref x) [.str "__class__" t] [] _ (by decide +kernel) (by decide +kernel) sub (PySem.F.args_bexc_ga (.ref x) (.str "__class__" t)) ?_
  unfold Builtin.«object.__getattribute__»
  refine wpAny_bind (wpAny_of_eq (a := ((Value.ref x : Value), [Value.str "__class__" t])) (by first | rfl | (simp only [slotArgs]; rfl)) ?_)
  refine wpAny_bind (wpAny_pure (wpAny_bind (L0.at (wpAny_bind (L3.at ?_)))))
  show wpAny _ _ (holding [Value.builtin "object.__class__"] (call (.builtin "getset_descriptor.__get__") [.builtin "object.__class__", .ref x, .ref Dd]) >>= ret) _ _ _
  refine wpAny_bind (wpAny_holding (wpAny_call (PySem.W.class_get (s := ⟨hp, g, d, t + 1, os⟩) (ox := ox) (od := some oo) XI I T.hm ?_)))
  refine wpAny_pure ?_
  show wpAny _ _ (handedOut (.ref Dd)) _ _ _
  rw [PySem.W.handedOut_of (v := .ref Dd) rfl]
  first
    | exact wpAny_pure (wpAny_pure h)
    | exact wpAny_pure h
    | exact wpAny_pure (wpAny_bind (wpAny_pure (wpAny_pure h)))
theorem kitx_d {K : PySem.W.Frag} {x Dd : Addr} {ox : Obj} (T : ExcC K Dd) : PySem.W.KitX K (.ref x) (.ref Dd) (fun h => ∃ oo, PySem.W.InstAt h x ox Dd (some oo)) where
  ty := fun _ _ _ ⟨_, I⟩ => I.type
  it := fun _ _ XI _ => by
    obtain ⟨cdD, hcD, _⟩ := PySem.W.any_some T.hd
    unfold PySem.W.clsIn at hcD
    split at hcD
    · rename_i c' d' cd' sl' ho
      intro A' Q' E' s' k q
      unfold isType loadHead
      exact wpAny_bind (wpAny_loadPart (k _ _ (XI _ _ ho)) (wpAny_pure q))
    · cases hcD
  ne := fun h tp dd its n sl XI htp => by
    obtain ⟨cdD, hcD, _⟩ := PySem.W.any_some T.hd
    refine Bool.eq_false_iff.mpr fun q => ?_
    have e : Dd = tp := Value.ref.inj (beq_iff_eq.mp q)
    subst e
    unfold PySem.W.clsIn at hcD
    split at hcD
    · rename_i c' d' cd' sl' ho
      have z := (XI _ _ ho).symm.trans htp
      cases z
    · cases hcD
  ca := fun XI ⟨_, I⟩ k => kin_classD T XI I k
/-- isinstance(e, c), isinstance(e, (c, ..)) -/
def fIsE (a dd : Addr) (c : Str) (b : Bool) (f : DE → R RV) (δ : DE) : R RV := f δ >>= fun r => match r.d with
  | .exn a' dd' c' _ => if a' = a ∧ dd' = dd ∧ c' = c then .ok (.fr (.bl b)) else .stuck
  | _ => .stuck
theorem inst_of {a dd C : Addr} {oe : Obj} {H : Hp} {s : Shared} {fs : List (Str × V)} {P : Program} {w : World} (hget : s.heap.get? a = some oe) (hz : L2N.Zn (.ref C) (some dd) oe) (hf : ∃ vs, oe.data = .fields vs) (hok : HOk P w H s.heap) (hx : H dd = some (.xd fs)) : ∃ oo, PySem.W.InstAt s.heap a oe C (some oo) := by
  have h2 : ObjOk P w H s.heap dd (.xd fs) := hok dd _ hx
  obtain ⟨mA, hns, hr⟩ := h2
  obtain ⟨od, ho, hl⟩ := lookIn_ns hns
  obtain ⟨vs, hd⟩ := hf
  exact ⟨od, hget, hz.1, by unfold PySem.W.notCls; rw [hd] <;> rfl, by rw [hz.2.1]; exact ho⟩
theorem ed_isE {a dd C : Addr} {c x : Str} {b : Bool} {v : V} {u : Value} {oe : Obj} {pn : List (Addr × Obj)} {e : Expr} {f : DE → R RV} {p p2 pos : Pos} (T : ExcC X.K C) (hz : L2N.Zn (.ref C) (some dd) oe) (hf : ∃ vs, oe.data = .fields vs) (hk : PySem.W.kitOne X.K (.ref C) u = some b) (cv : ClsV v u)
    (he : Ed (X.suite a ((a, oe) :: pn)) H0 W e f) (hx : PE (X.suite a ((a, oe) :: pn)) (.Name x p2) (tC v)) (hm0 : X.mg "isinstance" = none) (hg0 : Gl X "isinstance" := by rfl)
    (he1 : starEach (e :: [.Name x p2]) X.env = (false, eval e X.env) :: starEach [.Name x p2] X.env := by rfl) (hpl : (backTo pos (starEach [.Name x p2] X.env)).any (·.1) = false := by rfl) :
    Ed (X.suite a ((a, oe) :: pn)) H0 W (.Call (.Name "isinstance" p) [e, .Name x p2] [] pos) (fIsE a dd c b f) := by
  have cr : CallR (X.suite a ((a, oe) :: pn)) (.builtin "isinstance") (fun xs H Q => ∃ fs, xs = [.ref a, v] ∧ H dd = some (.xd fs) ∧ Q (.bl b) H) := by
    intro pins s σ H xs us Q I r ⟨fs, ex, hx, q⟩
    subst ex
    obtain ⟨u1, u2, rfl, r1, r2⟩ := vals2 r
    have e2 := cv.eq r2
    subst e2
    cases (show u1 = Value.ref a from r1)
    obtain ⟨hget, _⟩ := I.pin (a, oe) (List.mem_append.mpr (.inl List.mem_cons_self))
    exact PySem.W.kia_one (kitx_d (ox := oe) T) I.kIn (inst_of hget hz hf I.hok hx) hk (fun z => nomatch z) fun tk => ⟨.bl b, H, I.kept (t' := tk) fun _ _ z => z, rfl, q⟩
  refine PE.imp (pe_callB cr hg0 hm0 (by decide +kernel) (pa_cons he (pa_cons hx pa_nil) he1) (he := he1) (hpl := hpl)) fun σ H Q h => ?_
  obtain ⟨G, δ, s, sl, h⟩ := h
  refine ⟨G, δ, s, sl, post_bind (f := fun d => match d with
    | .exn a' dd' c' _ => if a' = a ∧ dd' = dd ∧ c' = c then .ok (.fr (.bl b)) else .stuck
    | _ => .stuck) h fun v' d H1 G1 g1 p1 h1 => ?_⟩
  cases p1 with
  | exn hmc hxd hdf =>
    simp only at h1
    split at h1
    · rename_i hall
      obtain ⟨rfl, rfl, rfl⟩ := hall
      exact ⟨_, rfl, g1.gh _ _ hxd, h1 _ H1 G1 (.refl g1.gh) (.bl _)⟩
    · exact h1.elim
  | _ => exact h1.elim
/-- names of classes, as a tuple -/
structure ClsA (X : Cx) (es : List Expr) (vs : List V) (us : List Value) : Prop where
  ev : PA X es fun _ H Q => Q vs H
  cl : Paired ClsV vs us
theorem cla_nil : ClsA X [] [] [] := ⟨⟨fun p pins s σ H Q I h => pa_nil.run p pins s σ H Q I h⟩, .nil⟩
theorem cla_cons {x : Str} {p : Pos} {es : List Expr} {v : V} {u : Value} {vs : List V} {us : List Value} (hx : PE X (.Name x p) (tC v)) (cv : ClsV v u) (h : ClsA X es vs us) (hs : starEach (.Name x p :: es) X.env = (false, eval (.Name x p) X.env) :: starEach es X.env := by rfl) : ClsA X (.Name x p :: es) (v :: vs) (u :: us) :=
  ⟨⟨fun p pins s σ H Q I q => (pa_cons hx h.ev hs).run p pins s σ H Q I q⟩, .cons cv h.cl⟩
theorem ed_isEs {a dd C : Addr} {c : Str} {b : Bool} {vs : List V} {us : List Value} {es : List Expr} {oe : Obj} {pn : List (Addr × Obj)} {e : Expr} {f : DE → R RV} {k} {p p2 pos : Pos} (T : ExcC X.K C) (hz : L2N.Zn (.ref C) (some dd) oe) (hf : ∃ vs, oe.data = .fields vs) (hk : PySem.W.kitAny X.K (.ref C) us = some b)
    (he : Ed (X.suite a ((a, oe) :: pn)) H0 W e f) (hx : ClsA (X.suite a ((a, oe) :: pn)) es vs us) (hm0 : X.mg "isinstance" = none) (hn : vs.length ≤ 1000) (hg0 : Gl X "isinstance" := by rfl)
    (he1 : starEach (e :: [.Tuple es k p2]) X.env = (false, eval e X.env) :: starEach [.Tuple es k p2] X.env := by rfl) (hpl : (backTo pos (starEach [.Tuple es k p2] X.env)).any (·.1) = false := by rfl) :
    Ed (X.suite a ((a, oe) :: pn)) H0 W (.Call (.Name "isinstance" p) [e, .Tuple es k p2] [] pos) (fIsE a dd c b f) := by
  have cr : CallR (X.suite a ((a, oe) :: pn)) (.builtin "isinstance") (fun xs H Q => ∃ fs tp, xs = [.ref a, .ref tp] ∧ H tp = some (.tup vs) ∧ H dd = some (.xd fs) ∧ Q (.bl b) H) := by
    intro pins s σ H xs us' Q I r ⟨fs, tp, ex, hT, hxd, q⟩
    subst ex
    obtain ⟨u1, u2, rfl, r1, r2⟩ := vals2 r
    cases (show u2 = Value.ref tp from r2)
    cases (show u1 = Value.ref a from r1)
    obtain ⟨hget, _⟩ := I.pin (a, oe) (List.mem_append.mpr (.inl List.mem_cons_self))
    obtain ⟨_, its, rv, o, h1, h2, n, h3⟩ := (show ObjOk X.prog X.w H s.heap tp (.tup vs) from I.hok tp _ hT)
    have e3 := ClsV.all hx.cl rv
    subst e3
    obtain ⟨oc, od, dt, sl⟩ := o
    simp only at h2 h3
    subst h2 h3
    exact PySem.W.kia_tup (kitx_d (ox := oe) T) I.kIn (inst_of hget hz hf I.hok hxd) h1 hk (fun z => nomatch z) fun tk => ⟨.bl b, H, I.kept (t' := tk) fun _ _ z => z, rfl, q⟩
  refine PE.imp (pe_callB cr hg0 hm0 (by decide +kernel) (pa_cons he (pa_cons (pe_tup hx.ev) pa_nil) he1) (he := he1) (hpl := hpl)) fun σ H Q h => ?_
  obtain ⟨G, δ, s, sl, h⟩ := h
  refine ⟨G, δ, s, sl, post_bind (f := fun d => match d with
    | .exn a' dd' c' _ => if a' = a ∧ dd' = dd ∧ c' = c then .ok (.fr (.bl b)) else .stuck
    | _ => .stuck) h fun v' d H1 G1 g1 p1 h1 => ?_⟩
  cases p1 with
  | exn hmc hxd hdf =>
    rename_i _ _ _ xs0 _ _
    simp only at h1
    split at h1
    · rename_i hall
      obtain ⟨rfl, rfl, rfl⟩ := hall
      refine ⟨sz_le (Nat.le_trans hn (by decide)), fun q hq => ⟨xs0, q, rfl, upd_same, ?_, h1 _ (upd H1 q _) _ (.mut g1.gh hq) (.bl _)⟩⟩
      rw [upd_ne (ne_of_none (g1.gh _ _ hxd) hq)]
      exact g1.gh _ _ hxd
    · exact h1.elim
  | _ => exact h1.elim
end
end DL


set_option maxRecDepth 100000
set_option maxHeartbeats 4000000
namespace DL
open PySem PySem.Spec PyProof.Rows L2 L2H

/-! ### defs called within a suite: nothing is let out there -/
def spN (K : PySem.W.Frag) (mg : Str → Option Value) (g : List D → R RV) : Sp := fun vs H Q _ => spD K mg g vs H Q (fun _ _ _ => False)
structure CalH (P : Program) (w : World) (K : PySem.W.Frag) (mg : Str → Option Value) (base : Heap) (k : Nat) (x : Str) (g : List D → R RV) : Prop where
  ex : ∃ (f : Addr) (fd : FuncData) (ps : List Str), FnH P w K mg base (L2N.CX P w) k f fd ps (spN K mg g) ∧ mg x = some (.ref f) ∧ PySem.W.keepIn K (.ref f) = true ∧ Binds K fd ps []
theorem FnH.mono {P : Program} {w : World} {K : PySem.W.Frag} {mg : Str → Option Value} {base : Heap} {CX : CXT} {j k : Nat} {f : Addr} {fd : FuncData} {ps : List Str} {sp : Sp} (F : FnH P w K mg base CX k f fd ps sp) (h : k ≤ j) : FnH P w K mg base CX j f fd ps sp :=
  ⟨F.len, fun A outer s H args us vs Q E p r => F.run A outer s H args us vs Q E p (r.mono h)⟩
def fCallH (g : List D → R RV) (fa : DE → R (List D)) (δ : DE) : R RV := fa δ >>= fun ds => match g ds with
  | .ok r => .ok r
  | _ => .stuck
section
variable {X : Cx} {H0 G0 : Hp} {W : WX}
theorem ed_callH {k j : Nat} {x : Str} {g : List D → R RV} {fa : DE → R (List D)} {p pos : Pos} {e : Expr} {es : List Expr} (c : CalH X.prog X.w X.K X.mg X.base k x g) (hc : HotC X) (hr : RoomH j X.A) (hk : k ≤ j) (ha : Ad X H0 W (e :: es) fa) (hg : Gl X x := by rfl)
    (hdb : (x == ("__debug__" : Str)) = false := by decide) (he : starEach (e :: es) X.env = (false, eval e X.env) :: starEach es X.env := by rfl) (hpl : (backTo pos (starEach es X.env)).any (·.1) = false := by rfl) :
    Ed X H0 W (.Call (.Name x p) (e :: es) [] pos) (fCallH g fa) := by
  obtain ⟨f, fd, ps, F, hm, kp, b⟩ := c.ex
  refine PE.imp (pe_callH (E := fun _ _ _ _ => False) F (hr.mono hk) hc hg hm kp b (fun σ pins H s e s' I c => by
    obtain ⟨a, B, H', cls, d, _, _, _, _, _, _, _, z⟩ := c
    exact z.elim) ha hdb he hpl) fun σ H Q h => ?_
  obtain ⟨G, δ, s, sl, h⟩ := h
  refine ⟨G, δ, s, sl, ?_⟩
  unfold fCallH at h
  cases hf : fa δ with
  | ok ds =>
    rw [hf, bind_ok] at h
    intro vs H1 G1 g1 p1
    refine ⟨G1, ds, g1.gh, p1, ?_⟩
    cases hg : g ds with
    | ok r =>
      rw [hg] at h
      intro v H2 G2 g2 p2
      exact h v H2 G2 (g1.trans g2) (p2.back g1.hh)
    | ex c fs => rw [hg] at h; exact h.elim
    | stuck => rw [hg] at h; exact h.elim
  | ex c fs' => rw [hf, bind_ex] at h; exact h
  | stuck => rw [hf, bind_stuck] at h; exact h
theorem hot_suite {a : Addr} {oe : Obj} {pn : List (Addr × Obj)} {cls : Value} {d : Option Addr} (hz : L2N.Zn cls d oe) (hf : ∃ vs, oe.data = .fields vs) : HotC (X.suite a ((a, oe) :: pn)) := by
  obtain ⟨vs, hv⟩ := hf
  exact ⟨(a, oe), ⟨rfl, vs, hv, hz.2.2 vs hv⟩, List.mem_cons_self⟩
theorem room_suite {a : Addr} {pn : List (Addr × Obj)} {j : Nat} (r : Room j X.A) : RoomH j (X.suite a pn).A := ⟨r.dp, r.un⟩
end
/-- a body's promise there -/
abbrev cxHF (P : Program) (w : World) (K : PySem.W.Frag) (mg : Str → Option Value) (base : Heap) (N : List Str) (qual : Str) (sc : Scope) (f : Addr) (cdv : Value) (A : Around) (outer : List Env) (s : Shared) (H : Hp) (E : XK) (p : Addr × Obj) : Cx :=
  cxH (L2N.CX P w) P w K mg base N qual sc f cdv A outer s H E p
abbrev BodyH (P : Program) (w : World) (K : PySem.W.Frag) (mg : Str → Option Value) (base : Heap) (k : Nat) (N : List Str) (qual : Str) (sc : Scope) (body : List Stmt) (F : DE → SR) : Prop :=
  ∀ (f : Addr) (cdv : Value) (A : Around) (outer : List Env) (s : Shared) (H G : Hp) (E : XK) (p : Addr × Obj), RoomH k (cxHF P w K mg base N qual sc f cdv A outer s H E p).A → HotC (cxHF P w K mg base N qual sc f cdv A outer s H E p) →
    PassesOwn (model P w) (cxHF P w K mg base N qual sc f cdv A outer s H E p).A (cxHF P w K mg base N qual sc f cdv A outer s H E p).env (cxHF P w K mg base N qual sc f cdv A outer s H E p).xe →
    Bd (cxHF P w K mg base N qual sc f cdv A outer s H E p) H G (wF fun _ _ _ => False) body F
theorem fn_dH {P : Program} {w : World} {K : PySem.W.Frag} {mg : Str → Option Value} {base : Heap} {x qual : Str} {params : Arguments} {body : List Stmt} {sc : Scope} {dvs : List V} {kws : List (Str × V)} {f : Addr} {fd : FuncData} {N ps : List Str} {k n : Nat} {F : DE → SR} (Fn : FunD K x qual params body sc dvs kws f fd) (S : FnScope N ps sc) (hn : ps.length = n)
    (hbody : BodyH P w K mg base k N qual sc body F) : FnH P w K mg base (L2N.CX P w) (k + 1) f fd ps (spN K mg (runF n N.length F)) := by
  obtain ⟨oc, od, dV, kV, doc, pm, an, cdv, ct, osl, rfl, lk, hcd, _, _⟩ := Fn.ex
  refine fn_ofH lk hcd S (fun vs H Q E h => ?_) (fun A outer s H vs Q E p hot hr h => ?_)
  · obtain ⟨G, ds, s, a, h⟩ := h
    rw [a.len, hn]
    exact runF_len h
  · obtain ⟨G, ds, sg, a, h⟩ := h
    have hl := runF_len h
    subst hl
    exact ⟨_, hbody f cdv A outer s H G E p hr ⟨p, hot, List.mem_cons_self⟩ (passes_of rfl), runF_ends sg a h⟩
/-- keywords alone or behind positional arguments, no defaults -/
theorem kbn_of {K : PySem.W.Frag} {x qual : Str} {params : Arguments} {body : List Stmt} {sc : Scope} {kws : List (Str × V)} {f : Addr} {fd : FuncData} {ps : List Str} (F : FunD K x qual params body sc [] kws f fd) (n : Nat) (ks : List Str) (g : {α : Type} → List α → List α → List α)
    (hrel : ∀ {vs zs : List V} {us ws : List Value}, Vals vs us → Vals zs ws → Vals (g vs zs) (g us ws))
    (h : ∀ (kV doc pm : Value) (an : Option Addr) (cdv ct : Value) (us ws : List Value), us.length = n → ws.length = ks.length → bindArgs (PySem.W.fnOf x qual params body sc .none kV doc pm an cdv ct) ⟨us, ks.zip ws⟩ = pure (ps.zip (g us ws))) : KBn K fd ps n ks g g := by
  obtain ⟨oc, od, dV, kV, doc, pm, an, cdv, ct, osl, rfl, lk, hcd, hD, hK⟩ := F.ex
  rcases hD with ⟨_, rfl⟩ | ⟨e, _⟩
  · exact ⟨fun s us ws _ l1 l2 => .of_eq (h kV doc pm an cdv ct us ws l1 l2), hrel⟩
  · exact absurd rfl e
end DL


set_option maxRecDepth 100000
set_option maxHeartbeats 4000000
namespace DL
open PySem PySem.Spec PyProof.Rows L2 L2H

theorem dAdd_noex : ∀ x y c fs, dAdd x y ≠ .ex c fs := fun x y c fs h => by
  cases x <;> cases y <;> simp only [dAdd] at h <;> first | (split at h <;> cases h) | cases h
theorem dSub_noex : ∀ x y c fs, dSub x y ≠ .ex c fs := fun x y c fs h => by
  cases x <;> cases y <;> simp only [dSub] at h <;> first | (split at h <;> cases h) | cases h
theorem dMul_noex : ∀ x y c fs, dMul x y ≠ .ex c fs := fun x y c fs h => by
  cases x <;> cases y <;> simp only [dMul] at h <;> first | (split at h <;> cases h) | cases h
theorem dDiv_noex : ∀ x y c fs, dDiv x y ≠ .ex c fs := fun x y c fs h => by
  cases x <;> cases y <;> simp only [dDiv] at h <;> first | (split at h <;> cases h) | cases h
theorem dMod_noex : ∀ x y c fs, dMod x y ≠ .ex c fs := fun x y c fs h => by
  cases x <;> cases y <;> simp only [dMod] at h <;> first | (split at h <;> cases h) | cases h
theorem dPow_noex : ∀ x y c fs, dPow x y ≠ .ex c fs := fun x y c fs h => by
  cases x <;> cases y <;> simp only [dPow] at h <;> first | (split at h <;> cases h) | cases h
theorem dLt_noex : ∀ x y c fs, dLt x y ≠ .ex c fs := fun x y c fs h => by
  cases x <;> cases y <;> simp only [dLt] at h <;> first | (split at h <;> cases h) | cases h
theorem dGt_noex : ∀ x y c fs, dGt x y ≠ .ex c fs := fun x y c fs h => by
  cases x <;> cases y <;> simp only [dGt] at h <;> first | (split at h <;> cases h) | cases h
theorem dLe_noex : ∀ x y c fs, dLe x y ≠ .ex c fs := fun x y c fs h => by
  cases x <;> cases y <;> simp only [dLe] at h <;> first | (split at h <;> cases h) | cases h
theorem dGe_noex : ∀ x y c fs, dGe x y ≠ .ex c fs := fun x y c fs h => by
  cases x <;> cases y <;> simp only [dGe] at h <;> first | (split at h <;> cases h) | cases h
theorem dNeg_noex : ∀ x c fs, dNeg x ≠ .ex c fs := fun x c fs h => by
  cases x <;> simp only [dNeg] at h <;> cases h
def dIsNn (neg : Bool) (d e : D) : R RV := match e with | .non => dIsN neg d | _ => .stuck
theorem dIsNn_noex {neg : Bool} : ∀ x y c fs, dIsNn neg x y ≠ .ex c fs := fun x y c fs h => by
  cases x <;> cases y <;> simp only [dIsNn, dIsN] at h <;> cases h
section
variable {X : Cx} {H0 G0 : Hp} {W : WX}
theorem opd_isN' : OpR X (compareOp .Is) (rD X.K X.mg (dIsNn false)) := opd_isN
theorem opd_notN' : OpR X (compareOp .IsNot) (rD X.K X.mg (dIsNn true)) := opd_notN
theorem takes_no : L2N.Takes X W0 := fun u s' ⟨a, B, sI, pins, σ, H, cls, d, e, I, nb, up, sky, na, os, ag, w⟩ => w.elim
theorem bt_nil : PTs X [] (tB X.K X.mg H0 W bYes) := ⟨fun pins s σ H Q I h => pts_nil.run pins s σ H Q I (by
  obtain ⟨G, δ, s, sl, h⟩ := h
  exact h H G (.refl s))⟩
theorem bt_one {c : Expr} {f : DE → R Bool} (h : Td X H0 W c f) : PTs X [c] (tB X.K X.mg H0 W f) := pts_one h
end
end DL


set_option maxRecDepth 100000
set_option maxHeartbeats 4000000
namespace DL
open PySem PySem.Spec PyProof.Rows L2 L2H

/-! ### facts of the written part, as Bools -/
def oexB (K : PySem.W.Frag) (C : Addr) : Bool := (match K.lookup C with
  | some ⟨.type "type", _, .cls cd, sl⟩ => (match cd.mro, sl.toList with
    | .ref C' :: bm, [_, _, _, _, some (.builtin n), _] => C' == C && n == "ValueError.__new__" && !cd.hasDel && cd.hasDict && PySem.HandSPX.refsVE bm
    | _, _ => false)
  | _ => false) && (He.eqO (PySem.W.findIn K (.ref C) "__setattr__") (some (some (.builtin "object.__setattr__"))) && (decide (PySem.W.subIn K (.ref C) (.type "BaseException") = some true) && (decide (PySem.W.typeIn K (.ref C) = some (.type "type")) && PySem.W.keepIn K (.ref C))))
theorem oexB_ok {K : PySem.W.Frag} {C : Addr} (q : oexB K C = true) : OexC K C := by
  unfold oexB at q
  obtain ⟨q, q2⟩ := He.ba q
  obtain ⟨h1, q3⟩ := He.ba q2
  obtain ⟨h2, q4⟩ := He.ba q3
  obtain ⟨h3, h4⟩ := He.ba q4
  refine ⟨?_, He.eqO_ok h1, of_decide_eq_true h2, of_decide_eq_true h3, h4⟩
  split at q
  · rename_i dd cd sl ho
    split at q
    · rename_i C' bm k0 k1 k2 k3 n k5 hm hs
      simp only [Bool.and_eq_true, beq_iff_eq, Bool.not_eq_true'] at q
      obtain ⟨⟨⟨⟨rfl, rfl⟩, hdel⟩, hdct⟩, hr⟩ := q
      obtain ⟨nm, bs, mro, ns, qn, hd, sn, sub, ab, col, del⟩ := cd
      dsimp only at hm hdel hdct
      subst hm hdel hdct
      have hsl : sl = #[k0, k1, k2, k3, some (.builtin "ValueError.__new__"), k5] := by
        obtain ⟨l⟩ := sl
        simp only at hs
        rw [hs]
      subst hsl
      exact ⟨nm, qn, ns, bs, bm, sn, sub, ab, col, dd, k0, k1, k2, k3, k5, ho, hr⟩
    · cases q
  · cases q
def ecB (K : PySem.W.Frag) (C : Addr) : Bool := He.eqO (PySem.W.findIn K (.ref C) "__getattribute__") (some (some (.builtin "BaseException.__getattribute__"))) && (He.eqO (PySem.W.findIn K (.ref C) "__getattr__") (some none) && (decide (PySem.W.subIn K (.ref C) (.type "BaseException") = some true) &&
  (PySem.W.hasDictIn K C && (He.eqO (PySem.W.findIn K (.ref C) "__class__") (some (some (.builtin "object.__class__"))) && (He.eqO (PySem.W.specialIn K (.builtin "object.__class__") "__get__") (some (some (.builtin "getset_descriptor.__get__"))) &&
  (decide (PySem.W.takesIn K (.builtin "object.__class__") = some true) && decide (PySem.W.mroIn K C (.type "object") = some true)))))))
theorem ecB_ok {K : PySem.W.Frag} {C : Addr} (q : ecB K C = true) : ExcC K C := by
  obtain ⟨h1, q⟩ := He.ba q
  obtain ⟨h2, q⟩ := He.ba q
  obtain ⟨h3, q⟩ := He.ba q
  obtain ⟨h4, q⟩ := He.ba q
  obtain ⟨h5, q⟩ := He.ba q
  obtain ⟨h6, q⟩ := He.ba q
  obtain ⟨h7, h8⟩ := He.ba q
  exact ⟨He.eqO_ok h1, He.eqO_ok h2, of_decide_eq_true h3, h4, He.eqO_ok h5, He.eqO_ok h6, of_decide_eq_true h7, of_decide_eq_true h8⟩
/-! ### what the text stands on -/
theorem glb_int {K : PySem.W.Frag} {mg : Str → Option Value} {x : Str} {i : Int} (h : ∃ t, mg x = some (.int i t)) : Glb K mg x (.int i) := by
  obtain ⟨t, e⟩ := h
  exact ⟨_, .int i, e, ⟨t, rfl⟩, fun _ => .int i⟩
theorem glb_str {K : PySem.W.Frag} {mg : Str → Option Value} {x z : Str} (h : ∃ t, mg x = some (.str z t)) (hz : z.cps.all (· < 0x110000) = true := by decide +kernel) : Glb K mg x (.str z) := by
  obtain ⟨t, e⟩ := h
  exact ⟨_, .str z, e, ⟨t, rfl⟩, fun _ => .str z hz⟩
theorem FnOk.up {P : Program} {w : World} {K : PySem.W.Frag} {mg : Str → Option Value} {base : Heap} {CX : CXT} {j k : Nat} {f : Addr} {fd : FuncData} {ps : List Str} {sp : Sp} (F : FnOk P w K mg base CX k f fd ps sp) (h : k ≤ j) : FnOk P w K mg base CX j f fd ps sp :=
  ⟨F.len, fun A outer s H args us vs Q E r => F.run A outer s H args us vs Q E (r.mono h)⟩
theorem fn_stuck {P : Program} {w : World} {K : PySem.W.Frag} {mg : Str → Option Value} {base : Heap} {CX : CXT} {k : Nat} {f : Addr} {fd : FuncData} {ps : List Str} : FnOk P w K mg base CX k f fd ps (spD K mg fun _ => .stuck) :=
  ⟨fun vs H Q E h => by obtain ⟨_, _, _, _, z⟩ := h; exact z.elim, fun A outer s H args us vs Q E r e b v h => by obtain ⟨_, _, _, _, z⟩ := h; exact z.elim⟩
/-- a def that calls itself, by its depth -/
def fuelF (step : (List D → R RV) → List D → R RV) : Nat → List D → R RV
  | 0 => fun _ => .stuck
  | n + 1 => step (fuelF step n)
section
variable {P : Program} {w : World} {K : PySem.W.Frag} {mg : Str → Option Value} {base : Heap} {x qual : Str} {params : Arguments} {body : List Stmt} {sc : Scope} {f : Addr} {fd : FuncData} {N ps : List Str}
/-- how a def is bound without defaults: h by cases on the arguments -/
theorem cal_of {k n : Nat} {F : DE → SR} (Fn : FunD K x qual params body sc [] [] f fd) (S : FnScope N ps sc) (hn : ps.length = n) (hm : mg x = some (.ref f)) (b : Binds K fd ps []) (hbody : BodyD P w K mg base k N qual sc body F) : CalD P w K mg base (k + 1) x (runF n N.length F) :=
  ⟨f, fd, ps, fn_d Fn S hn hbody, hm, Fn.kp, b⟩
theorem calH_of {k n : Nat} {F : DE → SR} (Fn : FunD K x qual params body sc [] [] f fd) (S : FnScope N ps sc) (hn : ps.length = n) (hm : mg x = some (.ref f)) (b : Binds K fd ps []) (hbody : BodyH P w K mg base k N qual sc body F) : CalH P w K mg base (k + 1) x (runF n N.length F) :=
  ⟨f, fd, ps, fn_dH Fn S hn hbody, hm, Fn.kp, b⟩
theorem cal_rec {k0 n : Nat} {F : (List D → R RV) → DE → SR} (Fn : FunD K x qual params body sc [] [] f fd) (S : FnScope N ps sc) (hn : ps.length = n) (hm : mg x = some (.ref f)) (b : Binds K fd ps []) (hbody : ∀ k g, k0 ≤ k → CalD P w K mg base k x g → BodyD P w K mg base k N qual sc body (F g)) :
    ∀ m, CalD P w K mg base (k0 + m) x (fuelF (fun g => runF n N.length (F g)) m)
  | 0 => ⟨f, fd, ps, fn_stuck, hm, Fn.kp, b⟩
  | m + 1 => ⟨f, fd, ps, fn_d Fn S hn (hbody (k0 + m) _ (by omega) (cal_rec Fn S hn hm b hbody m)), hm, Fn.kp, b⟩
/-- called by keywords -/
theorem calK_of {k n m : Nat} {ks : List Str} {F : DE → SR} (Fn : FunD K x qual params body sc [] [] f fd) (S : FnScope N ps sc) (hn : ps.length = n) (hm : mg x = some (.ref f)) (g : {α : Type} → List α → List α → List α)
    (hrel : ∀ {vs zs : List V} {us ws : List Value}, Vals vs us → Vals zs ws → Vals (g vs zs) (g us ws))
    (h : ∀ (kV doc pm : Value) (an : Option Addr) (cdv ct : Value) (us ws : List Value), us.length = m → ws.length = ks.length → bindArgs (PySem.W.fnOf x qual params body sc .none kV doc pm an cdv ct) ⟨us, ks.zip ws⟩ = pure (ps.zip (g us ws)))
    (hp : ∀ (G : Hp) (vs zs : List V) (ds es : List D), ds.length = m → es.length = ks.length → DpAll K mg G vs ds → DpAll K mg G zs es → DpAll K mg G (g vs zs) (g ds es))
    (hbody : BodyD P w K mg base k N qual sc body F) : CalK P w K mg base (k + 1) x m ks g (runF n N.length F) :=
  ⟨f, fd, ps, g, g, fn_d Fn S hn hbody, hm, Fn.kp, kbn_of Fn m ks g hrel h, hp⟩
/-- keywords alone -/
def gKw {α : Type} (_ zs : List α) : List α := zs
end
end DL


set_option maxRecDepth 100000
set_option maxHeartbeats 4000000
namespace DL
open PySem PySem.Spec PyProof.Rows L2 L2H
/-! ### places picked -/
def pickL {α : Type} (is : List Nat) (l : List α) : List α := is.filterMap fun i => l[i]?
theorem vals_pick {vs : List V} {us : List Value} (r : Vals vs us) : ∀ is : List Nat, Vals (pickL is vs) (pickL is us)
  | [] => .nil
  | i :: is => by
    have hl := r.length
    unfold pickL
    cases e : vs[i]? with
    | none =>
      have e2 : us[i]? = none := by
        rw [List.getElem?_eq_none_iff] at e ⊢
        omega
      rw [List.filterMap_cons_none e, List.filterMap_cons_none e2]
      exact vals_pick r is
    | some v =>
      obtain ⟨u, e2, rv⟩ := r.get e
      rw [List.filterMap_cons_some e, List.filterMap_cons_some e2]
      exact .cons rv (vals_pick r is)
theorem dp_pick {K : PySem.W.Frag} {mg : Str → Option Value} {G : Hp} {vs : List V} {ds : List D} (r : DpAll K mg G vs ds) : ∀ is : List Nat, DpAll K mg G (pickL is vs) (pickL is ds)
  | [] => .nil
  | i :: is => by
    have hl := r.len
    unfold pickL
    cases e : vs[i]? with
    | none =>
      have e2 : ds[i]? = none := by
        rw [List.getElem?_eq_none_iff] at e ⊢
        omega
      rw [List.filterMap_cons_none e, List.filterMap_cons_none e2]
      exact dp_pick r is
    | some v =>
      obtain ⟨u, e2, rv⟩ := r.getV e
      rw [List.filterMap_cons_some e, List.filterMap_cons_some e2]
      exact .cons rv (dp_pick r is)
/-! ### the law's end -/
def noList (K : PySem.W.Frag) : Bool := K.all fun q => match q.2.cls with
  | .type c => !(decide (c = "list"))
  | _ => true
theorem noList_ok {K : PySem.W.Frag} {H : Hp} {a : Addr} {xs : List V} (h : noList K = true) (s : SqL K H a xs) : Rd H a (.lst xs) := by
  rcases s with s | ⟨o, its, n, hk, hc, _⟩
  · exact s
  · exfalso
    have m := He.lookup_mem hk
    have z := List.all_eq_true.mp h _ m
    simp only [hc] at z
    cases z
theorem dpall_ints {K : PySem.W.Frag} {mg : Str → Option Value} {G : Hp} : ∀ ns : List Int, DpAll K mg G (ns.map V.int) (ns.map D.int)
  | [] => .nil
  | n :: ns => .cons (.int n) (dpall_ints ns)
theorem law_end {K : PySem.W.Frag} {mg : Str → Option Value} {g : List D → R RV} (hg : ∀ ns : List Int, ns.length ≤ 63 → g [.lst (ns.map D.int)] = .ok (.fr (.bl true))) (hK : noList K = true) {H : Hp} {a : Addr} (ns : List Int) (hl : ns.length ≤ 63) (s : SqL K H a (ns.map V.int)) :
    spD K mg g [.ref a] H (fun v _ => v = .bl true) fun _ _ _ => False := by
  refine ⟨H, [.lst (ns.map D.int)], Same.refl _, .cons (.lst (noList_ok hK s) (dpall_ints ns)) .nil, ?_⟩
  rw [hg ns hl]
  intro v H' G' g' p
  cases p
  rfl

/-- HandS.HeadEnd's end, what a def may let out hanging on the world -/
theorem walk_ofW {l : PySem.W.OpenLaw} {n k : Nat} {q : Program} {loose : List Str} {XP : (Str → Option Value) → Heap → Prop} {YP : World → Heap → Prop} {d : DefRec} {CX : World → CXT} {x : Str}
    (hn : l.most = some n) (hn2 : n ≤ sizeLine) (hdf : d.params.defaults = []) (hr : Room k callerA)
    (F : ∀ (w : World) (mg : Str → Option Value) (fa : Addr) (h : Heap), YP w h → h.Ns mainGlobals mg → mg d.name = some (.ref fa) →
      ∃ (K : PySem.W.Frag) (fd : FuncData) (sp : Sp), K.In h ∧ (∀ (s : Shared) (u : Value), BindsTo s fd ⟨[u], []⟩ [(x, u)]) ∧
        (∀ (H : Hp) (a : Addr) (ns : List Int), ns.length ≤ n → Only H → SqL K H a (ns.map V.int) → sp [.ref a] H (fun v _ => v = .bl true) fun _ _ _ => False) ∧
        ∀ base : Heap, K.In base → base.Ns mainGlobals mg → FnOk l.prog w K mg base (CX w) k fa fd [x] sp)
    (hCX : ∀ (w : World) (H : Hp) (s : Shared) (e : Value) (s' : Shared), CX w [] H s (fun _ _ _ => False) e s' → False) :
    PySem.W.WalkO q loose XP YP l.row.toRowW d [] (fun f vs => PySem.call f vs) := by
  refine Att.attach_call hn hdf fun w s₀ s₁ mg mb fa o pm cd doc a vs ns G Y ho hd hcd hmg hobj hints hlen hg => ?_
  obtain ⟨K, fd, sp, KX, hb, hsp, hF⟩ := F w mg fa _ Y G.T.g hmg
  exact law_call KX G.T.g G.T.b G.T.builtins G.T.nolimit hg hobj hints (Nat.le_trans hlen hn2) hr hF hb (fun H hO hS => hsp H a ns hlen hO hS) fun H e s' => hCX w H s₁ e s'
end DL


set_option maxRecDepth 100000
set_option maxHeartbeats 4000000
namespace K25
noncomputable section
open PySem PySem.Spec PyProof.Rows L2 L2H DL
def topS (i : Nat) : Stmt := PySem.Challenge.pw_pilerecall_k25_pieces.main.body.getD i (.Pass ⟨0, 0, 0, 0⟩)
def pm_unfold_k0_pieces {α : Type} (vs zs : List α) : List α := pickL [0] (vs ++ zs)
def pm_height_of_k0_pieces {α : Type} (vs zs : List α) : List α := pickL [0] (vs ++ zs)
abbrev c_MOST_SYMBOLS : D := .int 10000
abbrev s_height_of : Stmt := topS 23
theorem sc_height_of : FnScope ["pieces", "symbols", "times"] ["pieces"] (defScope s_height_of) := ⟨rfl, rfl, rfl, by decide +kernel, rfl, by decide +kernel, by decide +kernel⟩
def F_height_of : DE → SR :=
  (sSeq ((sRet (fCall dSum (aCons (fLc (iSeq (getV 0)) [1, 2] (gTLD [1, 2]) bYes (fBin dMul (fCall dLen (aCons (getV 1) aNil)) (getV 2))) aNil))))
  sNil)
def g_height_of : List D → R RV := runF 1 3 F_height_of
abbrev s_unfold : Stmt := topS 24
theorem sc_unfold : FnScope ["pieces", "length", "stack", "symbols", "times"] ["pieces"] (defScope s_unfold) := ⟨rfl, rfl, rfl, by decide +kernel, rfl, by decide +kernel, by decide +kernel⟩
def F_unfold : DE → SR :=
  (sSeq ((sSet 1 (fCall (g_height_of) (aCons (getV 0) aNil))))
  (sSeq ((sFrz 1 (sIf (fB (fBin dGt (getV 1) (cst c_MOST_SYMBOLS))) (sSeq ((sRaise "TooLong" ["length"] (aCons (getV 1) aNil)))
  sNil) sNil)))
  (sSeq ((sSet 2 (fLst 0 aNil)))
  (sSeq ((sFor (iSeq (getV 0)) (gTLD [3, 4]) (sSeq ((sIf (fB (fBin dGt (fCall dLen (aCons (getV 3) aNil)) (cst (.int 0)))) (sSeq ((sFrz 2 (sSet 2 (fBin dAdd (getV 2) (fBin dMul (fCall dList (aCons (getV 3) aNil)) (getV 4))))))
  sNil) sNil))
  sNil) [3, 4]))
  (sSeq ((sFrz 2 (sRet (fCall dTuple (aCons (getV 2) aNil)))))
  sNil)))))
def g_unfold : List D → R RV := runF 1 5 F_unfold
abbrev s_law_whole : Stmt := topS 26
theorem sc_law_whole : FnScope ["value"] ["value"] (defScope s_law_whole) := ⟨rfl, rfl, rfl, by decide +kernel, rfl, by decide +kernel, by decide +kernel⟩
def F_law_whole : DE → SR :=
  (sSeq ((sRet ((fAnd (fUn (dIs .int) (getV 0)) (fNot (fUn (dIs .bool) (getV 0)))))))
  sNil)
def g_law_whole : List D → R RV := runF 1 1 F_law_whole
def Fh_law_whole : DE → SR :=
  (sSeq ((sRet ((fAnd (fUn (dIs .int) (getV 0)) (fNot (fUn (dIs .bool) (getV 0)))))))
  sNil)
def h_law_whole : List D → R RV := runF 1 1 Fh_law_whole
abbrev s_law_same : Stmt := topS 27
theorem sc_law_same : FnScope ["told", "due", "k"] ["told", "due"] (defScope s_law_same) := ⟨rfl, rfl, rfl, by decide +kernel, rfl, by decide +kernel, by decide +kernel⟩
def F_law_same (g : List D → R RV) : DE → SR :=
  (sSeq ((sIf (fT (fUn (dIs .tuple) (getV 1))) (sSeq ((sIf ((bOr (bNot (fT (fUn (dIs .tuple) (getV 0)))) (fB (fBin (dEq true) (fCall dLen (aCons (getV 0) aNil)) (fCall dLen (aCons (getV 1) aNil)))))) (sSeq ((sRet (cst (.bl false))))
  sNil) sNil))
  (sSeq ((sFor (iArgs rng1 (aCons (fCall dLen (aCons (getV 1) aNil)) aNil)) (gSet 2) (sSeq ((sIf (bNot (fT (fCall (g) (aCons (fBin dIx (getV 0) (getV 2)) (aCons (fBin dIx (getV 1) (getV 2)) aNil))))) (sSeq ((sRet (cst (.bl false))))
  sNil) sNil))
  sNil) [2]))
  (sSeq ((sRet (cst (.bl true))))
  sNil))) sNil))
  (sSeq ((sIf (fB (fBin (dIsNn false) (getV 1) (cst .non))) (sSeq ((sRet (fBin (dIsNn false) (getV 0) (cst .non))))
  sNil) sNil))
  (sSeq ((sIf (fT (fUn (dIs .bool) (getV 1))) (sSeq ((sRet ((fAnd (fUn (dIs .bool) (getV 0)) (fBin (dEq false) (getV 0) (getV 1))))))
  sNil) sNil))
  (sSeq ((sIf (fT (fUn (dIs .int) (getV 1))) (sSeq ((sRet ((fAnd (fCall (g_law_whole) (aCons (getV 0) aNil)) (fBin (dEq false) (getV 0) (getV 1))))))
  sNil) sNil))
  (sSeq ((sRet ((fAnd (fUn (dIs .str) (getV 0)) (fBin (dEq false) (getV 0) (getV 1))))))
  sNil)))))
def g_law_same : List D → R RV := fuelF (fun g => runF 2 3 (F_law_same g)) 8
def Fh_law_same : DE → SR :=
  (sSeq ((sIf (fT (fUn (dIs .tuple) (getV 1))) (sSeq ((sIf ((bOr (bNot (fT (fUn (dIs .tuple) (getV 0)))) (fB (fBin (dEq true) (fCall dLen (aCons (getV 0) aNil)) (fCall dLen (aCons (getV 1) aNil)))))) (sSeq ((sRet (cst (.bl false))))
  sNil) sNil))
  (sSeq ((fun _ => .stuck))
  (sSeq ((sRet (cst (.bl true))))
  sNil))) sNil))
  (sSeq ((sIf (fB (fBin (dIsNn false) (getV 1) (cst .non))) (sSeq ((sRet (fBin (dIsNn false) (getV 0) (cst .non))))
  sNil) sNil))
  (sSeq ((sIf (fT (fUn (dIs .bool) (getV 1))) (sSeq ((sRet ((fAnd (fUn (dIs .bool) (getV 0)) (fBin (dEq false) (getV 0) (getV 1))))))
  sNil) sNil))
  (sSeq ((sIf (fT (fUn (dIs .int) (getV 1))) (sSeq ((sRet ((fAnd (fCallH (h_law_whole) (aCons (getV 0) aNil)) (fBin (dEq false) (getV 0) (getV 1))))))
  sNil) sNil))
  (sSeq ((sRet ((fAnd (fUn (dIs .str) (getV 0)) (fBin (dEq false) (getV 0) (getV 1))))))
  sNil)))))
def h_law_same : List D → R RV := runF 2 3 Fh_law_same
abbrev s_law_cell : Stmt := topS 28
theorem sc_law_cell : FnScope ["script", "k", "seed", "cell"] ["script", "k"] (defScope s_law_cell) := ⟨rfl, rfl, rfl, by decide +kernel, rfl, by decide +kernel, by decide +kernel⟩
def F_law_cell : DE → SR :=
  (sSeq ((sIf (fB (fBin dLt (getV 1) (fCall dLen (aCons (getV 0) aNil)))) (sSeq ((sRet (fBin dIx (getV 0) (getV 1))))
  sNil) sNil))
  (sSeq ((sSet 2 (cst (.int 17))))
  (sSeq ((sFor (iSeq (getV 0)) (gSet 3) (sSeq ((sSet 2 (fBin dMod (fCall dInt (aCons (fBin dAdd (fBin dMul (getV 2) (cst (.int 31))) (fBin dMod (fCall dInt (aCons (getV 3) aNil)) (cst (.int 1000003)))) aNil)) (cst (.int 1000003)))))
  sNil) [3]))
  (sSeq ((sRet (fBin dMod (fCall dInt (aCons (fBin dMul (fBin dMul (fBin dAdd (getV 2) (cst (.int 7))) (fBin dAdd (getV 1) (cst (.int 3)))) (cst (.int 69621))) aNil)) (cst (.int 2147483647)))))
  sNil))))
def g_law_cell : List D → R RV := runF 2 4 F_law_cell
abbrev s_law_digits : Stmt := topS 29
theorem sc_law_digits : FnScope ["cell", "sizes", "row", "rest", "size", "seed", "k", "twice"] ["cell", "sizes"] (defScope s_law_digits) := ⟨rfl, rfl, rfl, by decide +kernel, rfl, by decide +kernel, by decide +kernel⟩
def F_law_digits : DE → SR :=
  (sSeq ((sSet 2 (fLst 0 aNil)))
  (sSeq ((sSet 3 (fCall dInt (aCons (getV 0) aNil))))
  (sSeq ((sIf (fB (fBin dGe (getV 3) (fBin dPow (cst (.int 10)) (cst (.int 18))))) (sSeq ((sSet 3 (fBin dSub (getV 3) (fBin dPow (cst (.int 10)) (cst (.int 18))))))
  (sSeq ((sFor (iSeq (getV 1)) (gSet 4) (sSeq ((sOwn 2 gAppend (aCons (fBin dMod (fCall dInt (aCons (getV 3) aNil)) (getV 4)) aNil)))
  (sSeq ((sSet 3 (fBin dDiv (fCall dInt (aCons (getV 3) aNil)) (getV 4))))
  sNil)) [4]))
  (sSeq (sRetV 2)
  sNil))) sNil))
  (sSeq ((sSet 5 (fBin dMod (fCall dInt (aCons (getV 3) aNil)) (cst (.int 2147483629)))))
  (sSeq ((sFor (iArgs rng1 (aCons (fCall dLen (aCons (getV 1) aNil)) aNil)) (gSet 6) (sSeq ((sSet 5 (fBin dMod (fCall dInt (aCons (fBin dAdd (fBin dAdd (fBin dMul (getV 5) (cst (.int 48271))) (fBin dMul (cst (.int 974711)) (getV 6))) (cst (.int 12345))) aNil)) (cst (.int 2147483647)))))
  (sSeq ((sSet 7 (fBin dMod (fCall dInt (aCons (fBin dMul (getV 5) (fBin dAdd (fBin dDiv (getV 5) (cst (.int 65537))) (cst (.int 3)))) aNil)) (cst (.int 2147483629)))))
  (sSeq ((sOwn 2 gAppend (aCons (fBin dMod (fBin dDiv (getV 7) (cst (.int 19))) (fBin dIx (getV 1) (getV 6))) aNil)))
  sNil))) [6, 7]))
  (sSeq (sRetV 2)
  sNil))))))
def g_law_digits : List D → R RV := runF 2 8 F_law_digits
abbrev s_law_piece : Stmt := topS 30
theorem sc_law_piece : FnScope ["cell", "signs", "row", "symbols", "k", "part", "one"] ["cell"] (defScope s_law_piece) := ⟨rfl, rfl, rfl, by decide +kernel, rfl, by decide +kernel, by decide +kernel⟩
def F_law_piece : DE → SR :=
  (sSeq ((sSet 1 (cst (.str "abcdefghijklmnopqrstuvwxyzABCDEFGHIJKLMNOPQRSTUVWXYZ0123456789"))))
  (sSeq ((sSet 2 (fCall (g_law_digits) (aCons (getV 0) (aCons (fBin dAdd (fBin dAdd (fLst 2 (aCons (cst (.int 6)) (aCons (cst (.int 40)) aNil))) (fBin dMul (fLst 1 (aCons (cst (.int 8)) aNil)) (cst (.int 6)))) (fBin dMul (fLst 1 (aCons (cst (.int 62)) aNil)) (cst (.int 48)))) aNil)))))
  (sSeq ((sSet 3 (fLst 0 aNil)))
  (sSeq ((sFrz 2 (sFor (iArgs rng1 (aCons (fBin dAdd (fBin dIx (getV 2) (cst (.int 0))) (cst (.int 1))) aNil)) (gSet 4) (sSeq ((sSet 5 (fSl (getV 2) (pInt (fBin dAdd (cst (.int 8)) (fBin dMul (cst (.int 8)) (getV 4)))) (pInt (fBin dAdd (fBin dAdd (cst (.int 9)) (fBin dMul (cst (.int 8)) (getV 4))) (fBin dIx (getV 2) (fBin dAdd (cst (.int 2)) (getV 4))))))))
  (sSeq ((sFrz 5 (sOwn 3 gAppend (aCons (fM1 isStrD dJoin2 (cst (.str "")) (fLc (iSeq (getV 5)) [6] (gSet 6) bYes (fBin dIx (getV 1) (getV 6)))) aNil))))
  sNil)) [4, 5])))
  (sSeq ((sFrz 3 (sRet (fTup 2 (aCons (fCall dTuple (aCons (getV 3) aNil)) (aCons (fBin dAdd (fBin dIx (getV 2) (cst (.int 1))) (cst (.int 1))) aNil))))))
  sNil)))))
def g_law_piece : List D → R RV := runF 1 7 F_law_piece
abbrev s_law_shaped : Stmt := topS 31
theorem sc_law_shaped : FnScope ["parts", "shape", "made", "piece", "symbols"] ["parts", "shape"] (defScope s_law_shaped) := ⟨rfl, rfl, rfl, by decide +kernel, rfl, by decide +kernel, by decide +kernel⟩
def F_law_shaped : DE → SR :=
  (sSeq ((sSet 2 (fLst 0 aNil)))
  (sSeq ((sFor (iSeq (getV 0)) (gSet 3) (sSeq ((sSet 4 (fBin dIx (getV 3) (cst (.int 0)))))
  (sSeq ((sIf (fB (fBin (dEq false) (fBin dMod (fCall dInt (aCons (getV 1) aNil)) (cst (.int 2))) (cst (.int 1)))) (sSeq ((sSet 4 (fCall dList (aCons (getV 4) aNil))))
  sNil) sNil))
  (sSeq ((sIf (fB (fBin (dEq false) (fBin dMod (fBin dDiv (fCall dInt (aCons (getV 1) aNil)) (cst (.int 2))) (cst (.int 2))) (cst (.int 1)))) (sSeq ((sFrz 4 (sOwn 2 gAppend (aCons (fLst 2 (aCons (getV 4) (aCons (fBin dIx (getV 3) (cst (.int 1))) aNil))) aNil))))
  sNil) (sSeq ((sFrz 4 (sOwn 2 gAppend (aCons (fTup 2 (aCons (getV 4) (aCons (fBin dIx (getV 3) (cst (.int 1))) aNil))) aNil))))
  sNil)))
  sNil))) [3, 4]))
  (sSeq ((sIf (fB (fBin (dEq false) (fBin dMod (fBin dDiv (fCall dInt (aCons (getV 1) aNil)) (cst (.int 4))) (cst (.int 2))) (cst (.int 1)))) (sSeq (sRetV 2)
  sNil) sNil))
  (sSeq ((sFrz 2 (sRet (fCall dTuple (aCons (getV 2) aNil)))))
  sNil))))
def g_law_shaped : List D → R RV := runF 2 5 F_law_shaped
abbrev s_law_right : Stmt := topS 32
theorem sc_law_right : FnScope ["parts", "shape", "given", "kept", "total", "due", "piece", "length", "back", "e", "other", "third"] ["parts", "shape"] (defScope s_law_right) := ⟨rfl, rfl, rfl, by decide +kernel, rfl, by decide +kernel, by decide +kernel⟩
def law_right_h0_TooLong (a dd : Addr) : DE → SR := (sSeq ((sSet 10 (fIsE a dd "TooLong" false (getV 9))))
  (sSeq ((sSet 11 (fIsE a dd "TooLong" false (getV 9))))
  (sSeq ((sIf ((bOr (fT (getV 10)) (bOr (fT (getV 11)) (bOr (bNot (fT (fIsE a dd "TooLong" true (getV 9)))) (bNot (fT (fIsE a dd "TooLong" true (getV 9)))))))) (sSeq ((sRet (cst (.bl false))))
  sNil) sNil))
  (sSeq ((sIf (bNot (fT (fCallH (h_law_same) (aCons (fXf a dd "TooLong" "length" (getV 9)) (aCons (getV 4) aNil))))) (sSeq ((sRet (cst (.bl false))))
  sNil) sNil))
  (sSeq ((sSet 7 (fXf a dd "TooLong" "length" (getV 9))))
  sNil)))))
def law_right_h0 (c : Str) : Option (Addr → Addr → DE → SR) := if c = "TooLong" then some law_right_h0_TooLong else none
theorem law_right_h0_of {c : Str} {g : Addr → Addr → DE → SR} (h : law_right_h0 c = some g) : (c = "TooLong" ∧ g = law_right_h0_TooLong) := by
  unfold law_right_h0 at h
  split at h
  · exact ⟨by assumption, (Option.some.inj h).symm⟩
  · cases h
def F_law_right : DE → SR :=
  (sSeq ((sSet 2 (fCall (g_law_shaped) (aCons (getV 0) (aCons (getV 1) aNil)))))
  (sSeq ((sSet 3 (fCall (g_law_shaped) (aCons (getV 0) (aCons (getV 1) aNil)))))
  (sSeq ((sSet 4 (cst (.int 0))))
  (sSeq ((sSet 5 (fLst 0 aNil)))
  (sSeq ((sFor (iSeq (getV 0)) (gSet 6) (sSeq ((sSet 4 (fBin dAdd (getV 4) (fBin dMul (fCall dLen (aCons (fBin dIx (getV 6) (cst (.int 0))) aNil)) (fBin dIx (getV 6) (cst (.int 1)))))))
  (sSeq ((sIf (fB (fBin dLe (getV 4) (cst (.int 10000)))) (sSeq ((sFrz 5 (sSet 5 (fBin dAdd (getV 5) (fBin dMul (fCall dList (aCons (fBin dIx (getV 6) (cst (.int 0))) aNil)) (fBin dIx (getV 6) (cst (.int 1))))))))
  sNil) sNil))
  sNil)) [6]))
  (sSeq ((sFrz 3 (sFrz 2 (sIf ((bOr (bNot (fT (fCall (g_law_same) (aCons (fCall (g_height_of) (aCons (getV 2) aNil)) (aCons (getV 4) aNil))))) (bOr (bNot (fT (fCall (g_law_same) (aCons (fCallK 0 1 pm_height_of_k0_pieces (g_height_of) aNil (aCons (getV 2) aNil)) (aCons (getV 4) aNil))))) (fB (fBin (dEq true) (getV 2) (getV 3)))))) (sSeq ((sRet (cst (.bl false))))
  sNil) sNil))))
  (sSeq ((sSet 7 (fUn dNeg (cst (.int 1)))))
  (sSeq ((sSet 8 (cst .non)))
  (sSeq ((sTry 9 (sSeq ((sIf (fB (fBin (dEq false) (fBin dMod (fCall dInt (aCons (getV 1) aNil)) (cst (.int 2))) (cst (.int 1)))) (sSeq ((sSet 8 (fCallK 0 1 pm_unfold_k0_pieces (g_unfold) aNil (aCons (getV 2) aNil))))
  sNil) (sSeq ((sSet 8 (fCall (g_unfold) (aCons (getV 2) aNil))))
  sNil)))
  sNil) law_right_h0))
  (sSeq ((sFrz 7 (sIf ((bOr (fB (fBin (dEq true) (getV 2) (getV 3))) ((bAnd (fB (fBin dGt (getV 4) (cst (.int 10000)))) (fB (fBin (dEq true) (getV 7) (getV 4))))))) (sSeq ((sRet (cst (.bl false))))
  sNil) sNil)))
  (sSeq ((sFrz 5 (sFrz 8 (sRet ((fOr (fBin dGt (getV 4) (cst (.int 10000))) ((fAnd (fBin (dEq false) (getV 7) (fUn dNeg (cst (.int 1)))) (fCall (g_law_same) (aCons (getV 8) (aCons (fCall dTuple (aCons (getV 5) aNil)) aNil)))))))))))
  sNil)))))))))))
def g_law_right : List D → R RV := runF 2 12 F_law_right
abbrev s_law : Stmt := topS 33
theorem sc_law : FnScope ["script", "head", "parts", "k", "at", "rest", "piece", "times", "back"] ["script"] (defScope s_law) := ⟨rfl, rfl, rfl, by decide +kernel, rfl, by decide +kernel, by decide +kernel⟩
def F_law : DE → SR :=
  (sSeq ((sSet 1 (fCall (g_law_digits) (aCons (fCall (g_law_cell) (aCons (getV 0) (aCons (cst (.int 0)) aNil))) (aCons (fLst 6 (aCons (cst (.int 8)) (aCons (cst (.int 8)) (aCons (cst (.int 5)) (aCons (cst (.int 9)) (aCons (cst (.int 8)) (aCons (cst (.int 3)) aNil))))))) aNil)))))
  (sSeq ((sSet 2 (fLst 0 aNil)))
  (sSeq ((sFrz 1 (sFor (iArgs rng1 (aCons (fBin dIx (getV 1) (cst (.int 0))) aNil)) (gSet 3) (sSeq ((sOwn 2 gAppend (aCons (fCall (g_law_piece) (aCons (fCall (g_law_cell) (aCons (getV 0) (aCons (fBin dAdd (cst (.int 2)) (getV 3)) aNil))) aNil)) aNil)))
  sNil) [])))
  (sSeq ((sSet 4 (fView (fBin dMod (fCall dInt (aCons (fBin dIx (getV 1) (cst (.int 3))) aNil)) (fBin dAdd (fCall dLen (aCons (getV 2) aNil)) (cst (.int 1)))))))
  (sSeq ((sIf (fB (fBin dGe (fBin dIx (getV 1) (cst (.int 1))) (cst (.int 6)))) (sSeq ((sSet 5 (fView (fBin dSub (fBin dIx (fLst 5 (aCons (cst (.int 9999)) (aCons (cst (.int 10000)) (aCons (cst (.int 10001)) (aCons (cst (.int 10000)) (aCons (cst (.int 10001)) aNil)))))) (fBin dIx (getV 1) (cst (.int 2)))) (fCall dSum (aCons (fLc (iSeq (getV 2)) [6] (gSet 6) bYes (fBin dMul (fCall dLen (aCons (fBin dIx (getV 6) (cst (.int 0))) aNil)) (fBin dIx (getV 6) (cst (.int 1))))) aNil))))))
  (sSeq ((sOwn 2 gInsert (aCons (getV 4) (aCons (fTup 2 (aCons (fTup 1 (aCons (cst (.str "z9")) aNil)) (aCons (getV 5) aNil))) aNil))))
  sNil)) (sSeq ((sIf (fB (fBin dGe (fBin dIx (getV 1) (cst (.int 1))) (cst (.int 4)))) (sSeq ((sSet 7 (fBin dAdd (fBin dIx (fLst 5 (aCons (cst (.int 1)) (aCons (fBin dPow (cst (.int 10)) (cst (.int 4))) (aCons (fBin dPow (cst (.int 10)) (cst (.int 9))) (aCons (fBin dPow (cst (.int 10)) (cst (.int 30))) (aCons (fBin dPow (cst (.int 10)) (cst (.int 60))) aNil)))))) (fBin dIx (getV 1) (cst (.int 2)))) (fCall dAbs (aCons (fCall (g_law_cell) (aCons (getV 0) (aCons (cst (.int 1)) aNil))) aNil)))))
  (sSeq ((sOwn 2 gInsert (aCons (getV 4) (aCons (fTup 2 (aCons (fSl (fTup 3 (aCons (cst (.str "Q")) (aCons (cst (.str "q")) (aCons (cst (.str "0")) aNil)))) pNone (pInt (fBin dAdd (cst (.int 1)) (fBin dIx (getV 1) (cst (.int 5)))))) (aCons (getV 7) aNil))) aNil))))
  sNil)) sNil))
  sNil)))
  (sSeq ((sFrz 2 (sIf (bNot (fT (fCall (g_law_right) (aCons (getV 2) (aCons (fBin dIx (getV 1) (cst (.int 4))) aNil))))) (sSeq ((sRet (cst (.bl false))))
  sNil) sNil)))
  (sSeq ((sSet 8 (fLc (iArgs rng1 (aCons (fCall dLen (aCons (getV 2) aNil)) aNil)) [3] (gSet 3) bYes (fBin dIx (getV 2) (fBin dSub (fBin dSub (fCall dLen (aCons (getV 2) aNil)) (cst (.int 1))) (getV 3))))))
  (sSeq ((sFrz 8 (sRet ((fAnd (fCall (g_law_right) (aCons (getV 8) (aCons (fBin dMod (fCall dInt (aCons (fBin dAdd (fBin dIx (getV 1) (cst (.int 4))) (cst (.int 3))) aNil)) (cst (.int 8))) aNil))) (fCall (g_law_right) (aCons (getV 2) (aCons (fBin dIx (getV 1) (cst (.int 4))) aNil))))))))
  sNil))))))))
def g_law : List D → R RV := runF 1 9 F_law
end
end K25


set_option maxRecDepth 100000
set_option maxHeartbeats 4000000
namespace K25
open PySem PySem.Spec PyProof.Rows L2 L2H DL
structure Zs (K : PySem.W.Frag) (mg : Str → Option Value) : Prop where
  z_ValueError : mg "ValueError" = none
  z_abs : mg "abs" = none
  z_bool : mg "bool" = none
  z_int : mg "int" = none
  z_isinstance : mg "isinstance" = none
  z_len : mg "len" = none
  z_list : mg "list" = none
  z_range : mg "range" = none
  z_str : mg "str" = none
  z_sum : mg "sum" = none
  z_tuple : mg "tuple" = none
  c_MOST_SYMBOLS : Glb K mg "MOST_SYMBOLS" c_MOST_SYMBOLS
  t_RecallError : mg "RecallError" = some (.ref (He.ga K "RecallError"))
structure Sx_TooLong (K : PySem.W.Frag) (mg : Str → Option Value) : Prop where
  xf : ∀ C, mg "TooLong" = some (.ref C) → XfC K C
  ec : ∀ C, mg "TooLong" = some (.ref C) → ExcC K C
  nf_length : ∀ C, mg "TooLong" = some (.ref C) → PySem.W.findIn K (.ref C) "length" = some none
  is0 : ∀ C, mg "TooLong" = some (.ref C) → PySem.W.kitAny K (.ref C) [.ref (He.ga K "BadMachine"), .ref (He.ga K "BadLine"), .ref (He.ga K "BadText"), .ref (He.ga K "Guesses"), .ref (He.ga K "BadStanding"), .ref (He.ga K "BadSurface"), .ref (He.ga K "BadSplice"), .ref (He.ga K "NothingToUndo"), .ref (He.ga K "BadDeed")] = some false
  is1 : ∀ C, mg "TooLong" = some (.ref C) → PySem.W.kitAny K (.ref C) [.ref (He.ga K "BadTree"), .ref (He.ga K "DoubleName"), .ref (He.ga K "NoSuchProcedure"), .ref (He.ga K "BadToken"), .ref (He.ga K "UnlikeLetters"), .ref (He.ga K "BadCode"), .ref (He.ga K "BadPaper"), .ref (He.ga K "BadGrammar"), .ref (He.ga K "NoSuchProgram")] = some false
  is2 : ∀ C, mg "TooLong" = some (.ref C) → PySem.W.kitOne K (.ref C) (.ref (He.ga K "TooLong")) = some true
  is3 : ∀ C, mg "TooLong" = some (.ref C) → PySem.W.kitOne K (.ref C) (.type "ValueError") = some true
  cl_BadCode : mg "BadCode" = some (.ref (He.ga K "BadCode"))
  cl_BadDeed : mg "BadDeed" = some (.ref (He.ga K "BadDeed"))
  cl_BadGrammar : mg "BadGrammar" = some (.ref (He.ga K "BadGrammar"))
  cl_BadLine : mg "BadLine" = some (.ref (He.ga K "BadLine"))
  cl_BadMachine : mg "BadMachine" = some (.ref (He.ga K "BadMachine"))
  cl_BadPaper : mg "BadPaper" = some (.ref (He.ga K "BadPaper"))
  cl_BadSplice : mg "BadSplice" = some (.ref (He.ga K "BadSplice"))
  cl_BadStanding : mg "BadStanding" = some (.ref (He.ga K "BadStanding"))
  cl_BadSurface : mg "BadSurface" = some (.ref (He.ga K "BadSurface"))
  cl_BadText : mg "BadText" = some (.ref (He.ga K "BadText"))
  cl_BadToken : mg "BadToken" = some (.ref (He.ga K "BadToken"))
  cl_BadTree : mg "BadTree" = some (.ref (He.ga K "BadTree"))
  cl_DoubleName : mg "DoubleName" = some (.ref (He.ga K "DoubleName"))
  cl_Guesses : mg "Guesses" = some (.ref (He.ga K "Guesses"))
  cl_NoSuchProcedure : mg "NoSuchProcedure" = some (.ref (He.ga K "NoSuchProcedure"))
  cl_NoSuchProgram : mg "NoSuchProgram" = some (.ref (He.ga K "NoSuchProgram"))
  cl_NothingToUndo : mg "NothingToUndo" = some (.ref (He.ga K "NothingToUndo"))
  cl_TooLong : mg "TooLong" = some (.ref (He.ga K "TooLong"))
  cl_UnlikeLetters : mg "UnlikeLetters" = some (.ref (He.ga K "UnlikeLetters"))
section
variable {P : Program} {w : World} {K : PySem.W.Frag} {mg : Str → Option Value} {base : Heap}
theorem b_height_of (z : Zs K mg) : BodyD P w K mg base 0 ["pieces", "symbols", "times"] "height_of" (defScope s_height_of) (defBody s_height_of) F_height_of := by
  intro f cdv A outer s H G E hr tk hp
  have hu : (cxF P w K mg base ["pieces", "symbols", "times"] "height_of" (defScope s_height_of) f cdv A outer s H E).A.units + 64 < cLine := by have := hr.un; omega
  have hu2 : (cxF P w K mg base ["pieces", "symbols", "times"] "height_of" (defScope s_height_of) f cdv A outer s H E).A.units + 65 < cLine := by have := hr.un; omega
  have nd := sc_height_of.nd
  exact (bd_cons ((sd_ret (ed_callB (crd_sum rfl) dSum_noex z.z_sum (by decide +kernel) (ad_cons (ed_lc (own := [("symbols", 1), ("times", 2)]) rfl nd (id_seq (ed_var 0)) (blkOk_by (N := ["pieces", "symbols", "times"]) (sc := defScope s_height_of) (by decide +kernel)) (bg_tl (is := [1, 2])) (fun _ _ _ _ _ => pg_tl rfl (pgs_cons (pg_name (i := 1) nd rfl (Or.inl rfl)) (pgs_cons (pg_name (i := 2) nd rfl (Or.inl rfl)) pgs_nil))) (fun _ _ _ _ _ => bt_nil) (fun _ _ _ _ _ => (ed_bin opd_mul dMul_noex (ed_callB crd_len dLen_noex z.z_len (by decide +kernel) (ad_cons (ed_var 1) ad_nil)) (ed_var 2)))) ad_nil))))
  bd_nil)
theorem b_unfold (z : Zs K mg) (c_height_of : CalD P w K mg base 1 "height_of" g_height_of) (x_TooLong : ExcD P w K mg base "TooLong" ["length"]) : BodyD P w K mg base 2 ["pieces", "length", "stack", "symbols", "times"] "unfold" (defScope s_unfold) (defBody s_unfold) F_unfold := by
  intro f cdv A outer s H G E hr tk hp
  have hu : (cxF P w K mg base ["pieces", "length", "stack", "symbols", "times"] "unfold" (defScope s_unfold) f cdv A outer s H E).A.units + 64 < cLine := by have := hr.un; omega
  have hu2 : (cxF P w K mg base ["pieces", "length", "stack", "symbols", "times"] "unfold" (defScope s_unfold) f cdv A outer s H E).A.units + 65 < cLine := by have := hr.un; omega
  have nd := sc_unfold.nd
  have hk_height_of : 1 ≤ 2 := by decide
  exact (bd_cons ((sd_set (i := 1) nd (ed_call c_height_of hr hk_height_of tk (ad_cons (ed_var 0) ad_nil))))
  (bd_cons ((sd_frz 1 (sd_if (td_cmp opd_gt dGt_noex (ed_var 1) (ed_glob z.c_MOST_SYMBOLS) (by rfl)) (bd_cons ((sd_raise rfl x_TooLong hr (by decide) tk (ad_cons (ed_var 1) ad_nil)))
  bd_nil) bd_nil)))
  (bd_cons ((sd_set (i := 2) nd (ed_lst ad_nil alen_nil)))
  (bd_cons ((sd_for [3, 4] hp rfl (id_seq (ed_var 0)) (gd_tl (is := [3, 4]) rfl (pgs_cons (pg_name (i := 3) nd rfl (Or.inl rfl)) (pgs_cons (pg_name (i := 4) nd rfl (Or.inl rfl)) pgs_nil))) (bd_cons ((sd_if (td_cmp opd_gt dGt_noex (ed_callB crd_len dLen_noex z.z_len (by decide +kernel) (ad_cons (ed_var 3) ad_nil)) (ed_int) (by rfl)) (bd_cons ((sd_frz 2 (sd_set (i := 2) nd (ed_bin opd_add dAdd_noex (ed_var 2) (ed_bin opd_mul dMul_noex (ed_callT crd_list dList_noex z.z_list (by decide +kernel) (ad_cons (ed_var 3) ad_nil)) (ed_var 4))))))
  bd_nil) bd_nil))
  bd_nil)))
  (bd_cons ((sd_frz 2 (sd_ret (ed_callT crd_tuple dTuple_noex z.z_tuple (by decide +kernel) (ad_cons (ed_var 2) ad_nil)))))
  bd_nil)))))
theorem b_law_whole (z : Zs K mg) : BodyD P w K mg base 0 ["value"] "_law_whole" (defScope s_law_whole) (defBody s_law_whole) F_law_whole := by
  intro f cdv A outer s H G E hr tk hp
  have hu : (cxF P w K mg base ["value"] "_law_whole" (defScope s_law_whole) f cdv A outer s H E).A.units + 64 < cLine := by have := hr.un; omega
  have hu2 : (cxF P w K mg base ["value"] "_law_whole" (defScope s_law_whole) f cdv A outer s H E).A.units + 65 < cLine := by have := hr.un; omega
  have nd := sc_law_whole.nd
  exact (bd_cons ((sd_ret ((ed_and (ed_isi .int (ed_var 0) z.z_isinstance z.z_int (by decide +kernel)) (ed_and1 (ed_not (ed_isi .bool (ed_var 0) z.z_isinstance z.z_bool (by decide +kernel))))))))
  bd_nil)
theorem bh_law_whole (z : Zs K mg) : BodyH P w K mg base 0 ["value"] "_law_whole" (defScope s_law_whole) (defBody s_law_whole) Fh_law_whole := by
  intro f cdv A outer s H G E p hr hc hp
  have hu : (cxHF P w K mg base ["value"] "_law_whole" (defScope s_law_whole) f cdv A outer s H E p).A.units + 64 < cLine := by have := hr.un; omega
  have hu2 : (cxHF P w K mg base ["value"] "_law_whole" (defScope s_law_whole) f cdv A outer s H E p).A.units + 65 < cLine := by have := hr.un; omega
  have nd := sc_law_whole.nd
  exact (bd_cons ((sd_ret ((ed_and (ed_isi .int (ed_var 0) z.z_isinstance z.z_int (by decide +kernel)) (ed_and1 (ed_not (ed_isi .bool (ed_var 0) z.z_isinstance z.z_bool (by decide +kernel))))))))
  bd_nil)
theorem b_law_same (z : Zs K mg) (c_law_whole : CalD P w K mg base 1 "_law_whole" g_law_whole) {k : Nat} {g : List D → R RV} (hk0 : 1 ≤ k) (c_law_same : CalD P w K mg base k "_law_same" g) : BodyD P w K mg base k ["told", "due", "k"] "_law_same" (defScope s_law_same) (defBody s_law_same) (F_law_same g) := by
  intro f cdv A outer s H G E hr tk hp
  have hu : (cxF P w K mg base ["told", "due", "k"] "_law_same" (defScope s_law_same) f cdv A outer s H E).A.units + 64 < cLine := by have := hr.un; omega
  have hu2 : (cxF P w K mg base ["told", "due", "k"] "_law_same" (defScope s_law_same) f cdv A outer s H E).A.units + 65 < cLine := by have := hr.un; omega
  have nd := sc_law_same.nd
  have hk_law_same : k ≤ k := Nat.le_refl k
  have hk_law_whole : 1 ≤ k := by omega
  exact (bd_cons ((sd_if (td_val (ed_isi .tuple (ed_var 1) z.z_isinstance z.z_tuple (by decide +kernel))) (bd_cons ((sd_if (td_w (wd_or (td_not (td_val (ed_isi .tuple (ed_var 0) z.z_isinstance z.z_tuple (by decide +kernel)))) (wd_one (td_cmp (opd_ne hu) dEq_noex (ed_callB crd_len dLen_noex z.z_len (by decide +kernel) (ad_cons (ed_var 0) ad_nil)) (ed_callB crd_len dLen_noex z.z_len (by decide +kernel) (ad_cons (ed_var 1) ad_nil)) (by rfl))))) (bd_cons ((sd_ret (ed_bl)))
  bd_nil) bd_nil))
  (bd_cons ((sd_for [2] hp rfl (id_range1 z.z_range (ad_cons (ed_callB crd_len dLen_noex z.z_len (by decide +kernel) (ad_cons (ed_var 1) ad_nil)) ad_nil)) (gd_name 2 nd) (bd_cons ((sd_if (td_not (td_val (ed_call c_law_same hr hk_law_same tk (ad_cons (ed_ix ixd dIx_noex (ed_var 0) (ed_var 2)) (ad_cons (ed_ix ixd dIx_noex (ed_var 1) (ed_var 2)) ad_nil))))) (bd_cons ((sd_ret (ed_bl)))
  bd_nil) bd_nil))
  bd_nil)))
  (bd_cons ((sd_ret (ed_bl)))
  bd_nil))) bd_nil))
  (bd_cons ((sd_if (td_cmp opd_isN' dIsNn_noex (ed_var 1) (ed_non) (by rfl)) (bd_cons ((sd_ret (ed_cmp opd_isN' dIsNn_noex (ed_var 0) (ed_non) (by rfl))))
  bd_nil) bd_nil))
  (bd_cons ((sd_if (td_val (ed_isi .bool (ed_var 1) z.z_isinstance z.z_bool (by decide +kernel))) (bd_cons ((sd_ret ((ed_and (ed_isi .bool (ed_var 0) z.z_isinstance z.z_bool (by decide +kernel)) (ed_and1 (ed_cmp (opd_eq hu) dEq_noex (ed_var 0) (ed_var 1) (by rfl)))))))
  bd_nil) bd_nil))
  (bd_cons ((sd_if (td_val (ed_isi .int (ed_var 1) z.z_isinstance z.z_int (by decide +kernel))) (bd_cons ((sd_ret ((ed_and (ed_call c_law_whole hr hk_law_whole tk (ad_cons (ed_var 0) ad_nil)) (ed_and1 (ed_cmp (opd_eq hu) dEq_noex (ed_var 0) (ed_var 1) (by rfl)))))))
  bd_nil) bd_nil))
  (bd_cons ((sd_ret ((ed_and (ed_isi .str (ed_var 0) z.z_isinstance z.z_str (by decide +kernel)) (ed_and1 (ed_cmp (opd_eq hu) dEq_noex (ed_var 0) (ed_var 1) (by rfl)))))))
  bd_nil)))))
theorem bh_law_same (z : Zs K mg) (c_law_whole : CalH P w K mg base 1 "_law_whole" h_law_whole) : BodyH P w K mg base 1 ["told", "due", "k"] "_law_same" (defScope s_law_same) (defBody s_law_same) Fh_law_same := by
  intro f cdv A outer s H G E p hr hc hp
  have hu : (cxHF P w K mg base ["told", "due", "k"] "_law_same" (defScope s_law_same) f cdv A outer s H E p).A.units + 64 < cLine := by have := hr.un; omega
  have hu2 : (cxHF P w K mg base ["told", "due", "k"] "_law_same" (defScope s_law_same) f cdv A outer s H E p).A.units + 65 < cLine := by have := hr.un; omega
  have nd := sc_law_same.nd
  have hk_law_whole : 1 ≤ 1 := by decide
  exact (bd_cons ((sd_if (td_val (ed_isi .tuple (ed_var 1) z.z_isinstance z.z_tuple (by decide +kernel))) (bd_cons ((sd_if (td_w (wd_or (td_not (td_val (ed_isi .tuple (ed_var 0) z.z_isinstance z.z_tuple (by decide +kernel)))) (wd_one (td_cmp (opd_ne hu) dEq_noex (ed_callB crd_len dLen_noex z.z_len (by decide +kernel) (ad_cons (ed_var 0) ad_nil)) (ed_callB crd_len dLen_noex z.z_len (by decide +kernel) (ad_cons (ed_var 1) ad_nil)) (by rfl))))) (bd_cons ((sd_ret (ed_bl)))
  bd_nil) bd_nil))
  (bd_cons (sd_no)
  (bd_cons ((sd_ret (ed_bl)))
  bd_nil))) bd_nil))
  (bd_cons ((sd_if (td_cmp opd_isN' dIsNn_noex (ed_var 1) (ed_non) (by rfl)) (bd_cons ((sd_ret (ed_cmp opd_isN' dIsNn_noex (ed_var 0) (ed_non) (by rfl))))
  bd_nil) bd_nil))
  (bd_cons ((sd_if (td_val (ed_isi .bool (ed_var 1) z.z_isinstance z.z_bool (by decide +kernel))) (bd_cons ((sd_ret ((ed_and (ed_isi .bool (ed_var 0) z.z_isinstance z.z_bool (by decide +kernel)) (ed_and1 (ed_cmp (opd_eq hu) dEq_noex (ed_var 0) (ed_var 1) (by rfl)))))))
  bd_nil) bd_nil))
  (bd_cons ((sd_if (td_val (ed_isi .int (ed_var 1) z.z_isinstance z.z_int (by decide +kernel))) (bd_cons ((sd_ret ((ed_and (ed_callH c_law_whole hc hr hk_law_whole (ad_cons (ed_var 0) ad_nil)) (ed_and1 (ed_cmp (opd_eq hu) dEq_noex (ed_var 0) (ed_var 1) (by rfl)))))))
  bd_nil) bd_nil))
  (bd_cons ((sd_ret ((ed_and (ed_isi .str (ed_var 0) z.z_isinstance z.z_str (by decide +kernel)) (ed_and1 (ed_cmp (opd_eq hu) dEq_noex (ed_var 0) (ed_var 1) (by rfl)))))))
  bd_nil)))))
theorem b_law_cell (z : Zs K mg) : BodyD P w K mg base 0 ["script", "k", "seed", "cell"] "_law_cell" (defScope s_law_cell) (defBody s_law_cell) F_law_cell := by
  intro f cdv A outer s H G E hr tk hp
  have hu : (cxF P w K mg base ["script", "k", "seed", "cell"] "_law_cell" (defScope s_law_cell) f cdv A outer s H E).A.units + 64 < cLine := by have := hr.un; omega
  have hu2 : (cxF P w K mg base ["script", "k", "seed", "cell"] "_law_cell" (defScope s_law_cell) f cdv A outer s H E).A.units + 65 < cLine := by have := hr.un; omega
  have nd := sc_law_cell.nd
  exact (bd_cons ((sd_if (td_cmp opd_lt dLt_noex (ed_var 1) (ed_callB crd_len dLen_noex z.z_len (by decide +kernel) (ad_cons (ed_var 0) ad_nil)) (by rfl)) (bd_cons ((sd_ret (ed_ix ixd dIx_noex (ed_var 0) (ed_var 1))))
  bd_nil) bd_nil))
  (bd_cons ((sd_set (i := 2) nd (ed_int)))
  (bd_cons ((sd_for [3] hp rfl (id_seq (ed_var 0)) (gd_name 3 nd) (bd_cons ((sd_set (i := 2) nd (ed_bin opd_mod dMod_noex (ed_callT crd_int dInt_noex z.z_int (by decide +kernel) (ad_cons (ed_bin opd_add dAdd_noex (ed_bin opd_mul dMul_noex (ed_var 2) (ed_int)) (ed_bin opd_mod dMod_noex (ed_callT crd_int dInt_noex z.z_int (by decide +kernel) (ad_cons (ed_var 3) ad_nil)) (ed_int))) ad_nil)) (ed_int))))
  bd_nil)))
  (bd_cons ((sd_ret (ed_bin opd_mod dMod_noex (ed_callT crd_int dInt_noex z.z_int (by decide +kernel) (ad_cons (ed_bin opd_mul dMul_noex (ed_bin opd_mul dMul_noex (ed_bin opd_add dAdd_noex (ed_var 2) (ed_int)) (ed_bin opd_add dAdd_noex (ed_var 1) (ed_int))) (ed_int)) ad_nil)) (ed_int))))
  bd_nil))))
theorem b_law_digits (z : Zs K mg) : BodyD P w K mg base 0 ["cell", "sizes", "row", "rest", "size", "seed", "k", "twice"] "_law_digits" (defScope s_law_digits) (defBody s_law_digits) F_law_digits := by
  intro f cdv A outer s H G E hr tk hp
  have hu : (cxF P w K mg base ["cell", "sizes", "row", "rest", "size", "seed", "k", "twice"] "_law_digits" (defScope s_law_digits) f cdv A outer s H E).A.units + 64 < cLine := by have := hr.un; omega
  have hu2 : (cxF P w K mg base ["cell", "sizes", "row", "rest", "size", "seed", "k", "twice"] "_law_digits" (defScope s_law_digits) f cdv A outer s H E).A.units + 65 < cLine := by have := hr.un; omega
  have nd := sc_law_digits.nd
  exact (bd_cons ((sd_set (i := 2) nd (ed_lst ad_nil alen_nil)))
  (bd_cons ((sd_set (i := 3) nd (ed_callT crd_int dInt_noex z.z_int (by decide +kernel) (ad_cons (ed_var 0) ad_nil))))
  (bd_cons ((sd_if (td_cmp opd_ge dGe_noex (ed_var 3) (ed_bin opd_pow dPow_noex (ed_int) (ed_int)) (by rfl)) (bd_cons ((sd_set (i := 3) nd (ed_bin opd_sub dSub_noex (ed_var 3) (ed_bin opd_pow dPow_noex (ed_int) (ed_int)))))
  (bd_cons ((sd_for [4] hp rfl (id_seq (ed_var 1)) (gd_name 4 nd) (bd_cons ((sd_append 2 (ed_bin opd_mod dMod_noex (ed_callT crd_int dInt_noex z.z_int (by decide +kernel) (ad_cons (ed_var 3) ad_nil)) (ed_var 4))))
  (bd_cons ((sd_set (i := 3) nd (ed_bin opd_div dDiv_noex (ed_callT crd_int dInt_noex z.z_int (by decide +kernel) (ad_cons (ed_var 3) ad_nil)) (ed_var 4))))
  bd_nil))))
  (bd_cons (sd_retV 2)
  bd_nil))) bd_nil))
  (bd_cons ((sd_set (i := 5) nd (ed_bin opd_mod dMod_noex (ed_callT crd_int dInt_noex z.z_int (by decide +kernel) (ad_cons (ed_var 3) ad_nil)) (ed_int))))
  (bd_cons ((sd_for [6, 7] hp rfl (id_range1 z.z_range (ad_cons (ed_callB crd_len dLen_noex z.z_len (by decide +kernel) (ad_cons (ed_var 1) ad_nil)) ad_nil)) (gd_name 6 nd) (bd_cons ((sd_set (i := 5) nd (ed_bin opd_mod dMod_noex (ed_callT crd_int dInt_noex z.z_int (by decide +kernel) (ad_cons (ed_bin opd_add dAdd_noex (ed_bin opd_add dAdd_noex (ed_bin opd_mul dMul_noex (ed_var 5) (ed_int)) (ed_bin opd_mul dMul_noex (ed_int) (ed_var 6))) (ed_int)) ad_nil)) (ed_int))))
  (bd_cons ((sd_set (i := 7) nd (ed_bin opd_mod dMod_noex (ed_callT crd_int dInt_noex z.z_int (by decide +kernel) (ad_cons (ed_bin opd_mul dMul_noex (ed_var 5) (ed_bin opd_add dAdd_noex (ed_bin opd_div dDiv_noex (ed_var 5) (ed_int)) (ed_int))) ad_nil)) (ed_int))))
  (bd_cons ((sd_append 2 (ed_bin opd_mod dMod_noex (ed_bin opd_div dDiv_noex (ed_var 7) (ed_int)) (ed_ix ixd dIx_noex (ed_var 1) (ed_var 6)))))
  bd_nil)))))
  (bd_cons (sd_retV 2)
  bd_nil))))))
theorem b_law_piece (z : Zs K mg) (c_law_digits : CalD P w K mg base 1 "_law_digits" g_law_digits) : BodyD P w K mg base 1 ["cell", "signs", "row", "symbols", "k", "part", "one"] "_law_piece" (defScope s_law_piece) (defBody s_law_piece) F_law_piece := by
  intro f cdv A outer s H G E hr tk hp
  have hu : (cxF P w K mg base ["cell", "signs", "row", "symbols", "k", "part", "one"] "_law_piece" (defScope s_law_piece) f cdv A outer s H E).A.units + 64 < cLine := by have := hr.un; omega
  have hu2 : (cxF P w K mg base ["cell", "signs", "row", "symbols", "k", "part", "one"] "_law_piece" (defScope s_law_piece) f cdv A outer s H E).A.units + 65 < cLine := by have := hr.un; omega
  have nd := sc_law_piece.nd
  have hk_law_digits : 1 ≤ 1 := by decide
  exact (bd_cons ((sd_set (i := 1) nd (ed_str (by decide +kernel))))
  (bd_cons ((sd_set (i := 2) nd (ed_call c_law_digits hr hk_law_digits tk (ad_cons (ed_var 0) (ad_cons (ed_bin opd_add dAdd_noex (ed_bin opd_add dAdd_noex (ed_lst (ad_cons (ed_int) (ad_cons (ed_int) ad_nil)) (alen_cons (alen_cons alen_nil))) (ed_bin opd_mul dMul_noex (ed_lst (ad_cons (ed_int) ad_nil) (alen_cons alen_nil)) (ed_int))) (ed_bin opd_mul dMul_noex (ed_lst (ad_cons (ed_int) ad_nil) (alen_cons alen_nil)) (ed_int))) ad_nil)))))
  (bd_cons ((sd_set (i := 3) nd (ed_lst ad_nil alen_nil)))
  (bd_cons ((sd_frz 2 (sd_for [4, 5] hp rfl (id_range1 z.z_range (ad_cons (ed_bin opd_add dAdd_noex (ed_ix ixd dIx_noex (ed_var 2) (ed_int)) (ed_int)) ad_nil)) (gd_name 4 nd) (bd_cons ((sd_set (i := 5) nd (ed_sl (ed_var 2) (od_some (ed_bin opd_add dAdd_noex (ed_int) (ed_bin opd_mul dMul_noex (ed_int) (ed_var 4)))) (od_some (ed_bin opd_add dAdd_noex (ed_bin opd_add dAdd_noex (ed_int) (ed_bin opd_mul dMul_noex (ed_int) (ed_var 4))) (ed_ix ixd dIx_noex (ed_var 2) (ed_bin opd_add dAdd_noex (ed_int) (ed_var 4))))))))
  (bd_cons ((sd_frz 5 (sd_append 3 (ed_join (ed_str (by decide +kernel)) (ed_lc (own := [("one", 6)]) rfl nd (id_seq (ed_var 5)) (blkOk_by (N := ["cell", "signs", "row", "symbols", "k", "part", "one"]) (sc := defScope s_law_piece) (by decide +kernel)) bg_name (fun _ _ _ _ _ => pg_name (i := 6) nd rfl (Or.inl rfl)) (fun _ _ _ _ _ => bt_nil) (fun _ _ _ _ _ => (ed_ix ixd dIx_noex (ed_var 1) (ed_var 6))))))))
  bd_nil)))))
  (bd_cons ((sd_frz 3 (sd_ret (ed_tup (ad_cons (ed_callT crd_tuple dTuple_noex z.z_tuple (by decide +kernel) (ad_cons (ed_var 3) ad_nil)) (ad_cons (ed_bin opd_add dAdd_noex (ed_ix ixd dIx_noex (ed_var 2) (ed_int)) (ed_int)) ad_nil)) (alen_cons (alen_cons alen_nil))))))
  bd_nil)))))
theorem b_law_shaped (z : Zs K mg) : BodyD P w K mg base 0 ["parts", "shape", "made", "piece", "symbols"] "_law_shaped" (defScope s_law_shaped) (defBody s_law_shaped) F_law_shaped := by
  intro f cdv A outer s H G E hr tk hp
  have hu : (cxF P w K mg base ["parts", "shape", "made", "piece", "symbols"] "_law_shaped" (defScope s_law_shaped) f cdv A outer s H E).A.units + 64 < cLine := by have := hr.un; omega
  have hu2 : (cxF P w K mg base ["parts", "shape", "made", "piece", "symbols"] "_law_shaped" (defScope s_law_shaped) f cdv A outer s H E).A.units + 65 < cLine := by have := hr.un; omega
  have nd := sc_law_shaped.nd
  exact (bd_cons ((sd_set (i := 2) nd (ed_lst ad_nil alen_nil)))
  (bd_cons ((sd_for [3, 4] hp rfl (id_seq (ed_var 0)) (gd_name 3 nd) (bd_cons ((sd_set (i := 4) nd (ed_ix ixd dIx_noex (ed_var 3) (ed_int))))
  (bd_cons ((sd_if (td_cmp (opd_eq hu) dEq_noex (ed_bin opd_mod dMod_noex (ed_callT crd_int dInt_noex z.z_int (by decide +kernel) (ad_cons (ed_var 1) ad_nil)) (ed_int)) (ed_int) (by rfl)) (bd_cons ((sd_set (i := 4) nd (ed_callT crd_list dList_noex z.z_list (by decide +kernel) (ad_cons (ed_var 4) ad_nil))))
  bd_nil) bd_nil))
  (bd_cons ((sd_if (td_cmp (opd_eq hu) dEq_noex (ed_bin opd_mod dMod_noex (ed_bin opd_div dDiv_noex (ed_callT crd_int dInt_noex z.z_int (by decide +kernel) (ad_cons (ed_var 1) ad_nil)) (ed_int)) (ed_int)) (ed_int) (by rfl)) (bd_cons ((sd_frz 4 (sd_append 2 (ed_lst (ad_cons (ed_var 4) (ad_cons (ed_ix ixd dIx_noex (ed_var 3) (ed_int)) ad_nil)) (alen_cons (alen_cons alen_nil))))))
  bd_nil) (bd_cons ((sd_frz 4 (sd_append 2 (ed_tup (ad_cons (ed_var 4) (ad_cons (ed_ix ixd dIx_noex (ed_var 3) (ed_int)) ad_nil)) (alen_cons (alen_cons alen_nil))))))
  bd_nil)))
  bd_nil)))))
  (bd_cons ((sd_if (td_cmp (opd_eq hu) dEq_noex (ed_bin opd_mod dMod_noex (ed_bin opd_div dDiv_noex (ed_callT crd_int dInt_noex z.z_int (by decide +kernel) (ad_cons (ed_var 1) ad_nil)) (ed_int)) (ed_int)) (ed_int) (by rfl)) (bd_cons (sd_retV 2)
  bd_nil) bd_nil))
  (bd_cons ((sd_frz 2 (sd_ret (ed_callT crd_tuple dTuple_noex z.z_tuple (by decide +kernel) (ad_cons (ed_var 2) ad_nil)))))
  bd_nil))))
theorem b_law_right (z : Zs K mg) (c_law_same : CalD P w K mg base 9 "_law_same" g_law_same) (c_law_shaped : CalD P w K mg base 1 "_law_shaped" g_law_shaped) (c_height_of : CalD P w K mg base 1 "height_of" g_height_of) (c_unfold : CalD P w K mg base 3 "unfold" g_unfold) (k_height_of_k0_pieces : CalK P w K mg base 1 "height_of" 0 ["pieces"] pm_height_of_k0_pieces g_height_of) (k_unfold_k0_pieces : CalK P w K mg base 3 "unfold" 0 ["pieces"] pm_unfold_k0_pieces g_unfold) (ch_law_same : CalH P w K mg base 2 "_law_same" h_law_same) (x_TooLong : Sx_TooLong K mg) (y_law_right_h0 : Caught K mg (.ref (He.ga K "RecallError")) law_right_h0) : BodyD P w K mg base 9 ["parts", "shape", "given", "kept", "total", "due", "piece", "length", "back", "e", "other", "third"] "_law_right" (defScope s_law_right) (defBody s_law_right) F_law_right := by
  intro f cdv A outer s H G E hr tk hp
  have hu : (cxF P w K mg base ["parts", "shape", "given", "kept", "total", "due", "piece", "length", "back", "e", "other", "third"] "_law_right" (defScope s_law_right) f cdv A outer s H E).A.units + 64 < cLine := by have := hr.un; omega
  have hu2 : (cxF P w K mg base ["parts", "shape", "given", "kept", "total", "due", "piece", "length", "back", "e", "other", "third"] "_law_right" (defScope s_law_right) f cdv A outer s H E).A.units + 65 < cLine := by have := hr.un; omega
  have nd := sc_law_right.nd
  have hk_unfold : 3 ≤ 9 := by decide
  have hk_height_of : 1 ≤ 9 := by decide
  have hk_law_same : 9 ≤ 9 := by decide
  have hk_law_shaped : 1 ≤ 9 := by decide
  exact (bd_cons ((sd_set (i := 2) nd (ed_call c_law_shaped hr hk_law_shaped tk (ad_cons (ed_var 0) (ad_cons (ed_var 1) ad_nil)))))
  (bd_cons ((sd_set (i := 3) nd (ed_call c_law_shaped hr hk_law_shaped tk (ad_cons (ed_var 0) (ad_cons (ed_var 1) ad_nil)))))
  (bd_cons ((sd_set (i := 4) nd (ed_int)))
  (bd_cons ((sd_set (i := 5) nd (ed_lst ad_nil alen_nil)))
  (bd_cons ((sd_for [6] hp rfl (id_seq (ed_var 0)) (gd_name 6 nd) (bd_cons ((sd_set (i := 4) nd (ed_bin opd_add dAdd_noex (ed_var 4) (ed_bin opd_mul dMul_noex (ed_callB crd_len dLen_noex z.z_len (by decide +kernel) (ad_cons (ed_ix ixd dIx_noex (ed_var 6) (ed_int)) ad_nil)) (ed_ix ixd dIx_noex (ed_var 6) (ed_int))))))
  (bd_cons ((sd_if (td_cmp opd_le dLe_noex (ed_var 4) (ed_int) (by rfl)) (bd_cons ((sd_frz 5 (sd_set (i := 5) nd (ed_bin opd_add dAdd_noex (ed_var 5) (ed_bin opd_mul dMul_noex (ed_callT crd_list dList_noex z.z_list (by decide +kernel) (ad_cons (ed_ix ixd dIx_noex (ed_var 6) (ed_int)) ad_nil)) (ed_ix ixd dIx_noex (ed_var 6) (ed_int)))))))
  bd_nil) bd_nil))
  bd_nil))))
  (bd_cons ((sd_frz 3 (sd_frz 2 (sd_if (td_w (wd_or (td_not (td_val (ed_call c_law_same hr hk_law_same tk (ad_cons (ed_call c_height_of hr hk_height_of tk (ad_cons (ed_var 2) ad_nil)) (ad_cons (ed_var 4) ad_nil))))) (wd_or (td_not (td_val (ed_call c_law_same hr hk_law_same tk (ad_cons (ed_callK0 k_height_of_k0_pieces hr (by decide) tk (kd_cons (ed_var 2) kd_nil)) (ad_cons (ed_var 4) ad_nil))))) (wd_one (td_cmp (opd_ne hu) dEq_noex (ed_var 2) (ed_var 3) (by rfl)))))) (bd_cons ((sd_ret (ed_bl)))
  bd_nil) bd_nil))))
  (bd_cons ((sd_set (i := 7) nd (ed_un und_neg dNeg_noex (ed_int))))
  (bd_cons ((sd_set (i := 8) nd (ed_non)))
  (bd_cons ((sd_try (i := 9) (Fh := law_right_h0) rfl rfl nd tk (⟨rfl, rfl, .inl z.t_RecallError⟩) y_law_right_h0 (fun W1 pn xe tk1 hp1 => (bd_cons ((sd_if (td_cmp (opd_eq hu) dEq_noex (ed_bin opd_mod dMod_noex (ed_callT crd_int dInt_noex z.z_int (by decide +kernel) (ad_cons (ed_var 1) ad_nil)) (ed_int)) (ed_int) (by rfl)) (bd_cons ((sd_set (i := 8) nd (ed_callK0 k_unfold_k0_pieces hr (by decide) tk1 (kd_cons (ed_var 2) kd_nil))))
  bd_nil) (bd_cons ((sd_set (i := 8) nd (ed_call c_unfold hr hk_unfold tk1 (ad_cons (ed_var 2) ad_nil))))
  bd_nil)))
  bd_nil)) (fun c g C a dd oe pn hg hm hz hfl => by
    have hrs : RoomH 9 ((cxF P w K mg base ["parts", "shape", "given", "kept", "total", "due", "piece", "length", "back", "e", "other", "third"] "_law_right" (defScope s_law_right) f cdv A outer s H E).suite a ((a, oe) :: pn)).A := room_suite hr
    have hcs : HotC ((cxF P w K mg base ["parts", "shape", "given", "kept", "total", "due", "piece", "length", "back", "e", "other", "third"] "_law_right" (defScope s_law_right) f cdv A outer s H E).suite a ((a, oe) :: pn)) := hot_suite hz hfl
    rcases law_right_h0_of hg with ⟨rfl, rfl⟩
    · exact (bd_cons ((sd_set (i := 10) nd (ed_isEs (x_TooLong.ec C hm) hz hfl (x_TooLong.is0 C hm) (ed_var 9) (cla_cons (pe_glob (v := .ref (He.ga K "BadMachine")) rfl (x_TooLong.cl_BadMachine) rfl) (.own _) (cla_cons (pe_glob (v := .ref (He.ga K "BadLine")) rfl (x_TooLong.cl_BadLine) rfl) (.own _) (cla_cons (pe_glob (v := .ref (He.ga K "BadText")) rfl (x_TooLong.cl_BadText) rfl) (.own _) (cla_cons (pe_glob (v := .ref (He.ga K "Guesses")) rfl (x_TooLong.cl_Guesses) rfl) (.own _) (cla_cons (pe_glob (v := .ref (He.ga K "BadStanding")) rfl (x_TooLong.cl_BadStanding) rfl) (.own _) (cla_cons (pe_glob (v := .ref (He.ga K "BadSurface")) rfl (x_TooLong.cl_BadSurface) rfl) (.own _) (cla_cons (pe_glob (v := .ref (He.ga K "BadSplice")) rfl (x_TooLong.cl_BadSplice) rfl) (.own _) (cla_cons (pe_glob (v := .ref (He.ga K "NothingToUndo")) rfl (x_TooLong.cl_NothingToUndo) rfl) (.own _) (cla_cons (pe_glob (v := .ref (He.ga K "BadDeed")) rfl (x_TooLong.cl_BadDeed) rfl) (.own _) cla_nil))))))))) z.z_isinstance (by simp))))
  (bd_cons ((sd_set (i := 11) nd (ed_isEs (x_TooLong.ec C hm) hz hfl (x_TooLong.is1 C hm) (ed_var 9) (cla_cons (pe_glob (v := .ref (He.ga K "BadTree")) rfl (x_TooLong.cl_BadTree) rfl) (.own _) (cla_cons (pe_glob (v := .ref (He.ga K "DoubleName")) rfl (x_TooLong.cl_DoubleName) rfl) (.own _) (cla_cons (pe_glob (v := .ref (He.ga K "NoSuchProcedure")) rfl (x_TooLong.cl_NoSuchProcedure) rfl) (.own _) (cla_cons (pe_glob (v := .ref (He.ga K "BadToken")) rfl (x_TooLong.cl_BadToken) rfl) (.own _) (cla_cons (pe_glob (v := .ref (He.ga K "UnlikeLetters")) rfl (x_TooLong.cl_UnlikeLetters) rfl) (.own _) (cla_cons (pe_glob (v := .ref (He.ga K "BadCode")) rfl (x_TooLong.cl_BadCode) rfl) (.own _) (cla_cons (pe_glob (v := .ref (He.ga K "BadPaper")) rfl (x_TooLong.cl_BadPaper) rfl) (.own _) (cla_cons (pe_glob (v := .ref (He.ga K "BadGrammar")) rfl (x_TooLong.cl_BadGrammar) rfl) (.own _) (cla_cons (pe_glob (v := .ref (He.ga K "NoSuchProgram")) rfl (x_TooLong.cl_NoSuchProgram) rfl) (.own _) cla_nil))))))))) z.z_isinstance (by simp))))
  (bd_cons ((sd_if (td_w (wd_or (td_val (ed_var 10)) (wd_or (td_val (ed_var 11)) (wd_or (td_not (td_val (ed_isE (x_TooLong.ec C hm) hz hfl (x_TooLong.is2 C hm) (.own _) (ed_var 9) (pe_glob (v := .ref (He.ga K "TooLong")) rfl (x_TooLong.cl_TooLong) rfl) z.z_isinstance))) (wd_one (td_not (td_val (ed_isE (x_TooLong.ec C hm) hz hfl (x_TooLong.is3 C hm) (.ty _) (ed_var 9) (pe_bltn (v := .ty "ValueError") rfl z.z_ValueError (by decide +kernel) rfl) z.z_isinstance)))))))) (bd_cons ((sd_ret (ed_bl)))
  bd_nil) bd_nil))
  (bd_cons ((sd_if (td_not (td_val (ed_callH ch_law_same hcs hrs (by decide) (ad_cons (ed_xf hm (x_TooLong.xf C hm) (x_TooLong.nf_length C hm) hz hfl (ed_var 9)) (ad_cons (ed_var 4) ad_nil))))) (bd_cons ((sd_ret (ed_bl)))
  bd_nil) bd_nil))
  (bd_cons ((sd_set (i := 7) nd (ed_xf hm (x_TooLong.xf C hm) (x_TooLong.nf_length C hm) hz hfl (ed_var 9))))
  bd_nil))))))))
  (bd_cons ((sd_frz 7 (sd_if (td_w (wd_or (td_cmp (opd_ne hu) dEq_noex (ed_var 2) (ed_var 3) (by rfl)) (wd_one (td_w (wd_and (td_cmp opd_gt dGt_noex (ed_var 4) (ed_int) (by rfl)) (wd_one (td_cmp (opd_ne hu) dEq_noex (ed_var 7) (ed_var 4) (by rfl)))))))) (bd_cons ((sd_ret (ed_bl)))
  bd_nil) bd_nil)))
  (bd_cons ((sd_frz 5 (sd_frz 8 (sd_ret ((ed_or (ed_cmp opd_gt dGt_noex (ed_var 4) (ed_int) (by rfl)) (ed_and1 ((ed_and (ed_cmp (opd_eq hu) dEq_noex (ed_var 7) (ed_un und_neg dNeg_noex (ed_int)) (by rfl)) (ed_and1 (ed_call c_law_same hr hk_law_same tk (ad_cons (ed_var 8) (ad_cons (ed_callT crd_tuple dTuple_noex z.z_tuple (by decide +kernel) (ad_cons (ed_var 5) ad_nil)) ad_nil)))))))))))))
  bd_nil)))))))))))
theorem b_law (z : Zs K mg) (c_law_cell : CalD P w K mg base 1 "_law_cell" g_law_cell) (c_law_digits : CalD P w K mg base 1 "_law_digits" g_law_digits) (c_law_piece : CalD P w K mg base 2 "_law_piece" g_law_piece) (c_law_right : CalD P w K mg base 10 "_law_right" g_law_right) : BodyD P w K mg base 10 ["script", "head", "parts", "k", "at", "rest", "piece", "times", "back"] "law" (defScope s_law) (defBody s_law) F_law := by
  intro f cdv A outer s H G E hr tk hp
  have hu : (cxF P w K mg base ["script", "head", "parts", "k", "at", "rest", "piece", "times", "back"] "law" (defScope s_law) f cdv A outer s H E).A.units + 64 < cLine := by have := hr.un; omega
  have hu2 : (cxF P w K mg base ["script", "head", "parts", "k", "at", "rest", "piece", "times", "back"] "law" (defScope s_law) f cdv A outer s H E).A.units + 65 < cLine := by have := hr.un; omega
  have nd := sc_law.nd
  have hk_law_cell : 1 ≤ 10 := by decide
  have hk_law_piece : 2 ≤ 10 := by decide
  have hk_law_right : 10 ≤ 10 := by decide
  have hk_law_digits : 1 ≤ 10 := by decide
  exact (bd_cons ((sd_set (i := 1) nd (ed_call c_law_digits hr hk_law_digits tk (ad_cons (ed_call c_law_cell hr hk_law_cell tk (ad_cons (ed_var 0) (ad_cons (ed_int) ad_nil))) (ad_cons (ed_lst (ad_cons (ed_int) (ad_cons (ed_int) (ad_cons (ed_int) (ad_cons (ed_int) (ad_cons (ed_int) (ad_cons (ed_int) ad_nil)))))) (alen_cons (alen_cons (alen_cons (alen_cons (alen_cons (alen_cons alen_nil))))))) ad_nil)))))
  (bd_cons ((sd_set (i := 2) nd (ed_lst ad_nil alen_nil)))
  (bd_cons ((sd_frz 1 (sd_for [] hp rfl (id_range1 z.z_range (ad_cons (ed_ix ixd dIx_noex (ed_var 1) (ed_int)) ad_nil)) (gd_name 3 nd) (bd_cons ((sd_append 2 (ed_call c_law_piece hr hk_law_piece tk (ad_cons (ed_call c_law_cell hr hk_law_cell tk (ad_cons (ed_var 0) (ad_cons (ed_bin opd_add dAdd_noex (ed_int) (ed_var 3)) ad_nil))) ad_nil))))
  bd_nil))))
  (bd_cons ((sd_set (i := 4) nd (ed_view (ed_bin opd_mod dMod_noex (ed_callT crd_int dInt_noex z.z_int (by decide +kernel) (ad_cons (ed_ix ixd dIx_noex (ed_var 1) (ed_int)) ad_nil)) (ed_bin opd_add dAdd_noex (ed_callB crd_len dLen_noex z.z_len (by decide +kernel) (ad_cons (ed_var 2) ad_nil)) (ed_int))))))
  (bd_cons ((sd_if (td_cmp opd_ge dGe_noex (ed_ix ixd dIx_noex (ed_var 1) (ed_int)) (ed_int) (by rfl)) (bd_cons ((sd_set (i := 5) nd (ed_view (ed_bin opd_sub dSub_noex (ed_ix ixd dIx_noex (ed_lst (ad_cons (ed_int) (ad_cons (ed_int) (ad_cons (ed_int) (ad_cons (ed_int) (ad_cons (ed_int) ad_nil))))) (alen_cons (alen_cons (alen_cons (alen_cons (alen_cons alen_nil)))))) (ed_ix ixd dIx_noex (ed_var 1) (ed_int))) (ed_callB (crd_sum rfl) dSum_noex z.z_sum (by decide +kernel) (ad_cons (ed_lc (own := [("piece", 6)]) rfl nd (id_seq (ed_var 2)) (blkOk_by (N := ["script", "head", "parts", "k", "at", "rest", "piece", "times", "back"]) (sc := defScope s_law) (by decide +kernel)) bg_name (fun _ _ _ _ _ => pg_name (i := 6) nd rfl (Or.inl rfl)) (fun _ _ _ _ _ => bt_nil) (fun _ _ _ _ _ => (ed_bin opd_mul dMul_noex (ed_callB crd_len dLen_noex z.z_len (by decide +kernel) (ad_cons (ed_ix ixd dIx_noex (ed_var 6) (ed_int)) ad_nil)) (ed_ix ixd dIx_noex (ed_var 6) (ed_int))))) ad_nil))))))
  (bd_cons ((sd_insert 2 (ed_var 4) (ed_tup (ad_cons (ed_tup (ad_cons (ed_str (by decide +kernel)) ad_nil) (alen_cons alen_nil)) (ad_cons (ed_var 5) ad_nil)) (alen_cons (alen_cons alen_nil)))))
  bd_nil)) (bd_cons ((sd_if (td_cmp opd_ge dGe_noex (ed_ix ixd dIx_noex (ed_var 1) (ed_int)) (ed_int) (by rfl)) (bd_cons ((sd_set (i := 7) nd (ed_bin opd_add dAdd_noex (ed_ix ixd dIx_noex (ed_lst (ad_cons (ed_int) (ad_cons (ed_bin opd_pow dPow_noex (ed_int) (ed_int)) (ad_cons (ed_bin opd_pow dPow_noex (ed_int) (ed_int)) (ad_cons (ed_bin opd_pow dPow_noex (ed_int) (ed_int)) (ad_cons (ed_bin opd_pow dPow_noex (ed_int) (ed_int)) ad_nil))))) (alen_cons (alen_cons (alen_cons (alen_cons (alen_cons alen_nil)))))) (ed_ix ixd dIx_noex (ed_var 1) (ed_int))) (ed_callB crd_abs dAbs_noex z.z_abs (by decide +kernel) (ad_cons (ed_call c_law_cell hr hk_law_cell tk (ad_cons (ed_var 0) (ad_cons (ed_int) ad_nil))) ad_nil)))))
  (bd_cons ((sd_insert 2 (ed_var 4) (ed_tup (ad_cons (ed_sl (ed_tup (ad_cons (ed_str (by decide +kernel)) (ad_cons (ed_str (by decide +kernel)) (ad_cons (ed_str (by decide +kernel)) ad_nil))) (alen_cons (alen_cons (alen_cons alen_nil)))) od_none (od_some (ed_bin opd_add dAdd_noex (ed_int) (ed_ix ixd dIx_noex (ed_var 1) (ed_int))))) (ad_cons (ed_var 7) ad_nil)) (alen_cons (alen_cons alen_nil)))))
  bd_nil)) bd_nil))
  bd_nil)))
  (bd_cons ((sd_frz 2 (sd_if (td_not (td_val (ed_call c_law_right hr hk_law_right tk (ad_cons (ed_var 2) (ad_cons (ed_ix ixd dIx_noex (ed_var 1) (ed_int)) ad_nil))))) (bd_cons ((sd_ret (ed_bl)))
  bd_nil) bd_nil)))
  (bd_cons ((sd_setLc 8 (own := [("k", 3)]) rfl nd (id_range1 z.z_range (ad_cons (ed_callB crd_len dLen_noex z.z_len (by decide +kernel) (ad_cons (ed_var 2) ad_nil)) ad_nil)) (blkOk_by (N := ["script", "head", "parts", "k", "at", "rest", "piece", "times", "back"]) (sc := defScope s_law) (by decide +kernel)) bg_name (fun _ _ _ _ _ => pg_name (i := 3) nd rfl (Or.inl rfl)) (fun _ _ _ _ _ => bt_nil) (fun _ _ _ _ _ => (ed_ix ixd dIx_noex (ed_var 2) (ed_bin opd_sub dSub_noex (ed_bin opd_sub dSub_noex (ed_callB crd_len dLen_noex z.z_len (by decide +kernel) (ad_cons (ed_var 2) ad_nil)) (ed_int)) (ed_var 3))))))
  (bd_cons ((sd_frz 8 (sd_ret ((ed_and (ed_call c_law_right hr hk_law_right tk (ad_cons (ed_var 8) (ad_cons (ed_bin opd_mod dMod_noex (ed_callT crd_int dInt_noex z.z_int (by decide +kernel) (ad_cons (ed_bin opd_add dAdd_noex (ed_ix ixd dIx_noex (ed_var 1) (ed_int)) (ed_int)) ad_nil)) (ed_int)) ad_nil))) (ed_and1 (ed_call c_law_right hr hk_law_right tk (ad_cons (ed_var 2) (ad_cons (ed_ix ixd dIx_noex (ed_var 1) (ed_int)) ad_nil)))))))))
  bd_nil))))))))
end
end K25


set_option maxRecDepth 100000
set_option maxHeartbeats 0
namespace K25
open PySem PySem.Spec PyProof.Rows L2 L2H DL
def clsBody : Stmt → List Stmt
  | .ClassDef (body := b) .. => b
  | _ => []
def d_height_of : He.DefD := ⟨("height_of", none), "height_of", "height_of", defArgs s_height_of, defBody s_height_of, defScope s_height_of, [], []⟩
def d_unfold : He.DefD := ⟨("unfold", none), "unfold", "unfold", defArgs s_unfold, defBody s_unfold, defScope s_unfold, [], []⟩
def d_law_whole : He.DefD := ⟨("_law_whole", none), "_law_whole", "_law_whole", defArgs s_law_whole, defBody s_law_whole, defScope s_law_whole, [], []⟩
def d_law_same : He.DefD := ⟨("_law_same", none), "_law_same", "_law_same", defArgs s_law_same, defBody s_law_same, defScope s_law_same, [], []⟩
def d_law_cell : He.DefD := ⟨("_law_cell", none), "_law_cell", "_law_cell", defArgs s_law_cell, defBody s_law_cell, defScope s_law_cell, [], []⟩
def d_law_digits : He.DefD := ⟨("_law_digits", none), "_law_digits", "_law_digits", defArgs s_law_digits, defBody s_law_digits, defScope s_law_digits, [], []⟩
def d_law_piece : He.DefD := ⟨("_law_piece", none), "_law_piece", "_law_piece", defArgs s_law_piece, defBody s_law_piece, defScope s_law_piece, [], []⟩
def d_law_shaped : He.DefD := ⟨("_law_shaped", none), "_law_shaped", "_law_shaped", defArgs s_law_shaped, defBody s_law_shaped, defScope s_law_shaped, [], []⟩
def d_law_right : He.DefD := ⟨("_law_right", none), "_law_right", "_law_right", defArgs s_law_right, defBody s_law_right, defScope s_law_right, [], []⟩
def d_law : He.DefD := ⟨("law", none), "law", "law", defArgs s_law, defBody s_law, defScope s_law, [], []⟩
abbrev s_TooLong_init : Stmt := (clsBody (topS 8)).getD 0 (.Pass ⟨0, 0, 0, 0⟩)
theorem sc_TooLong_init : FnScope ["self", "length"] ["self", "length"] (defScope s_TooLong_init) := ⟨rfl, rfl, rfl, by decide +kernel, rfl, by decide +kernel, by decide +kernel⟩
def d_TooLong_init : He.DefD := ⟨("TooLong", some "__init__"), "__init__", "TooLong.__init__", defArgs s_TooLong_init, defBody s_TooLong_init, defScope s_TooLong_init, [], []⟩
def fn : List He.DefD := [d_height_of, d_unfold, d_law_whole, d_law_same, d_law_cell, d_law_digits, d_law_piece, d_law_shaped, d_law_right, d_law, d_TooLong_init]
def fa : List He.Fa := [.glo "height_of", .glo "unfold", .glo "_law_whole", .glo "_law_same", .glo "_law_cell", .glo "_law_digits", .glo "_law_piece", .glo "_law_shaped", .glo "_law_right", .glo "law", .glo "BadCode", .glo "BadDeed", .glo "BadGrammar", .glo "BadLine", .glo "BadMachine", .glo "BadPaper", .glo "BadSplice", .glo "BadStanding", .glo "BadSurface", .glo "BadText", .glo "BadToken", .glo "BadTree", .glo "DoubleName", .glo "Guesses", .glo "NoSuchProcedure", .glo "NoSuchProgram", .glo "NothingToUndo", .glo "RecallError", .glo "TooLong", .glo "UnlikeLetters", .free "ValueError", .free "abs", .free "bool", .free "int", .free "isinstance", .free "len", .free "list", .free "range", .free "str", .free "sum", .free "tuple", .int "MOST_SYMBOLS" 10000]
def exs : List (PySem.W.Frag → Bool) := [fun K => oexB K (He.ga K "TooLong"), fun K => He.eqO (PySem.W.findIn K (.ref (He.ga K "TooLong")) "__init__") (some (some (.ref (He.ma K (He.ga K "TooLong") "__init__")))), fun K => decide (PySem.W.typeIn K (.ref (He.ma K (He.ga K "TooLong") "__init__")) = some (.type "function")), fun K => He.eqO (PySem.W.findIn K (.ref (He.ga K "TooLong")) "length") (some none), fun K => xfB K (He.ga K "TooLong"), fun K => ecB K (He.ga K "TooLong"), fun K => He.eqO (PySem.W.findIn K (.ref (He.ga K "TooLong")) "length") (some none), fun K => decide (PySem.W.kitAny K (.ref (He.ga K "TooLong")) [.ref (He.ga K "BadMachine"), .ref (He.ga K "BadLine"), .ref (He.ga K "BadText"), .ref (He.ga K "Guesses"), .ref (He.ga K "BadStanding"), .ref (He.ga K "BadSurface"), .ref (He.ga K "BadSplice"), .ref (He.ga K "NothingToUndo"), .ref (He.ga K "BadDeed")] = some false), fun K => decide (PySem.W.kitAny K (.ref (He.ga K "TooLong")) [.ref (He.ga K "BadTree"), .ref (He.ga K "DoubleName"), .ref (He.ga K "NoSuchProcedure"), .ref (He.ga K "BadToken"), .ref (He.ga K "UnlikeLetters"), .ref (He.ga K "BadCode"), .ref (He.ga K "BadPaper"), .ref (He.ga K "BadGrammar"), .ref (He.ga K "NoSuchProgram")] = some false), fun K => decide (PySem.W.kitOne K (.ref (He.ga K "TooLong")) (.ref (He.ga K "TooLong")) = some true), fun K => decide (PySem.W.kitOne K (.ref (He.ga K "TooLong")) (.type "ValueError") = some true), fun K => decide (PySem.W.exmOne K (.ref (He.ga K "TooLong")) (.ref (He.ga K "RecallError")) = some true), fun K => noList K]
def ex (K : PySem.W.Frag) : Bool := exs.all fun b => b K
theorem ex_at {K : PySem.W.Frag} (h : ex K = true) (i : Nat) {b : PySem.W.Frag → Bool} (e : exs[i]? = some b) : b K = true := List.all_eq_true.mp h b (List.mem_of_getElem? e)
abbrev Rw : PySem.W.OpenRow := PySem.W.OpenLaw.row PySem.Challenge.rw_pilerecall_k25_pieces
abbrev hk : PySem.W.Hook := He.hookX 4 fa fn [] [] ex
def ob (s : PySem.W.SharedT) : He.AlX := He.obsX 4 fa fn [] [] ex (HandSHeadRun.getT s)
theorem ob_eq (s : PySem.W.SharedT) : ob s = hk.obs s.abs := He.obsX_eq (HandSHeadRun.getT_eq s)
def nm0 : List PySem.Str := ["RecallError", "BadMachine", "BadLine", "BadText", "Guesses", "BadStanding", "BadSurface", "TooLong", "BadSplice", "NothingToUndo", "BadDeed", "BadTree", "DoubleName", "NoSuchProcedure", "BadToken", "UnlikeLetters", "BadCode", "BadPaper", "BadGrammar", "NoSuchProgram", "MOST_SYMBOLS", "height_of", "unfold", "_law_whole", "_law_same", "_law_cell", "_law_digits", "_law_piece", "_law_shaped", "_law_right"]
def names : List PySem.Str := nm0
theorem run (w : World) : HandSHeadRun.RunEq Rw (PySem.W.view Rw.prog [33]) hk ob 6000 names w := by
  intro os
  kernel_rfl
theorem facts {P : Program} {w : World} {K : PySem.W.Frag} {h : Heap} {mg : Str → Option Value} {f : Addr} (X : K.In h) (Gm : h.Ns mainGlobals mg) (hfa : mg ("law" : Str) = some (.ref f)) (c : He.SaysX fa fn [] [] ex w h K) :
    (∃ fd : FuncData, (∀ (s : Shared) (v : Value), BindsTo s fd ⟨[v], []⟩ [("script", v)]) ∧ ∀ base : Heap, K.In base → base.Ns mainGlobals mg → FnOk P w K mg base (L2N.CX P w) 11 f fd ["script"] (spD K mg g_law)) ∧ noList K = true := by
  have z : Zs K mg := ⟨He.free_ok X Gm (c.t.d.fact 30 (f := .free "ValueError") rfl), He.free_ok X Gm (c.t.d.fact 31 (f := .free "abs") rfl), He.free_ok X Gm (c.t.d.fact 32 (f := .free "bool") rfl), He.free_ok X Gm (c.t.d.fact 33 (f := .free "int") rfl), He.free_ok X Gm (c.t.d.fact 34 (f := .free "isinstance") rfl), He.free_ok X Gm (c.t.d.fact 35 (f := .free "len") rfl), He.free_ok X Gm (c.t.d.fact 36 (f := .free "list") rfl), He.free_ok X Gm (c.t.d.fact 37 (f := .free "range") rfl), He.free_ok X Gm (c.t.d.fact 38 (f := .free "str") rfl), He.free_ok X Gm (c.t.d.fact 39 (f := .free "sum") rfl), He.free_ok X Gm (c.t.d.fact 40 (f := .free "tuple") rfl), glb_int (He.int_ok X Gm (c.t.d.fact 41 (f := .int "MOST_SYMBOLS" 10000) rfl)), He.glo_ok X Gm (c.t.d.fact 27 (f := .glo "RecallError") rfl)⟩
  obtain ⟨fd_height_of, D_height_of⟩ := c.t.d.def_ 0 (d := d_height_of) rfl
  obtain ⟨fd_unfold, D_unfold⟩ := c.t.d.def_ 1 (d := d_unfold) rfl
  obtain ⟨fd_law_whole, D_law_whole⟩ := c.t.d.def_ 2 (d := d_law_whole) rfl
  obtain ⟨fd_law_same, D_law_same⟩ := c.t.d.def_ 3 (d := d_law_same) rfl
  obtain ⟨fd_law_cell, D_law_cell⟩ := c.t.d.def_ 4 (d := d_law_cell) rfl
  obtain ⟨fd_law_digits, D_law_digits⟩ := c.t.d.def_ 5 (d := d_law_digits) rfl
  obtain ⟨fd_law_piece, D_law_piece⟩ := c.t.d.def_ 6 (d := d_law_piece) rfl
  obtain ⟨fd_law_shaped, D_law_shaped⟩ := c.t.d.def_ 7 (d := d_law_shaped) rfl
  obtain ⟨fd_law_right, D_law_right⟩ := c.t.d.def_ 8 (d := d_law_right) rfl
  obtain ⟨fd_law, D_law⟩ := c.t.d.def_ 9 (d := d_law) rfl
  obtain ⟨fd_TooLong_init, D_TooLong_init⟩ := c.t.d.def_ 10 (d := d_TooLong_init) rfl
  have bi_height_of : Binds K fd_height_of ["pieces"] [] := D_height_of.bindsN fun _ _ _ _ _ _ us hl => match us, hl with | [_], _ => rfl
  have bi_unfold : Binds K fd_unfold ["pieces"] [] := D_unfold.bindsN fun _ _ _ _ _ _ us hl => match us, hl with | [_], _ => rfl
  have bi_law_whole : Binds K fd_law_whole ["value"] [] := D_law_whole.bindsN fun _ _ _ _ _ _ us hl => match us, hl with | [_], _ => rfl
  have bi_law_same : Binds K fd_law_same ["told", "due"] [] := D_law_same.bindsN fun _ _ _ _ _ _ us hl => match us, hl with | [_, _], _ => rfl
  have bi_law_cell : Binds K fd_law_cell ["script", "k"] [] := D_law_cell.bindsN fun _ _ _ _ _ _ us hl => match us, hl with | [_, _], _ => rfl
  have bi_law_digits : Binds K fd_law_digits ["cell", "sizes"] [] := D_law_digits.bindsN fun _ _ _ _ _ _ us hl => match us, hl with | [_, _], _ => rfl
  have bi_law_piece : Binds K fd_law_piece ["cell"] [] := D_law_piece.bindsN fun _ _ _ _ _ _ us hl => match us, hl with | [_], _ => rfl
  have bi_law_shaped : Binds K fd_law_shaped ["parts", "shape"] [] := D_law_shaped.bindsN fun _ _ _ _ _ _ us hl => match us, hl with | [_, _], _ => rfl
  have bi_law_right : Binds K fd_law_right ["parts", "shape"] [] := D_law_right.bindsN fun _ _ _ _ _ _ us hl => match us, hl with | [_, _], _ => rfl
  have bi_TooLong_init : Binds K fd_TooLong_init ["self", "length"] [] := D_TooLong_init.bindsN fun _ _ _ _ _ _ us hl => match us, hl with | [_, _], _ => rfl
  have x_TooLong : Sx_TooLong K mg := ⟨fun C hC => by cases (He.glo_ok X Gm (c.t.d.fact 28 (f := .glo "TooLong") rfl)).symm.trans hC; exact xfB_ok (ex_at c.more 4 rfl), fun C hC => by cases (He.glo_ok X Gm (c.t.d.fact 28 (f := .glo "TooLong") rfl)).symm.trans hC; exact ecB_ok (ex_at c.more 5 rfl), fun C hC => by cases (He.glo_ok X Gm (c.t.d.fact 28 (f := .glo "TooLong") rfl)).symm.trans hC; exact He.eqO_ok (ex_at c.more 6 rfl), fun C hC => by cases (He.glo_ok X Gm (c.t.d.fact 28 (f := .glo "TooLong") rfl)).symm.trans hC; exact of_decide_eq_true (ex_at c.more 7 rfl), fun C hC => by cases (He.glo_ok X Gm (c.t.d.fact 28 (f := .glo "TooLong") rfl)).symm.trans hC; exact of_decide_eq_true (ex_at c.more 8 rfl), fun C hC => by cases (He.glo_ok X Gm (c.t.d.fact 28 (f := .glo "TooLong") rfl)).symm.trans hC; exact of_decide_eq_true (ex_at c.more 9 rfl), fun C hC => by cases (He.glo_ok X Gm (c.t.d.fact 28 (f := .glo "TooLong") rfl)).symm.trans hC; exact of_decide_eq_true (ex_at c.more 10 rfl), He.glo_ok X Gm (c.t.d.fact 10 (f := .glo "BadCode") rfl), He.glo_ok X Gm (c.t.d.fact 11 (f := .glo "BadDeed") rfl), He.glo_ok X Gm (c.t.d.fact 12 (f := .glo "BadGrammar") rfl), He.glo_ok X Gm (c.t.d.fact 13 (f := .glo "BadLine") rfl), He.glo_ok X Gm (c.t.d.fact 14 (f := .glo "BadMachine") rfl), He.glo_ok X Gm (c.t.d.fact 15 (f := .glo "BadPaper") rfl), He.glo_ok X Gm (c.t.d.fact 16 (f := .glo "BadSplice") rfl), He.glo_ok X Gm (c.t.d.fact 17 (f := .glo "BadStanding") rfl), He.glo_ok X Gm (c.t.d.fact 18 (f := .glo "BadSurface") rfl), He.glo_ok X Gm (c.t.d.fact 19 (f := .glo "BadText") rfl), He.glo_ok X Gm (c.t.d.fact 20 (f := .glo "BadToken") rfl), He.glo_ok X Gm (c.t.d.fact 21 (f := .glo "BadTree") rfl), He.glo_ok X Gm (c.t.d.fact 22 (f := .glo "DoubleName") rfl), He.glo_ok X Gm (c.t.d.fact 23 (f := .glo "Guesses") rfl), He.glo_ok X Gm (c.t.d.fact 24 (f := .glo "NoSuchProcedure") rfl), He.glo_ok X Gm (c.t.d.fact 25 (f := .glo "NoSuchProgram") rfl), He.glo_ok X Gm (c.t.d.fact 26 (f := .glo "NothingToUndo") rfl), He.glo_ok X Gm (c.t.d.fact 28 (f := .glo "TooLong") rfl), He.glo_ok X Gm (c.t.d.fact 29 (f := .glo "UnlikeLetters") rfl)⟩
  cases hfa.symm.trans (He.glo_ok X Gm (c.t.d.fact 9 (f := .glo "law") rfl))
  refine ⟨⟨fd_law, fun s v => D_law.bindsA (ps := ["script"]) (fun _ _ _ _ _ _ us hl => match us, hl with | [_], _ => rfl) s [v] rfl, fun base _ _ => ?_⟩, ex_at c.more 12 rfl⟩
  have e_TooLong : ExcD P w K mg base "TooLong" ["length"] := ⟨_, _, _, _, He.glo_ok X Gm (c.t.d.fact 28 (f := .glo "TooLong") rfl), oexB_ok (ex_at c.more 0 rfl), He.eqO_ok (ex_at c.more 1 rfl), of_decide_eq_true (ex_at c.more 2 rfl), init1 D_TooLong_init sc_TooLong_init rfl, bi_TooLong_init, fun x hx => by
    cases List.mem_singleton.mp hx; exact He.eqO_ok (ex_at c.more 3 rfl)⟩
  have y_law_right_h0 : Caught K mg (.ref (He.ga K "RecallError")) law_right_h0 := ⟨fun c0 C g hg hC => by
    rcases law_right_h0_of hg with ⟨rfl, rfl⟩
    · cases (He.glo_ok X Gm (c.t.d.fact 28 (f := .glo "TooLong") rfl)).symm.trans hC; exact of_decide_eq_true (ex_at c.more 11 rfl)⟩
  have c_height_of : CalD P w K mg base 1 "height_of" g_height_of := cal_of D_height_of sc_height_of rfl (He.glo_ok X Gm (c.t.d.fact 0 (f := .glo "height_of") rfl)) bi_height_of (b_height_of z)
  have k_height_of_k0_pieces : CalK P w K mg base 1 "height_of" 0 ["pieces"] pm_height_of_k0_pieces g_height_of := calK_of D_height_of sc_height_of rfl (He.glo_ok X Gm (c.t.d.fact 0 (f := .glo "height_of") rfl)) (fun {α} => pm_height_of_k0_pieces) (fun r1 r2 => vals_pick (r1.append r2) _) (fun _ _ _ _ _ _ us ws l1 l2 => match us, ws, l1, l2 with | [], [_], _, _ => rfl) (fun G vs zs ds es l1 l2 p1 p2 => dp_pick (p1.append p2) _) (b_height_of z)
  have c_unfold : CalD P w K mg base 3 "unfold" g_unfold := cal_of D_unfold sc_unfold rfl (He.glo_ok X Gm (c.t.d.fact 1 (f := .glo "unfold") rfl)) bi_unfold (b_unfold z c_height_of e_TooLong)
  have k_unfold_k0_pieces : CalK P w K mg base 3 "unfold" 0 ["pieces"] pm_unfold_k0_pieces g_unfold := calK_of D_unfold sc_unfold rfl (He.glo_ok X Gm (c.t.d.fact 1 (f := .glo "unfold") rfl)) (fun {α} => pm_unfold_k0_pieces) (fun r1 r2 => vals_pick (r1.append r2) _) (fun _ _ _ _ _ _ us ws l1 l2 => match us, ws, l1, l2 with | [], [_], _, _ => rfl) (fun G vs zs ds es l1 l2 p1 p2 => dp_pick (p1.append p2) _) (b_unfold z c_height_of e_TooLong)
  have c_law_whole : CalD P w K mg base 1 "_law_whole" g_law_whole := cal_of D_law_whole sc_law_whole rfl (He.glo_ok X Gm (c.t.d.fact 2 (f := .glo "_law_whole") rfl)) bi_law_whole (b_law_whole z)
  have ch_law_whole : CalH P w K mg base 1 "_law_whole" h_law_whole := calH_of D_law_whole sc_law_whole rfl (He.glo_ok X Gm (c.t.d.fact 2 (f := .glo "_law_whole") rfl)) bi_law_whole (bh_law_whole z)
  have c_law_same : CalD P w K mg base 9 "_law_same" g_law_same := cal_rec (k0 := 1) D_law_same sc_law_same rfl (He.glo_ok X Gm (c.t.d.fact 3 (f := .glo "_law_same") rfl)) bi_law_same (fun k g hk c1 => b_law_same z c_law_whole hk c1) 8
  have ch_law_same : CalH P w K mg base 2 "_law_same" h_law_same := calH_of D_law_same sc_law_same rfl (He.glo_ok X Gm (c.t.d.fact 3 (f := .glo "_law_same") rfl)) bi_law_same (bh_law_same z ch_law_whole)
  have c_law_cell : CalD P w K mg base 1 "_law_cell" g_law_cell := cal_of D_law_cell sc_law_cell rfl (He.glo_ok X Gm (c.t.d.fact 4 (f := .glo "_law_cell") rfl)) bi_law_cell (b_law_cell z)
  have c_law_digits : CalD P w K mg base 1 "_law_digits" g_law_digits := cal_of D_law_digits sc_law_digits rfl (He.glo_ok X Gm (c.t.d.fact 5 (f := .glo "_law_digits") rfl)) bi_law_digits (b_law_digits z)
  have c_law_piece : CalD P w K mg base 2 "_law_piece" g_law_piece := cal_of D_law_piece sc_law_piece rfl (He.glo_ok X Gm (c.t.d.fact 6 (f := .glo "_law_piece") rfl)) bi_law_piece (b_law_piece z c_law_digits)
  have c_law_shaped : CalD P w K mg base 1 "_law_shaped" g_law_shaped := cal_of D_law_shaped sc_law_shaped rfl (He.glo_ok X Gm (c.t.d.fact 7 (f := .glo "_law_shaped") rfl)) bi_law_shaped (b_law_shaped z)
  have c_law_right : CalD P w K mg base 10 "_law_right" g_law_right := cal_of D_law_right sc_law_right rfl (He.glo_ok X Gm (c.t.d.fact 8 (f := .glo "_law_right") rfl)) bi_law_right (b_law_right z c_law_same c_law_shaped c_height_of c_unfold k_height_of_k0_pieces k_unfold_k0_pieces ch_law_same x_TooLong y_law_right_h0)
  exact fn_d D_law sc_law rfl (b_law z c_law_cell c_law_digits c_law_piece c_law_right)
end K25


set_option maxRecDepth 100000
set_option maxHeartbeats 4000000
namespace DL
open PySem PySem.Spec PyProof.Rows L2
/-! ### evaluation, as rules for simp -/
section
variable {δ δ' : DE} {F F1 F2 Fa Fb : DE → SR} {i : Nat} {f fa fb : DE → R RV} {r : RV} {d : D} {c : Str} {fs : List (Str × D)}
@[simp] theorem ev_seq : sSeq F1 F2 δ = (F1 δ).seq F2 := (Eq.refl _).trans (Eq.refl _)
@[simp] theorem ev_nil : sNil δ = .nx δ := (Eq.refl _).trans (Eq.refl _)
@[simp] theorem sq_nx : (SR.nx δ).seq F = F δ := (Eq.refl _).trans (Eq.refl _)
@[simp] theorem sq_br : (SR.br δ).seq F = .br δ := (Eq.refl _).trans (Eq.refl _)
@[simp] theorem sq_ct : (SR.ct δ).seq F = .ct δ := (Eq.refl _).trans (Eq.refl _)
@[simp] theorem sq_rt : (SR.rt r).seq F = .rt r := (Eq.refl _).trans (Eq.refl _)
@[simp] theorem sq_ex : (SR.ex c fs δ).seq F = .ex c fs δ := (Eq.refl _).trans (Eq.refl _)
@[simp] theorem sq_stuck : SR.stuck.seq F = .stuck := (Eq.refl _).trans (Eq.refl _)
@[simp] theorem ev_set : sSet i f δ = lift (f δ) δ fun r => .nx (δ.set i (some r)) := (Eq.refl _).trans (Eq.refl _)
@[simp] theorem lf_ok {α : Type} (a : α) (k : α → SR) : lift (.ok a) δ k = k a := (Eq.refl _).trans (Eq.refl _)
@[simp] theorem lf_ex {α : Type} (k : α → SR) : lift (.ex c fs : R α) δ k = .ex c fs δ := (Eq.refl _).trans (Eq.refl _)
@[simp] theorem ev_ret : sRet f δ = lift (f δ) δ fun r => .rt r := (Eq.refl _).trans (Eq.refl _)
@[simp] theorem ev_if {c : DE → R Bool} : sIf c Fa Fb δ = lift (c δ) δ fun b => if b = true then Fa δ else Fb δ := (Eq.refl _).trans (Eq.refl _)
@[simp] theorem ev_frz : sFrz i F δ = F (frzS i δ) := (Eq.refl _).trans (Eq.refl _)
@[simp] theorem ev_cst : cst d δ = .ok (.fr d) := (Eq.refl _).trans (Eq.refl _)
@[simp] theorem rv_fr : (RV.fr d).d = d := (Eq.refl _).trans (Eq.refl _)
@[simp] theorem rv_ol {ds : List D} : (RV.ol ds).d = .lst ds := (Eq.refl _).trans (Eq.refl _)
@[simp] theorem bd_ok {α β : Type} (a : α) (f : α → R β) : (R.ok a >>= f) = f a := (Eq.refl _).trans (Eq.refl _)
@[simp] theorem bd_ex {α β : Type} (f : α → R β) : ((R.ex c fs : R α) >>= f) = R.ex c fs := (Eq.refl _).trans (Eq.refl _)
@[simp] theorem ev_bin {g : D → D → R RV} : fBin g fa fb δ = (fa δ >>= fun x => fb δ >>= fun y => g x.d y.d) := (Eq.refl _).trans (Eq.refl _)
@[simp] theorem ev_un {g : D → R RV} : fUn g fa δ = (fa δ >>= fun x => g x.d) := (Eq.refl _).trans (Eq.refl _)
@[simp] theorem ev_call {g : List D → R RV} {fs : DE → R (List D)} : fCall g fs δ = (fs δ >>= g) := (Eq.refl _).trans (Eq.refl _)
@[simp] theorem ev_anil : aNil δ = .ok [] := (Eq.refl _).trans (Eq.refl _)
@[simp] theorem ev_acons {fs : DE → R (List D)} : aCons f fs δ = (f δ >>= fun r => fs δ >>= fun ds => .ok (r.d :: ds)) := (Eq.refl _).trans (Eq.refl _)
@[simp] theorem ev_T : fT f δ = (f δ >>= fun r => truD r.d) := (Eq.refl _).trans (Eq.refl _)
@[simp] theorem ev_B : fB f δ = (f δ >>= fun r => blD r.d) := (Eq.refl _).trans (Eq.refl _)
@[simp] theorem ev_bAnd {a b : DE → R Bool} : bAnd a b δ = (a δ >>= fun c => if c = true then b δ else .ok false) := (Eq.refl _).trans (Eq.refl _)
@[simp] theorem ev_bOr {a b : DE → R Bool} : bOr a b δ = (a δ >>= fun c => if c = true then .ok true else b δ) := (Eq.refl _).trans (Eq.refl _)
@[simp] theorem ev_bNot {a : DE → R Bool} : bNot a δ = (a δ >>= fun c => .ok (!c)) := (Eq.refl _).trans (Eq.refl _)
@[simp] theorem ev_fAnd : fAnd fa fb δ = (fa δ >>= fun r => truD r.d >>= fun b => if b = true then fb δ else .ok (.fr r.d)) := (Eq.refl _).trans (Eq.refl _)
@[simp] theorem ev_fOr : fOr fa fb δ = (fa δ >>= fun r => truD r.d >>= fun b => if b = true then .ok (.fr r.d) else fb δ) := (Eq.refl _).trans (Eq.refl _)
@[simp] theorem ev_fNot : fNot fa δ = (fa δ >>= fun r => truD r.d >>= fun b => .ok (.fr (.bl (!b)))) := (Eq.refl _).trans (Eq.refl _)
@[simp] theorem ev_fIf {c : DE → R Bool} : fIf c fa fb δ = (c δ >>= fun b => if b = true then fa δ else fb δ) := (Eq.refl _).trans (Eq.refl _)
@[simp] theorem ev_tup {n : Nat} {fs : DE → R (List D)} : fTup n fs δ = (fs δ >>= fun ds => .ok (.fr (.tup ds))) := (Eq.refl _).trans (Eq.refl _)
@[simp] theorem ev_lst {n : Nat} {fs : DE → R (List D)} : fLst n fs δ = (fs δ >>= fun ds => .ok (.ol ds)) := (Eq.refl _).trans (Eq.refl _)
@[simp] theorem ev_for {fi : DE → R (List D)} {bd : D → DE → Option DE} {fg : List Nat} : sFor fi bd F fg δ = lift (fi δ) δ fun ds => forL bd F fg ds δ := (Eq.refl _).trans (Eq.refl _)
@[simp] theorem ev_iseq : iSeq f δ = (f δ >>= fun r => seqD r.d) := (Eq.refl _).trans (Eq.refl _)
@[simp] theorem ev_iargs {g : List D → R (List D)} {fs : DE → R (List D)} : iArgs g fs δ = (fs δ >>= g) := (Eq.refl _).trans (Eq.refl _)
@[simp] theorem ev_gset : gSet i d δ = some (δ.set i (some (.fr d))) := (Eq.refl _).trans (Eq.refl _)
@[simp] theorem ev_yes : bYes δ = .ok true := (Eq.refl _).trans (Eq.refl _)
@[simp] theorem ev_sl {fl fh : DE → R (Option Int)} : fSl f fl fh δ = (f δ >>= fun r => fl δ >>= fun l => fh δ >>= fun h => dSl r.d l h) := (Eq.refl _).trans (Eq.refl _)
@[simp] theorem ev_pnone : pNone δ = .ok none := (Eq.refl _).trans (Eq.refl _)
@[simp] theorem seq_lst {ds : List D} : seqD (.lst ds) = .ok ds := (Eq.refl _).trans (Eq.refl _)
@[simp] theorem seq_tup {ds : List D} : seqD (.tup ds) = .ok ds := (Eq.refl _).trans (Eq.refl _)
@[simp] theorem bl_bl {b : Bool} : blD (.bl b) = .ok b := (Eq.refl _).trans (Eq.refl _)
@[simp] theorem tru_bl {b : Bool} : truD (.bl b) = .ok b := (Eq.refl _).trans (Eq.refl _)
@[simp] theorem add_int {i j : Int} : dAdd (.int i) (.int j) = .ok (.fr (.int (i + j))) := (Eq.refl _).trans (Eq.refl _)
@[simp] theorem sub_int {i j : Int} : dSub (.int i) (.int j) = .ok (.fr (.int (i - j))) := (Eq.refl _).trans (Eq.refl _)
@[simp] theorem lt_int {i j : Int} : dLt (.int i) (.int j) = .ok (.fr (.bl (decide (i < j)))) := (Eq.refl _).trans (Eq.refl _)
@[simp] theorem gt_int {i j : Int} : dGt (.int i) (.int j) = .ok (.fr (.bl (decide (j < i)))) := (Eq.refl _).trans (Eq.refl _)
@[simp] theorem le_int {i j : Int} : dLe (.int i) (.int j) = .ok (.fr (.bl (decide (i ≤ j)))) := (Eq.refl _).trans (Eq.refl _)
@[simp] theorem ge_int {i j : Int} : dGe (.int i) (.int j) = .ok (.fr (.bl (decide (j ≤ i)))) := (Eq.refl _).trans (Eq.refl _)
@[simp] theorem neg_int {i : Int} : dNeg (.int i) = .ok (.fr (.int (-i))) := (Eq.refl _).trans (Eq.refl _)
@[simp] theorem int_int {i : Int} : dInt [.int i] = .ok (.fr (.int i)) := (Eq.refl _).trans (Eq.refl _)
@[simp] theorem len_lst {ds : List D} : dLen [.lst ds] = .ok (.fr (.int ds.length)) := (Eq.refl _).trans (Eq.refl _)
@[simp] theorem len_tup {ds : List D} : dLen [.tup ds] = .ok (.fr (.int ds.length)) := (Eq.refl _).trans (Eq.refl _)
@[simp] theorem list_lst {ds : List D} : dList [.lst ds] = .ok (.ol ds) := (Eq.refl _).trans (Eq.refl _)
@[simp] theorem list_tup {ds : List D} : dList [.tup ds] = .ok (.ol ds) := (Eq.refl _).trans (Eq.refl _)
@[simp] theorem tuple_lst {ds : List D} : dTuple [.lst ds] = .ok (.fr (.tup ds)) := (Eq.refl _).trans (Eq.refl _)
@[simp] theorem tuple_tup {ds : List D} : dTuple [.tup ds] = .ok (.fr (.tup ds)) := (Eq.refl _).trans (Eq.refl _)
@[simp] theorem abs_int {i : Int} : dAbs [.int i] = .ok (.fr (.int (if i < 0 then -i else i))) := (Eq.refl _).trans (Eq.refl _)
theorem mul_int {i j : Int} (h : (-(2 ^ 64) < i ∧ i < 2 ^ 64) ∨ (-(2 ^ 64) < j ∧ j < 2 ^ 64)) : dMul (.int i) (.int j) = .ok (.fr (.int (i * j))) := if_pos h
theorem div_int {i j : Int} (h : 0 < j ∧ j < 2 ^ 64) : dDiv (.int i) (.int j) = .ok (.fr (.int (i / j))) := if_pos h
theorem mod_int {i j : Int} (h : 0 < j) : dMod (.int i) (.int j) = .ok (.fr (.int (i % j))) := if_pos h
theorem pow_int {i j : Int} (h : 0 ≤ j ∧ j ≤ 1000 ∧ i.natAbs < 2 ^ 64) : dPow (.int i) (.int j) = .ok (.fr (.int (i ^ j.toNat))) := if_pos h
theorem ix_lst {ds : List D} {i : Nat} {d : D} (h : ds[i]? = some d) : dIx (.lst ds) (.int i) = .ok (.fr d) := by
  have : atI ds (i : Int) = some d := atI_nat h
  simp only [dIx, this]
theorem ix_tup {ds : List D} {i : Nat} {d : D} (h : ds[i]? = some d) : dIx (.tup ds) (.int i) = .ok (.fr d) := by
  have : atI ds (i : Int) = some d := atI_nat h
  simp only [dIx, this]
@[simp] theorem gv_fr (h : δ[i]? = some (some (.fr d))) : getV i δ = .ok (.fr d) := by
  unfold getV; rw [h]
@[simp] theorem fz_ol {ds : List D} (h : δ[i]? = some (some (.ol ds))) : frzS i δ = δ.set i (some (.fr (.lst ds))) := by
  unfold frzS; rw [h]; rfl
theorem fz_any (h : δ[i]? = some (some r)) : frzS i δ = δ.set i (some (.fr r.d)) := by
  unfold frzS; rw [h]
@[simp] theorem fz_fr (h : δ[i]? = some (some (.fr d))) : frzS i δ = δ.set i (some (.fr d)) := by
  unfold frzS; rw [h]; rfl
theorem ow_ap {ds : List D} (h : δ[i]? = some (some (.ol ds))) (hf : f δ = .ok r) (hl : ds.length < SZ) : sOwn i gAppend (aCons f aNil) δ = .nx (δ.set i (some (.ol (ds ++ [r.d])))) := by
  unfold sOwn
  rw [h]
  simp only [ev_acons, hf, bd_ok, ev_anil, lf_ok, gAppend, hl, if_true]
@[simp] theorem rt_own (h : δ[i]? = some (some r)) : sRetV i δ = .rt r := by
  unfold sRetV; rw [h]
/-- a for loop as a fold -/
theorem forL_fold {α β : Type} {bd : D → DE → Option DE} {fg : List Nat} (g : β → D) (st : α → DE) (step : α → β → α) (P : α → Prop) : ∀ (xs : List β) (a : α), (∀ a b, b ∈ xs → P a → ∃ δ1 δ2, bd (g b) (st a) = some δ1 ∧ F δ1 = .nx δ2 ∧ fgtS fg δ2 = st (step a b) ∧ P (step a b)) → P a →
    forL bd F fg (xs.map g) (st a) = .nx (st (xs.foldl step a)) ∧ P (xs.foldl step a)
  | [], a, _, h0 => ⟨rfl, h0⟩
  | b :: xs, a, h, h0 => by
    obtain ⟨δ1, δ2, e1, e2, e3, p⟩ := h a b List.mem_cons_self h0
    obtain ⟨k1, k2⟩ := forL_fold g st step P xs (step a b) (fun a b hb => h a b (List.mem_cons_of_mem _ hb)) p
    refine ⟨?_, k2⟩
    rw [List.map_cons, forL]
    simp only [e1, e2, e3]
    exact k1
/-- .. whose state hangs on the place -/
theorem forL_st {bd : D → DE → Option DE} {fg : List Nat} : ∀ (ds : List D) (st : Nat → DE), (∀ i d, ds[i]? = some d → ∃ δ1 δ2, bd d (st i) = some δ1 ∧ F δ1 = .nx δ2 ∧ fgtS fg δ2 = st (i + 1)) → forL bd F fg ds (st 0) = .nx (st ds.length)
  | [], _, _ => rfl
  | d :: ds, st, h => by
    obtain ⟨δ1, δ2, e1, e2, e3⟩ := h 0 d rfl
    rw [forL]
    simp only [e1, e2, e3]
    exact forL_st ds (fun i => st (i + 1)) fun i d e => h (i + 1) d e
theorem forL_inv {bd : D → DE → Option DE} {fg : List Nat} : ∀ (ds : List D) (I : Nat → DE → Prop) (δ : DE), I 0 δ → (∀ i d δ, ds[i]? = some d → I i δ → ∃ δ1 δ2, bd d δ = some δ1 ∧ F δ1 = .nx δ2 ∧ I (i + 1) (fgtS fg δ2)) → ∃ δ', forL bd F fg ds δ = .nx δ' ∧ I ds.length δ'
  | [], I, δ, h0, _ => ⟨δ, rfl, h0⟩
  | d :: ds, I, δ, h0, h => by
    obtain ⟨δ1, δ2, e1, e2, e3⟩ := h 0 d δ rfl h0
    rw [forL]
    simp only [e1, e2]
    exact forL_inv ds (fun i => I (i + 1)) _ e3 fun i d δ e => h (i + 1) d δ e
/-- a comprehension as a map -/
theorem comp_map {β : Type} {bd : D → DE → Option DE} {fe : DE → R RV} (g : β → D) (k : β → D) : ∀ xs : List β, (∀ b ∈ xs, ∃ δ1 r, bd (g b) δ = some δ1 ∧ fe δ1 = .ok r ∧ r.d = k b) → compL bd bYes fe δ (xs.map g) = .ok (xs.map k)
  | [], _ => rfl
  | b :: xs, h => by
    obtain ⟨δ1, r, e1, e2, e3⟩ := h b List.mem_cons_self
    rw [List.map_cons, compL]
    simp only [e1, ev_yes, if_true, e2, comp_map g k xs fun b hb => h b (List.mem_cons_of_mem _ hb), e3, List.map_cons]
theorem lc_ok {fi : DE → R (List D)} {vs : List Nat} {bd : D → DE → Option DE} {ft : DE → R Bool} {fe : DE → R RV} {ds es : List D} (h1 : fi δ = .ok ds) (h2 : compL bd ft fe (fgtS vs δ) ds = .ok es) (h3 : es.length ≤ SZ) : fLc fi vs bd ft fe δ = .ok (.ol es) := by
  unfold fLc
  rw [h1, bd_ok, h2]
  simp only [h3, if_true]
end
/-! ### == of a thing and itself -/
mutual
theorem eqD_refl : ∀ (n : Nat) (d : D), flatD n d = true → eqD d d = true
  | _, .non, _ => rfl
  | _, .bl b, _ => by cases b <;> rfl
  | _, .int i, _ => by show (i == i) = true; exact beq_self_eq_true i
  | _, .str x, _ => by show (x == x) = true; exact beq_self_eq_true x
  | 0, .lst xs, h => by simp [flatD] at h
  | 0, .tup xs, h => by simp [flatD] at h
  | n + 1, .lst xs, h => eqDs_refl n xs (by simpa [flatD] using h)
  | n + 1, .tup xs, h => eqDs_refl n xs (by simpa [flatD] using h)
  | 0, .dct _, h => by simp [flatD] at h
  | 0, .obj _ _, h => by simp [flatD] at h
  | 0, .exn _ _ _ _, h => by simp [flatD] at h
  | _ + 1, .dct _, h => by simp [flatD] at h
  | _ + 1, .obj _ _, h => by simp [flatD] at h
  | _ + 1, .exn _ _ _ _, h => by simp [flatD] at h
theorem eqDs_refl : ∀ (n : Nat) (xs : List D), flatDs n xs = true → PyData.eqvAll (toPs xs) (toPs xs) = true
  | _, [], _ => rfl
  | n, x :: xs, h => by
    simp only [flatDs, Bool.and_eq_true] at h
    show (PyData.eqv (toP x) (toP x) && PyData.eqvAll (toPs xs) (toPs xs)) = true
    have h1 : eqD x x = true := eqD_refl n x h.1
    unfold eqD at h1
    rw [h1, eqDs_refl n xs h.2]
    rfl
end
theorem ne_self {d : D} (h : flatD 9 d = true) : dEq true d d = .ok (.fr (.bl false)) := by
  unfold dEq
  rw [h, eqD_refl 9 d h]
  rfl
theorem eq_self {d : D} (h : flatD 9 d = true) : dEq false d d = .ok (.fr (.bl true)) := by
  unfold dEq
  rw [h, eqD_refl 9 d h]
  rfl
theorem eq_int {i j : Int} : dEq false (.int i) (.int j) = .ok (.fr (.bl (decide (i = j)))) := by
  show R.ok (RV.fr (D.bl (i == j))) = _
  have e : (i == j) = decide (i = j) := by rw [Bool.eq_iff_iff]; simp
  rw [e]
theorem ne_int {i j : Int} : dEq true (.int i) (.int j) = .ok (.fr (.bl (!decide (i = j)))) := by
  show R.ok (RV.fr (D.bl (!(i == j)))) = _
  have e : (i == j) = decide (i = j) := by rw [Bool.eq_iff_iff]; simp
  rw [e]

theorem rng1_nat {n : Nat} (h : n < 2 ^ 62) : rng1 [.int n] = .ok ((List.range n).map fun i => .int (i : Nat)) := by
  have h' : -(2 ^ 62) ≤ (n : Int) ∧ (n : Int) < 2 ^ 62 := by omega
  simp only [rng1, if_pos h', Int.toNat_natCast, Int.zero_add]
/-- what holds behind a statement that goes on -/
def nxS (P : DE → Prop) : SR → Prop
  | .nx δ => P δ
  | _ => False
theorem nx_of {P : DE → Prop} {s : SR} {δ : DE} (e : s = .nx δ) (h : P δ) : nxS P s := by rw [e]; exact h
theorem nx_ex {P : DE → Prop} : ∀ {s : SR}, nxS P s → ∃ δ, s = .nx δ ∧ P δ
  | .nx δ, h => ⟨δ, rfl, h⟩
theorem forL_wp {F : DE → SR} {bd : D → DE → Option DE} {fg : List Nat} (ds : List D) (I : Nat → DE → Prop) (δ : DE) (h0 : I 0 δ) (h : ∀ i d δ, ds[i]? = some d → I i δ → ∃ δ1, bd d δ = some δ1 ∧ nxS (fun δ2 => I (i + 1) (fgtS fg δ2)) (F δ1)) : ∃ δ', forL bd F fg ds δ = .nx δ' ∧ I ds.length δ' :=
  forL_inv ds I δ h0 fun i d δ e hI => by
    obtain ⟨δ1, e1, h1⟩ := h i d δ e hI
    obtain ⟨δ2, e2, h2⟩ := nx_ex h1
    exact ⟨δ1, δ2, e1, e2, h2⟩
theorem wp_seq {P : DE → Prop} {F1 F2 : DE → SR} {δ : DE} (h : nxS (fun δ' => nxS P (F2 δ')) (F1 δ)) : nxS P (sSeq F1 F2 δ) := by
  obtain ⟨δ', e, h⟩ := nx_ex h
  unfold sSeq
  rw [e]
  exact h
theorem wp_nil {P : DE → Prop} {δ : DE} (h : P δ) : nxS P (sNil δ) := h
theorem wp_set {P : DE → Prop} {i : Nat} {f : DE → R RV} {δ : DE} {r : RV} (e : f δ = .ok r) (h : P (δ.set i (some r))) : nxS P (sSet i f δ) := by
  unfold sSet; rw [e]; exact h
theorem wp_append {P : DE → Prop} {i : Nat} {f : DE → R RV} {δ : DE} {r : RV} {ds : List D} (h0 : δ[i]? = some (some (.ol ds))) (hl : ds.length < SZ) (e : f δ = .ok r) (h : P (δ.set i (some (.ol (ds ++ [r.d]))))) : nxS P (sOwn i gAppend (aCons f aNil) δ) := by
  rw [ow_ap h0 e hl]; exact h
theorem wp_if {P : DE → Prop} {c : DE → R Bool} {Fa Fb : DE → SR} {δ : DE} {b : Bool} (e : c δ = .ok b) (ht : b = true → nxS P (Fa δ)) (hf : b = false → nxS P (Fb δ)) : nxS P (sIf c Fa Fb δ) := by
  unfold sIf; rw [e]
  cases b with
  | true => exact ht rfl
  | false => exact hf rfl

theorem mul_lst1 (x : D) {k : Nat} (h : k ≤ SZ) : dMul (.lst [x]) (.int k) = .ok (.ol (List.replicate k x)) := by
  have e : (List.replicate k [x]).flatten = List.replicate k x := by
    induction k with
    | zero => rfl
    | succ k ih => rw [List.replicate_succ, List.replicate_succ, List.flatten_cons, ih (by omega)]; rfl
  have c : (-(2 ^ 63) ≤ (k : Int) ∧ (k : Int) < 2 ^ 63) ∧ [x].length * (k : Int).toNat ≤ SZ := by
    unfold SZ at h ⊢
    simp only [List.length_cons, List.length_nil, Int.toNat_natCast]
    omega
  simp only [dMul]
  rw [if_pos c, Int.toNat_natCast, e]
theorem add_lst {xs ys : List D} (h : xs.length + ys.length ≤ SZ) : dAdd (.lst xs) (.lst ys) = .ok (.ol (xs ++ ys)) := if_pos h
theorem add_tup {xs ys : List D} (h : xs.length + ys.length ≤ SZ) : dAdd (.tup xs) (.tup ys) = .ok (.fr (.tup (xs ++ ys))) := if_pos h
theorem str_ix {x : Str} {i : Nat} (hl : x.length ≤ SZ) (hi : i < x.cps.toList.length) : ∃ c, dIx (.str x) (.int i) = .ok (.fr (.str ⟨#[c]⟩)) := by
  refine ⟨x.cps.toList[i], ?_⟩
  have e : L2.atI x.cps.toList (i : Int) = some x.cps.toList[i] := L2.atI_nat (List.getElem?_eq_getElem hi)
  simp only [dIx, if_pos hl, e]
theorem strs_map : ∀ ys : List Str, strsOf (ys.map D.str) = some ys
  | [] => rfl
  | y :: ys => by rw [List.map_cons, strsOf, strs_map ys]; rfl
theorem ints_map : ∀ ys : List Int, intsOf (ys.map D.int) = some ys
  | [] => rfl
  | y :: ys => by rw [List.map_cons, intsOf, ints_map ys]; rfl
theorem bls_map : ∀ ys : List Bool, blsOf (ys.map D.bl) = some ys
  | [] => rfl
  | y :: ys => by rw [List.map_cons, blsOf, bls_map ys]; rfl
theorem sum_lst {ys : List Int} : dSum [.lst (ys.map D.int)] = .ok (.fr (.int ys.sum)) := by
  simp only [dSum, ints_map]
theorem join_lst {a : Str} {ys : List Str} (h : (ys.map (·.length)).sum + ys.length * a.length ≤ SZ) : dJoin2 (.str a) (.lst (ys.map D.str)) = .ok (.fr (.str (Str.join a ys))) := by
  simp only [dJoin2, dJn, strs_map, if_pos h]
@[simp] theorem ev_m1 {chk : D → Bool} {g : D → D → R RV} {fo fe : DE → R RV} {δ : DE} : fM1 chk g fo fe δ = (fo δ >>= fun x => if chk x.d = true then fe δ >>= fun y => g x.d y.d else .stuck) := (Eq.refl _).trans (Eq.refl _)
theorem cut_nat {α : Type} (xs : List α) (lo hi : Nat) : cutL xs (some lo) (some hi) = (xs.drop (min lo xs.length)).take (min hi xs.length - min lo xs.length) := by
  unfold cutL
  rw [HT.sIx_nat, HT.sIx_nat]
theorem mem_cut {α : Type} {xs : List α} {a b : Nat} {x : α} (h : x ∈ (xs.drop a).take b) : ∃ i, a ≤ i ∧ xs[i]? = some x := by
  have h := List.mem_of_mem_take h
  obtain ⟨i, hi, e⟩ := List.mem_iff_getElem.mp h
  rw [List.getElem_drop] at e
  exact ⟨a + i, Nat.le_add_right _ _, by rw [← e]; exact List.getElem?_eq_getElem _⟩
theorem pint {f : DE → R RV} {δ : DE} {i : Int} (h : f δ = .ok (.fr (.int i))) : pInt f δ = .ok (some i) := by
  unfold pInt; rw [h]; rfl
@[simp] theorem sl_lst {ds : List D} {lo hi : Option Int} : dSl (.lst ds) lo hi = .ok (.ol (cutL ds lo hi)) := (Eq.refl _).trans (Eq.refl _)
@[simp] theorem sl_tup {ds : List D} {lo hi : Option Int} : dSl (.tup ds) lo hi = .ok (.fr (.tup (cutL ds lo hi))) := (Eq.refl _).trans (Eq.refl _)
theorem cut_map {α β : Type} (f : α → β) (xs : List α) (lo hi : Option Int) : cutL (xs.map f) lo hi = (cutL xs lo hi).map f := by
  unfold cutL
  rw [List.length_map, List.map_take, List.map_drop]
theorem gr_ret {n N : Nat} {F : DE → SR} {ds : List D} {r : RV} (hl : ds.length = n) (h : F (ds.map (fun d => some (RV.fr d)) ++ List.replicate (N - n) none) = .rt r) : runF n N F ds = .ok r := by
  unfold runF; rw [if_pos hl, h]
theorem gr_ex {n N : Nat} {F : DE → SR} {ds : List D} {c : Str} {fs : List (Str × D)} {δ : DE} (hl : ds.length = n) (h : F (ds.map (fun d => some (RV.fr d)) ++ List.replicate (N - n) none) = .ex c fs δ) : runF n N F ds = .ex c fs := by
  unfold runF; rw [if_pos hl, h]

theorem try_ex {i : Nat} {F : DE → SR} {Fh : Str → Option (Addr → Addr → DE → SR)} {δ δ' : DE} {c : Str} {fs : List (Str × D)} {g : Addr → Addr → DE → SR} {r : SR} (e : F δ = .ex c fs δ') (eg : Fh c = some g) (h : ∀ a dd, unS i (g a dd (δ'.set i (some (.fr (.exn a dd c fs))))) = r) : sTry i F Fh δ = r := by
  unfold sTry
  rw [e]
  simp only [eg]
  rw [if_pos fun a dd => (h a dd).trans (h 0 0).symm]
  exact h 0 0
theorem try_nx {i : Nat} {F : DE → SR} {Fh : Str → Option (Addr → Addr → DE → SR)} {δ δ' : DE} (e : F δ = .nx δ') : sTry i F Fh δ = .nx δ' := by
  unfold sTry
  rw [e]
@[simp] theorem ev_ise {a dd : Addr} {c : Str} {b : Bool} {f : DE → R RV} {δ : DE} {fs : List (Str × D)} (h : f δ = .ok (.fr (.exn a dd c fs))) : fIsE a dd c b f δ = .ok (.fr (.bl b)) := by
  unfold fIsE
  rw [h]
  show (if a = a ∧ dd = dd ∧ c = c then _ else _) = _
  rw [if_pos ⟨rfl, rfl, rfl⟩]
theorem ev_xf {a dd : Addr} {c n : Str} {f : DE → R RV} {δ : DE} {fs : List (Str × D)} {d : D} (h : f δ = .ok (.fr (.exn a dd c fs))) (hl : fs.lookup n = some d) : fXf a dd c n f δ = .ok (.fr d) := by
  unfold fXf
  rw [h]
  show (if a = a ∧ dd = dd ∧ c = c then _ else _) = _
  rw [if_pos ⟨rfl, rfl, rfl⟩, hl]
@[simp] theorem ev_callh {g : List D → R RV} {fa : DE → R (List D)} {δ : DE} : fCallH g fa δ = (fa δ >>= fun ds => match g ds with
  | .ok r => .ok r
  | _ => .stuck) := (Eq.refl _).trans (Eq.refl _)
@[simp] theorem ev_callk {n m : Nat} {pm : List D → List D → List D} {g : List D → R RV} {fa fk : DE → R (List D)} {δ : DE} : fCallK n m pm g fa fk δ = (fa δ >>= fun ds => fk δ >>= fun es => if ds.length = n ∧ es.length = m then g (pm ds es) else .stuck) := (Eq.refl _).trans (Eq.refl _)
end DL


set_option maxRecDepth 100000
set_option maxHeartbeats 4000000
namespace K25
open PySem DL

/-! ### the law's generator -/
theorem cell_ok (ns : List Int) (k : Nat) : ∃ c : Int, g_law_cell [.lst (ns.map D.int), .int k] = .ok (.fr (.int c)) := by
  by_cases hk : k < ns.length
  · refine ⟨ns[k], ?_⟩
    have e : (ns.map D.int)[k]? = some (.int ns[k]) := by rw [List.getElem?_map, List.getElem?_eq_getElem hk]; rfl
    have hk' : (k : Int) < ((ns.map D.int).length : Int) := by rw [List.length_map]; omega
    unfold g_law_cell runF F_law_cell
    simp [hk', ix_lst e]
    simp [hk]
  · have hk' : ¬ (k : Int) < ((ns.map D.int).length : Int) := by rw [List.length_map]; omega
    have L := forL_fold (F := sSeq (sSet 2 (fBin dMod (fCall dInt (aCons (fBin dAdd (fBin dMul (getV 2) (cst (.int 31))) (fBin dMod (fCall dInt (aCons (getV 3) aNil)) (cst (.int 1000003)))) aNil)) (cst (.int 1000003)))) sNil) (bd := gSet 3) (fg := [3]) D.int
      (fun s : Int => [some (.fr (.lst (ns.map D.int))), some (.fr (.int k)), some (.fr (.int s)), none]) (fun s c => (s * 31 + c % 1000003) % 1000003) (fun s => 0 ≤ s ∧ s < 1000003) ns 17 (fun a b _ ha => by
        refine ⟨_, [some (.fr (.lst (ns.map D.int))), some (.fr (.int k)), some (.fr (.int ((a * 31 + b % 1000003) % 1000003))), some (.fr (.int b))], rfl, ?_, rfl, by omega, by omega⟩
        simp [mul_int (i := a) (j := 31) (by right; omega), mod_int]) (by omega)
    obtain ⟨L1, L2⟩ := L
    generalize ns.foldl (fun s c => (s * 31 + c % 1000003) % 1000003) 17 = t at L1 L2
    have m1 := mul_int (i := t + 7) (j := (k : Int) + 3) (by left; omega)
    have m2 := mul_int (i := (t + 7) * ((k : Int) + 3)) (j := 69621) (by right; omega)
    refine ⟨(t + 7) * ((k : Int) + 3) * 69621 % 2147483647, ?_⟩
    unfold g_law_cell runF F_law_cell
    simp only [List.length_map] at hk'
    simp [hk', L1, m1, m2, mod_int]

/-! ### digits -/
/-- the digits of a cell: as many as sizes, each below its size -/
def Dig (sizes row : List Int) : Prop := row.length = sizes.length ∧ ∀ (i : Nat) (x s : Int), row[i]? = some x → sizes[i]? = some s → 0 ≤ x ∧ x < s
theorem Dig.get {sizes row : List Int} (h : Dig sizes row) (i : Nat) {s : Int} (e : sizes[i]? = some s) : ∃ x, row[i]? = some x ∧ 0 ≤ x ∧ x < s := by
  have hi : i < row.length := by
    rw [h.1]
    rcases Nat.lt_or_ge i sizes.length with h | h
    · exact h
    · rw [List.getElem?_eq_none h] at e; cases e
  exact ⟨row[i], List.getElem?_eq_getElem hi, h.2 i _ s (List.getElem?_eq_getElem hi) e⟩
/-- the first i of them -/
def Dpre (sizes row : List Int) (i : Nat) : Prop := row.length = i ∧ ∀ (j : Nat) (x s : Int), row[j]? = some x → sizes[j]? = some s → 0 ≤ x ∧ x < s
theorem Dpre.snoc {sizes row : List Int} {i : Nat} {x s : Int} (h : Dpre sizes row i) (e : sizes[i]? = some s) (h0 : 0 ≤ x) (h1 : x < s) : Dpre sizes (row ++ [x]) (i + 1) := by
  refine ⟨by simp [h.1], fun j y t ey et => ?_⟩
  rw [List.getElem?_append] at ey
  split at ey
  · exact h.2 j y t ey et
  · rename_i hj
    have : j = i := by
      have := h.1
      rcases Nat.lt_or_ge (j - row.length) 1 with q | q
      · omega
      · rw [List.getElem?_eq_none (by simpa using q)] at ey; cases ey
    subst this
    rw [h.1, Nat.sub_self] at ey
    rw [e] at et
    cases et; cases ey
    exact ⟨h0, h1⟩
theorem digits_big (c : Int) (hc : 10 ^ 18 ≤ c) (sizes : List Int) (hp : ∀ s ∈ sizes, 0 < s ∧ s < 2 ^ 64) (hl : sizes.length ≤ 1000) : ∃ row : List Int, g_law_digits [.int c, .lst (sizes.map D.int)] = .ok (.ol (row.map D.int)) ∧ Dig sizes row := by
  have p18 : dPow (.int 10) (.int 18) = .ok (.fr (.int (10 ^ 18))) := pow_int (by decide)
  have at_ : ∀ (i : Nat) (d : D), (sizes.map D.int)[i]? = some d → ∃ s, sizes[i]? = some s ∧ d = .int s := fun i d e => by
    rw [List.getElem?_map] at e
    cases h : sizes[i]? with
    | none => rw [h] at e; cases e
    | some s => rw [h] at e; cases e; exact ⟨s, rfl, rfl⟩
  obtain ⟨δ', e, row, r, eδ, hd⟩ := forL_inv (F := sSeq (sOwn 2 gAppend (aCons (fBin dMod (fCall dInt (aCons (getV 3) aNil)) (getV 4)) aNil)) (sSeq (sSet 3 (fBin dDiv (fCall dInt (aCons (getV 3) aNil)) (getV 4))) sNil)) (bd := gSet 4) (fg := [4]) (sizes.map D.int)
    (fun i δ => ∃ (row : List Int) (r : Int), δ = [some (.fr (.int c)), some (.fr (.lst (sizes.map D.int))), some (.ol (row.map D.int)), some (.fr (.int r)), none, none, none, none] ∧ Dpre sizes row i)
    [some (.fr (.int c)), some (.fr (.lst (sizes.map D.int))), some (.ol []), some (.fr (.int (c - 10 ^ 18))), none, none, none, none] ⟨[], _, rfl, rfl, fun j x s e => by simp at e⟩ (fun i d δ ed ⟨row, r, eδ, hd⟩ => by
      obtain ⟨s, es, rfl⟩ := at_ i d ed
      obtain ⟨s0, s1⟩ := hp s (List.mem_of_getElem? es)
      have hrow : row.length < SZ := by
        have := hd.1
        have : i < sizes.length := by
          rcases Nat.lt_or_ge i sizes.length with h | h
          · exact h
          · rw [List.getElem?_eq_none h] at es; cases es
        unfold SZ
        omega
      subst eδ
      refine ⟨_, [some (.fr (.int c)), some (.fr (.lst (sizes.map D.int))), some (.ol ((row ++ [r % s]).map D.int)), some (.fr (.int (r / s))), some (.fr (.int s)), none, none, none], rfl, ?_, row ++ [r % s], r / s, rfl, hd.snoc es (Int.emod_nonneg _ (by omega)) (Int.emod_lt_of_pos _ s0)⟩
      have o : sOwn 2 gAppend (aCons (fBin dMod (fCall dInt (aCons (getV 3) aNil)) (getV 4)) aNil) [some (.fr (.int c)), some (.fr (.lst (sizes.map D.int))), some (.ol (row.map D.int)), some (.fr (.int r)), some (.fr (.int s)), none, none, none] = _ :=
        ow_ap (r := .fr (.int (r % s))) rfl (by simp [mod_int s0]) (by simpa using hrow)
      simp [o, div_int (i := r) (j := s) ⟨s0, s1⟩])
  subst eδ
  refine ⟨row, ?_, by have := hd.1; simpa using this, hd.2⟩
  unfold g_law_digits runF F_law_digits
  simp only [Int.reducePow] at e p18 hc
  simp [p18, hc, e, rt_own]

theorem digits_small (c : Int) (hc : ¬ 10 ^ 18 ≤ c) (sizes : List Int) (hp : ∀ s ∈ sizes, 0 < s ∧ s < 2 ^ 64) (hl : sizes.length ≤ 1000) : ∃ row : List Int, g_law_digits [.int c, .lst (sizes.map D.int)] = .ok (.ol (row.map D.int)) ∧ Dig sizes row := by
  have p18 : dPow (.int 10) (.int 18) = .ok (.fr (.int (10 ^ 18))) := pow_int (by decide)
  have at_ : ∀ (i : Nat) (d : D), (sizes.map D.int)[i]? = some d → ∃ s, sizes[i]? = some s ∧ d = .int s := fun i d e => by
    rw [List.getElem?_map] at e
    cases h : sizes[i]? with
    | none => rw [h] at e; cases e
    | some s => rw [h] at e; cases e; exact ⟨s, rfl, rfl⟩
  have hc' : ¬ (1000000000000000000 : Int) ≤ c := by simpa using hc
  obtain ⟨δ', e, row, sd, eδ, hd, _⟩ := forL_wp (F := sSeq (sSet 5 (fBin dMod (fCall dInt (aCons (fBin dAdd (fBin dAdd (fBin dMul (getV 5) (cst (.int 48271))) (fBin dMul (cst (.int 974711)) (getV 6))) (cst (.int 12345))) aNil)) (cst (.int 2147483647))))
      (sSeq (sSet 7 (fBin dMod (fCall dInt (aCons (fBin dMul (getV 5) (fBin dAdd (fBin dDiv (getV 5) (cst (.int 65537))) (cst (.int 3)))) aNil)) (cst (.int 2147483629))))
      (sSeq (sOwn 2 gAppend (aCons (fBin dMod (fBin dDiv (getV 7) (cst (.int 19))) (fBin dIx (getV 1) (getV 6))) aNil)) sNil))) (bd := gSet 6) (fg := [6, 7]) ((List.range sizes.length).map fun i => .int (i : Nat))
    (fun i δ => ∃ (row : List Int) (sd : Int), δ = [some (.fr (.int c)), some (.fr (.lst (sizes.map D.int))), some (.ol (row.map D.int)), some (.fr (.int c)), none, some (.fr (.int sd)), none, none] ∧ Dpre sizes row i ∧ 0 ≤ sd ∧ sd < 2147483647)
    [some (.fr (.int c)), some (.fr (.lst (sizes.map D.int))), some (.ol []), some (.fr (.int c)), none, some (.fr (.int (c % 2147483629))), none, none] ⟨[], _, rfl, ⟨rfl, fun j x s e => by simp at e⟩, by omega, by omega⟩ (fun i d δ ed ⟨row, sd, eδ, hd, sd0, sd1⟩ => by
      have hi : i < sizes.length := by
        rcases Nat.lt_or_ge i sizes.length with h | h
        · exact h
        · rw [List.getElem?_eq_none (by simpa using h)] at ed; cases ed
      rw [List.getElem?_map, List.getElem?_range hi] at ed
      cases ed
      have es : sizes[i]? = some sizes[i] := List.getElem?_eq_getElem hi
      obtain ⟨s0, s1⟩ := hp sizes[i] (List.getElem_mem hi)
      have hrow : row.length < SZ := by
        have := hd.1
        unfold SZ
        omega
      subst eδ
      have m1 := mul_int (i := sd) (j := 48271) (by right; omega)
      have m2 := mul_int (i := 974711) (j := (i : Int)) (by left; omega)
      have eix : dIx (.lst (sizes.map D.int)) (.int (i : Int)) = .ok (.fr (.int sizes[i])) := ix_lst (by rw [List.getElem?_map, es]; rfl)
      obtain ⟨z, hz⟩ : ∃ z, z = (sd * 48271 + 974711 * (i : Int) + 12345) % 2147483647 := ⟨_, rfl⟩
      have m3 := mul_int (i := z) (j := z / 65537 + 3) (by left; omega)
      have d1 := div_int (i := z) (j := 65537) (by decide)
      obtain ⟨t, ht⟩ : ∃ t, t = z * (z / 65537 + 3) % 2147483629 := ⟨_, rfl⟩
      have d2 := div_int (i := t) (j := 19) (by decide)
      refine ⟨_, rfl, wp_seq (wp_set (r := .fr (.int z)) ?_ (wp_seq (wp_set (r := .fr (.int t)) ?_ (wp_seq (wp_append (ds := row.map D.int) (r := .fr (.int (t / 19 % sizes[i]))) rfl (by simpa using hrow) ?_ (wp_nil ⟨row ++ [t / 19 % sizes[i]], z, ?_, hd.snoc es (Int.emod_nonneg _ (by omega)) (Int.emod_lt_of_pos _ s0), by omega, by omega⟩))))))⟩
      · rw [hz]; simp [m1, m2, mod_int]
      · rw [ht]; simp [d1, m3, mod_int]
      · simp [d2, eix, mod_int s0]
      · simp [fgtS])
  subst eδ
  refine ⟨row, ?_, by have := hd.1; simpa using this, hd.2⟩
  unfold g_law_digits runF F_law_digits
  simp only [Int.reducePow] at p18
  have r1 : rng1 [.int ((sizes.map D.int).length : Int)] = _ := rng1_nat (n := (sizes.map D.int).length) (by rw [List.length_map]; omega)
  simp only [List.length_map] at r1
  simp [p18, hc', e, rt_own, r1, mod_int]

theorem digits_ok (c : Int) (sizes : List Int) (hp : ∀ s ∈ sizes, 0 < s ∧ s < 2 ^ 64) (hl : sizes.length ≤ 1000) : ∃ row : List Int, g_law_digits [.int c, .lst (sizes.map D.int)] = .ok (.ol (row.map D.int)) ∧ Dig sizes row := by
  by_cases hc : 10 ^ 18 ≤ c
  · exact digits_big c hc sizes hp hl
  · exact digits_small c hc sizes hp hl
end K25


set_option maxRecDepth 100000
set_option maxHeartbeats 4000000
namespace K25
open PySem DL
def psz : List Int := [6, 40] ++ List.replicate 6 8 ++ List.replicate 48 62
def sgn : Str := "abcdefghijklmnopqrstuvwxyzABCDEFGHIJKLMNOPQRSTUVWXYZ0123456789"
theorem sgn_len : sgn.length = 62 := by decide +kernel
theorem sgn_len' : sgn.cps.toList.length = 62 := by decide +kernel
theorem psz_hi {i : Nat} {s : Int} (h : 8 ≤ i) (e : psz[i]? = some s) : s = 62 := by
  have hl : i < 56 := by
    rcases Nat.lt_or_ge i 56 with h | h
    · exact h
    · rw [List.getElem?_eq_none (by simpa [psz] using h)] at e; cases e
  have : ∀ i : Fin 56, 8 ≤ i.val → psz[i.val]? = some 62 := by decide +kernel
  have z := this ⟨i, hl⟩ h
  simp only [z] at e
  exact (Option.some.inj e).symm
theorem part_ok (part : List Int) (hp : ∀ x ∈ part, 0 ≤ x ∧ x < 62) (hl : part.length ≤ 56) (δ : DE) (h1 : δ[1]? = some (some (.fr (.str sgn)))) (h5 : δ[5]? = some (some (.fr (.lst (part.map D.int))))) (h6 : δ.length = 7) :
    ∃ y : Str, fM1 isStrD dJoin2 (cst (.str "")) (fLc (iSeq (getV 5)) [6] (gSet 6) bYes (fBin dIx (getV 1) (getV 6))) δ = .ok (.fr (.str y)) := by
  have key : ∀ ps : List Int, (∀ x ∈ ps, 0 ≤ x ∧ x < 62) → ∃ ys : List Str, ys.length = ps.length ∧ (∀ y ∈ ys, y.length = 1) ∧ compL (gSet 6) bYes (fBin dIx (getV 1) (getV 6)) (fgtS [6] δ) (ps.map D.int) = .ok (ys.map D.str) := by
    intro ps
    induction ps with
    | nil => exact fun _ => ⟨[], rfl, (fun _ h => nomatch h), rfl⟩
    | cons p ps ih =>
      intro h
      obtain ⟨ys, l1, l2, l3⟩ := ih fun x hx => h x (List.mem_cons_of_mem _ hx)
      obtain ⟨p0, p1⟩ := h p List.mem_cons_self
      obtain ⟨c, hc⟩ := str_ix (x := sgn) (i := p.toNat) (by rw [sgn_len]; decide) (by rw [sgn_len']; omega)
      rw [Int.toNat_of_nonneg p0] at hc
      refine ⟨⟨#[c]⟩ :: ys, by simp [l1], fun y hy => ?_, ?_⟩
      · rcases List.mem_cons.mp hy with rfl | hy
        · rfl
        · exact l2 y hy
      · have g1 : getV 1 ((fgtS [6] δ).set 6 (some (.fr (.int p)))) = .ok (.fr (.str sgn)) := gv_fr (by
          show ((δ.set 6 none).set 6 _)[1]? = _
          rw [List.getElem?_set_ne (by decide), List.getElem?_set_ne (by decide)]; exact h1)
        have g6 : getV 6 ((fgtS [6] δ).set 6 (some (.fr (.int p)))) = .ok (.fr (.int p)) := gv_fr (by
          show ((δ.set 6 none).set 6 _)[6]? = _
          rw [List.getElem?_set_self (by rw [List.length_set, h6]; decide)])
        rw [List.map_cons, compL]
        simp only [ev_gset, ev_yes, if_true, ev_bin, g1, g6, bd_ok, rv_fr, hc, l3, List.map_cons]
  obtain ⟨ys, l1, l2, l3⟩ := key part hp
  have g5 : getV 5 δ = .ok (.fr (.lst (part.map D.int))) := gv_fr h5
  have sum1 : ∀ ys : List Str, (∀ y ∈ ys, y.length = 1) → (ys.map (·.length)).sum = ys.length := by
    intro ys
    induction ys with
    | nil => intro _; rfl
    | cons y ys ih => intro h; rw [List.map_cons, List.sum_cons, h y List.mem_cons_self, ih fun z hz => h z (List.mem_cons_of_mem _ hz), List.length_cons, Nat.add_comm]
  have lc := lc_ok (fi := iSeq (getV 5)) (vs := [6]) (bd := gSet 6) (ft := bYes) (fe := fBin dIx (getV 1) (getV 6)) (δ := δ) (ds := part.map D.int) (es := ys.map D.str) (by simp only [ev_iseq, g5, bd_ok, rv_fr, seq_lst]) l3 (by rw [List.length_map, l1]; unfold SZ; omega)
  refine ⟨Str.join "" ys, ?_⟩
  have z : ("" : Str).length = 0 := by decide +kernel
  simp only [ev_m1, ev_cst, bd_ok, rv_fr, isStrD, if_true, lc, rv_ol]
  exact join_lst (by rw [sum1 ys l2, z, l1]; unfold SZ; omega)
theorem piece_ok (c : Int) : ∃ (xs : List Str) (n : Int), xs ≠ [] ∧ xs.length ≤ 6 ∧ 1 ≤ n ∧ n ≤ 40 ∧ g_law_piece [.int c] = .ok (.fr (.tup [.tup (xs.map D.str), .int n])) := by
  obtain ⟨row, e, hd⟩ := digits_ok c psz (by decide +kernel) (by decide +kernel)
  obtain ⟨r0, e0, a0, b0⟩ := hd.get 0 (s := 6) rfl
  obtain ⟨r1, e1, a1, b1⟩ := hd.get 1 (s := 40) rfl
  have hlen : row.length = 56 := hd.1
  have at_ : ∀ {i : Nat} {x : Int}, row[i]? = some x → (row.map D.int)[i]? = some (.int x) := fun {i x} h => by rw [List.getElem?_map, h]; rfl
  obtain ⟨n, hn⟩ : ∃ n : Nat, r0 + 1 = n := ⟨(r0 + 1).toNat, by omega⟩
  obtain ⟨δ', eL, ys, eδ, ly⟩ := forL_wp (F := sSeq (sSet 5 (fSl (getV 2) (pInt (fBin dAdd (cst (.int 8)) (fBin dMul (cst (.int 8)) (getV 4)))) (pInt (fBin dAdd (fBin dAdd (cst (.int 9)) (fBin dMul (cst (.int 8)) (getV 4))) (fBin dIx (getV 2) (fBin dAdd (cst (.int 2)) (getV 4))))))) (sSeq (sFrz 5 (sOwn 3 gAppend (aCons (fM1 isStrD dJoin2 (cst (.str "")) (fLc (iSeq (getV 5)) [6] (gSet 6) bYes (fBin dIx (getV 1) (getV 6)))) aNil))) sNil))
    (bd := gSet 4) (fg := [4, 5]) ((List.range n).map fun i => .int (i : Nat))
    (fun i δ => ∃ ys : List Str, δ = [some (.fr (.int c)), some (.fr (.str sgn)), some (.fr (.lst (row.map D.int))), some (.ol (ys.map D.str)), none, none, none] ∧ ys.length = i)
    [some (.fr (.int c)), some (.fr (.str sgn)), some (.fr (.lst (row.map D.int))), some (.ol []), none, none, none] ⟨[], rfl, rfl⟩ (fun i d δ ed ⟨ys, eδ, ly⟩ => by
      have hi : i < n := by
        rcases Nat.lt_or_ge i n with h | h
        · exact h
        · rw [List.getElem?_eq_none (by simpa using h)] at ed; cases ed
      rw [List.getElem?_map, List.getElem?_range hi] at ed
      cases ed
      subst eδ
      have hs : psz[2 + i]? = some 8 := by
        have : ∀ j : Fin 6, psz[2 + j.val]? = some 8 := by decide +kernel
        exact this ⟨i, by omega⟩
      obtain ⟨v, ev, v0, v1⟩ := hd.get (2 + i) hs
      have m8 := mul_int (i := 8) (j := (i : Int)) (by left; omega)
      have eix : dIx (.lst (row.map D.int)) (.int (2 + (i : Int))) = .ok (.fr (.int v)) := by
        have := ix_lst (at_ ev)
        simpa using this
      obtain ⟨vn, hv⟩ : ∃ m : Nat, v = m := ⟨v.toNat, by omega⟩
      subst hv
      obtain ⟨part, hpart⟩ : ∃ part, part = cutL row (some ((8 + 8 * i : Nat) : Int)) (some ((9 + 8 * i + vn : Nat) : Int)) := ⟨_, rfl⟩
      have hp : ∀ x ∈ part, 0 ≤ x ∧ x < 62 := fun x hx => by
        rw [hpart, cut_nat] at hx
        obtain ⟨j, hj, ej⟩ := mem_cut hx
        have hj' : j < 56 := by
          rcases Nat.lt_or_ge j 56 with h | h
          · exact h
          · rw [List.getElem?_eq_none (by omega)] at ej; cases ej
        have es : psz[j]? = some psz[j] := List.getElem?_eq_getElem (show j < psz.length from hj')
        have := hd.2 j x _ ej es
        rw [psz_hi (by omega) es] at this
        exact this
      have hl : part.length ≤ 56 := by
        rw [hpart, cut_nat]
        simp only [List.length_take, List.length_drop]
        omega
      obtain ⟨y, ey⟩ := part_ok part hp hl [some (.fr (.int c)), some (.fr (.str sgn)), some (.fr (.lst (row.map D.int))), some (.ol (ys.map D.str)), some (.fr (.int (i : Nat))), some (.fr (.lst (part.map D.int))), none] rfl rfl rfl
      refine ⟨_, rfl, wp_seq (wp_set (r := .ol (part.map D.int)) ?_ (wp_seq ?_))⟩
      · have p1 : pInt (fBin dAdd (cst (.int 8)) (fBin dMul (cst (.int 8)) (getV 4))) [some (.fr (.int c)), some (.fr (.str sgn)), some (.fr (.lst (row.map D.int))), some (.ol (ys.map D.str)), some (.fr (.int (i : Nat))), none, none] = .ok (some ((8 + 8 * i : Nat) : Int)) := pint (by simp [m8])
        have p2 : pInt (fBin dAdd (fBin dAdd (cst (.int 9)) (fBin dMul (cst (.int 8)) (getV 4))) (fBin dIx (getV 2) (fBin dAdd (cst (.int 2)) (getV 4)))) [some (.fr (.int c)), some (.fr (.str sgn)), some (.fr (.lst (row.map D.int))), some (.ol (ys.map D.str)), some (.fr (.int (i : Nat))), none, none] = .ok (some ((9 + 8 * i + vn : Nat) : Int)) := pint (by simp [m8, eix])
        show fSl _ _ _ [some (.fr (.int c)), some (.fr (.str sgn)), some (.fr (.lst (row.map D.int))), some (.ol (ys.map D.str)), some (.fr (.int (i : Nat))), none, none] = _
        rw [ev_sl, gv_fr (d := .lst (row.map D.int)) rfl, bd_ok, p1, bd_ok, p2, bd_ok, rv_fr, sl_lst, cut_map, ← hpart]
      · show nxS _ (sFrz 5 _ [some (.fr (.int c)), some (.fr (.str sgn)), some (.fr (.lst (row.map D.int))), some (.ol (ys.map D.str)), some (.fr (.int (i : Nat))), some (.ol (part.map D.int)), none])
        rw [ev_frz, fz_ol (ds := part.map D.int) rfl]
        refine wp_append (ds := ys.map D.str) (r := .fr (.str y)) rfl (by rw [List.length_map]; unfold SZ; omega) ey (wp_nil ⟨ys ++ [y], ?_, by simp [ly]⟩)
        simp [fgtS])
  subst eδ
  have ly' : ys.length = n := by simpa using ly
  refine ⟨ys, r1 + 1, fun z => by rw [z] at ly'; simp at ly'; omega, by omega, by omega, by omega, ?_⟩
  obtain ⟨L6, L48, M, sz1, sz2, sz3, sz4⟩ : ∃ L6 L48 M : List D, dMul (.lst [.int 8]) (.int 6) = .ok (.ol L6) ∧ dMul (.lst [.int 62]) (.int 48) = .ok (.ol L48) ∧ dAdd (.lst [.int 6, .int 40]) (.lst L6) = .ok (.ol M) ∧ dAdd (.lst M) (.lst L48) = .ok (.ol (psz.map D.int)) :=
    ⟨_, _, _, mul_lst1 (.int 8) (k := 6) (by decide), mul_lst1 (.int 62) (k := 48) (by decide), add_lst (by decide), (add_lst (by decide)).trans (by rfl)⟩
  have i0 : dIx (.lst (row.map D.int)) (.int 0) = .ok (.fr (.int r0)) := ix_lst (i := 0) (at_ e0)
  have i1 : dIx (.lst (row.map D.int)) (.int 1) = .ok (.fr (.int r1)) := ix_lst (i := 1) (at_ e1)
  have rg : rng1 [.int (r0 + 1)] = .ok ((List.range n).map fun i => .int (i : Nat)) := by rw [hn]; exact rng1_nat (n := n) (by omega)
  unfold g_law_piece
  refine gr_ret rfl ?_
  unfold F_law_piece
  have hs : (Str.ofString "abcdefghijklmnopqrstuvwxyzABCDEFGHIJKLMNOPQRSTUVWXYZ0123456789") = sgn := rfl
  have d1 : g_law_digits [.int c, .lst (psz.map D.int)] = .ok (.ol (row.map D.int)) := e
  simp only [hs]
  simp [sz1, sz2, sz3, sz4, d1, i0, i1, rg, eL]
end K25


set_option maxRecDepth 100000
set_option maxHeartbeats 4000000
namespace K25
open PySem DL
abbrev Pc := List Str × Int
def mkS (b : Bool) (xs : List Str) : D := if b then .lst (xs.map .str) else .tup (xs.map .str)
def mkP (b1 b2 : Bool) (p : Pc) : D := if b2 then .lst [mkS b1 p.1, .int p.2] else .tup [mkS b1 p.1, .int p.2]
def mkA (b1 b2 b3 : Bool) (ps : List Pc) : D := if b3 then .lst (ps.map (mkP b1 b2)) else .tup (ps.map (mkP b1 b2))
def Good (ps : List Pc) : Prop := ps.length ≤ 9 ∧ ∀ p ∈ ps, p.1 ≠ [] ∧ p.1.length ≤ 6 ∧ 1 ≤ p.2
def hgt (ps : List Pc) : Int := (ps.map fun p => (p.1.length : Int) * p.2).sum
def rep (p : Pc) : List D := (List.replicate p.2.toNat (p.1.map D.str)).flatten
def exq (ps : List Pc) : List D := (ps.map rep).flatten

theorem hgt_cons (p : Pc) (ps : List Pc) : hgt (p :: ps) = (p.1.length : Int) * p.2 + hgt ps := by
  unfold hgt; rw [List.map_cons, List.sum_cons]
theorem hgt_snoc (p : Pc) (ps : List Pc) : hgt (ps ++ [p]) = hgt ps + (p.1.length : Int) * p.2 := by
  unfold hgt; rw [List.map_append, List.sum_append]; simp
theorem hgt_pos : ∀ ps : List Pc, (∀ p ∈ ps, 1 ≤ p.2) → 0 ≤ hgt ps
  | [], _ => by decide
  | p :: ps, h => by
    rw [hgt_cons]
    have h1 := hgt_pos ps fun q hq => h q (List.mem_cons_of_mem _ hq)
    have h2 := h p List.mem_cons_self
    have h3 : 0 ≤ (p.1.length : Int) * p.2 := Int.mul_nonneg (by omega) (by omega)
    omega
theorem rep_len (p : Pc) (h : 1 ≤ p.2) : ((rep p).length : Int) = (p.1.length : Int) * p.2 := by
  unfold rep
  rw [List.length_flatten, List.map_replicate, List.sum_replicate_nat, List.length_map]
  rw [Int.natCast_mul, Int.toNat_of_nonneg (by omega), Int.mul_comm]
theorem exq_snoc (p : Pc) (ps : List Pc) : exq (ps ++ [p]) = exq ps ++ rep p := by
  unfold exq; simp
theorem exq_len : ∀ ps : List Pc, (∀ p ∈ ps, 1 ≤ p.2) → ((exq ps).length : Int) = hgt ps
  | [], _ => by decide
  | p :: ps, h => by
    have e : exq (p :: ps) = rep p ++ exq ps := by unfold exq; simp
    rw [hgt_cons, e, List.length_append, Int.natCast_add, rep_len p (h p List.mem_cons_self), exq_len ps fun q hq => h q (List.mem_cons_of_mem _ hq)]
theorem take_snoc {α : Type} {xs : List α} {i : Nat} {x : α} (e : xs[i]? = some x) : xs.take (i + 1) = xs.take i ++ [x] := by
  rw [List.take_add_one, e]; rfl
theorem hgt_take (ps : List Pc) (h : ∀ p ∈ ps, 1 ≤ p.2) (i : Nat) : hgt (ps.take i) ≤ hgt ps := by
  have e : hgt ps = hgt (ps.take i) + hgt (ps.drop i) := by
    conv => lhs; rw [← List.take_append_drop i ps]
    unfold hgt; rw [List.map_append, List.sum_append]
  have := hgt_pos (ps.drop i) fun p hp => h p (List.mem_of_mem_drop hp)
  omega
theorem mul_ok (b : Bool) (xs : List Str) (n : Int) (h1 : 1 ≤ n) (hx : xs ≠ []) (h : (xs.length : Int) * n ≤ 10000) : dMul (.lst (xs.map D.str)) (.int n) = .ok (.ol (rep (xs, n))) := by
  have hl : 1 ≤ xs.length := by
    cases xs with
    | nil => exact absurd rfl hx
    | cons a b => simp
  have hn : n ≤ 10000 := by
    have : 1 * n ≤ (xs.length : Int) * n := Int.mul_le_mul_of_nonneg_right (by omega) (by omega)
    omega
  have hz : ((xs.length * n.toNat : Nat) : Int) ≤ 10000 := by
    rw [Int.natCast_mul, Int.toNat_of_nonneg (by omega)]; exact h
  have c : (-(2 ^ 63) ≤ n ∧ n < 2 ^ 63) ∧ (xs.map D.str).length * n.toNat ≤ SZ := by
    rw [List.length_map]
    unfold SZ
    omega
  simp only [dMul]
  rw [if_pos c]
  rfl
/-! ### the shape -/
theorem mkS_list (b : Bool) (xs : List Str) : dList [mkS b xs] = .ok (.ol (xs.map D.str)) := by cases b <;> rfl
theorem mkS_len (b : Bool) (xs : List Str) : dLen [mkS b xs] = .ok (.fr (.int xs.length)) := by cases b <;> simp [mkS]
theorem mkP_0 (b1 b2 : Bool) (p : Pc) : dIx (mkP b1 b2 p) (.int 0) = .ok (.fr (mkS b1 p.1)) := by
  cases b2
  · exact ix_tup (i := 0) rfl
  · exact ix_lst (i := 0) rfl
theorem mkP_1 (b1 b2 : Bool) (p : Pc) : dIx (mkP b1 b2 p) (.int 1) = .ok (.fr (.int p.2)) := by
  cases b2
  · exact ix_tup (i := 1) rfl
  · exact ix_lst (i := 1) rfl
theorem shaped_step (A P : D) (sh n : Int) (acc : List D) (xs : List Str) (b1 b2 : Bool) (t1 : ∀ δ : DE, δ[1]? = some (some (.fr (.int sh))) → fB (fBin (dEq false) (fBin dMod (fCall dInt (aCons (getV 1) aNil)) (cst (.int 2))) (cst (.int 1))) δ = .ok b1)
    (t2 : ∀ δ : DE, δ[1]? = some (some (.fr (.int sh))) → fB (fBin (dEq false) (fBin dMod (fBin dDiv (fCall dInt (aCons (getV 1) aNil)) (cst (.int 2))) (cst (.int 2))) (cst (.int 1))) δ = .ok b2)
    (h0 : dIx P (.int 0) = .ok (.fr (mkS false xs))) (h1 : dIx P (.int 1) = .ok (.fr (.int n))) (hz : acc.length < SZ) : (sSeq ((sSet 4 (fBin dIx (getV 3) (cst (.int 0)))))
  (sSeq ((sIf (fB (fBin (dEq false) (fBin dMod (fCall dInt (aCons (getV 1) aNil)) (cst (.int 2))) (cst (.int 1)))) (sSeq ((sSet 4 (fCall dList (aCons (getV 4) aNil))))
  sNil) sNil))
  (sSeq ((sIf (fB (fBin (dEq false) (fBin dMod (fBin dDiv (fCall dInt (aCons (getV 1) aNil)) (cst (.int 2))) (cst (.int 2))) (cst (.int 1)))) (sSeq ((sFrz 4 (sOwn 2 gAppend (aCons (fLst 2 (aCons (getV 4) (aCons (fBin dIx (getV 3) (cst (.int 1))) aNil))) aNil))))
  sNil) (sSeq ((sFrz 4 (sOwn 2 gAppend (aCons (fTup 2 (aCons (getV 4) (aCons (fBin dIx (getV 3) (cst (.int 1))) aNil))) aNil))))
  sNil)))
  sNil))) [some (.fr A), some (.fr (.int sh)), some (.ol acc), some (.fr P), none] = .nx [some (.fr A), some (.fr (.int sh)), some (.ol (acc ++ [mkP b1 b2 (xs, n)])), some (.fr P), some (.fr (mkS b1 xs))] := by
  have f0 : ∀ r, (fBin dIx (getV 3) (cst (.int 0))) [some (.fr A), some (.fr (.int sh)), some (.ol acc), some (.fr P), r] = .ok (.fr (mkS false xs)) := fun r => by simp [h0]
  have a1 : ∀ x, sOwn 2 gAppend (aCons (fLst 2 (aCons (getV 4) (aCons (fBin dIx (getV 3) (cst (.int 1))) aNil))) aNil) [some (.fr A), some (.fr (.int sh)), some (.ol acc), some (.fr P), some (.fr x)] =
      .nx [some (.fr A), some (.fr (.int sh)), some (.ol (acc ++ [.lst [x, .int n]])), some (.fr P), some (.fr x)] := fun x => ow_ap (r := .ol [x, .int n]) rfl (by simp [h1]) hz
  have a2 : ∀ x, sOwn 2 gAppend (aCons (fTup 2 (aCons (getV 4) (aCons (fBin dIx (getV 3) (cst (.int 1))) aNil))) aNil) [some (.fr A), some (.fr (.int sh)), some (.ol acc), some (.fr P), some (.fr x)] =
      .nx [some (.fr A), some (.fr (.int sh)), some (.ol (acc ++ [.tup [x, .int n]])), some (.fr P), some (.fr x)] := fun x => ow_ap (r := .fr (.tup [x, .int n])) rfl (by simp [h1]) hz
  have ml := mkS_list false xs
  cases b1 <;> cases b2 <;> simp [-ev_B, -ev_bin, f0, t1, t2, a1, a2, ml] <;> first | rfl | exact ⟨rfl, rfl⟩
theorem shaped_ok (ps : List Pc) (hl : ps.length ≤ 9) (sh : Int) : ∃ r : RV, r.d = mkA (decide (sh % 2 = 1)) (decide (sh / 2 % 2 = 1)) (decide (sh / 4 % 2 = 1)) ps ∧ g_law_shaped [.lst (ps.map (mkP false false)), .int sh] = .ok r := by
  have d2 := div_int (i := sh) (j := 2) (by decide)
  have d4 := div_int (i := sh) (j := 4) (by decide)
  obtain ⟨b1, hb1⟩ : ∃ b, b = decide (sh % 2 = 1) := ⟨_, rfl⟩
  obtain ⟨b2, hb2⟩ : ∃ b, b = decide (sh / 2 % 2 = 1) := ⟨_, rfl⟩
  obtain ⟨b3, hb3⟩ : ∃ b, b = decide (sh / 4 % 2 = 1) := ⟨_, rfl⟩
  rw [← hb1, ← hb2, ← hb3]
  have t1 : ∀ δ : DE, δ[1]? = some (some (.fr (.int sh))) → fB (fBin (dEq false) (fBin dMod (fCall dInt (aCons (getV 1) aNil)) (cst (.int 2))) (cst (.int 1))) δ = .ok b1 := fun δ h => by
    rw [hb1]; simp [gv_fr h, mod_int, eq_int]
  have t2 : ∀ δ : DE, δ[1]? = some (some (.fr (.int sh))) → fB (fBin (dEq false) (fBin dMod (fBin dDiv (fCall dInt (aCons (getV 1) aNil)) (cst (.int 2))) (cst (.int 2))) (cst (.int 1))) δ = .ok b2 := fun δ h => by
    rw [hb2]; simp [gv_fr h, mod_int, eq_int, d2]
  have t3 : ∀ δ : DE, δ[1]? = some (some (.fr (.int sh))) → fB (fBin (dEq false) (fBin dMod (fBin dDiv (fCall dInt (aCons (getV 1) aNil)) (cst (.int 4))) (cst (.int 2))) (cst (.int 1))) δ = .ok b3 := fun δ h => by
    rw [hb3]; simp [gv_fr h, mod_int, eq_int, d4]
  have L := forL_st (F := (sSeq ((sSet 4 (fBin dIx (getV 3) (cst (.int 0)))))
  (sSeq ((sIf (fB (fBin (dEq false) (fBin dMod (fCall dInt (aCons (getV 1) aNil)) (cst (.int 2))) (cst (.int 1)))) (sSeq ((sSet 4 (fCall dList (aCons (getV 4) aNil))))
  sNil) sNil))
  (sSeq ((sIf (fB (fBin (dEq false) (fBin dMod (fBin dDiv (fCall dInt (aCons (getV 1) aNil)) (cst (.int 2))) (cst (.int 2))) (cst (.int 1)))) (sSeq ((sFrz 4 (sOwn 2 gAppend (aCons (fLst 2 (aCons (getV 4) (aCons (fBin dIx (getV 3) (cst (.int 1))) aNil))) aNil))))
  sNil) (sSeq ((sFrz 4 (sOwn 2 gAppend (aCons (fTup 2 (aCons (getV 4) (aCons (fBin dIx (getV 3) (cst (.int 1))) aNil))) aNil))))
  sNil)))
  sNil)))) (bd := gSet 3) (fg := [3, 4]) (ps.map (mkP false false)) (fun i => [some (.fr (.lst (ps.map (mkP false false)))), some (.fr (.int sh)), some (.ol ((ps.take i).map (mkP b1 b2))), none, none]) (fun i d ed => by
    rw [List.getElem?_map] at ed
    cases ep : ps[i]? with
    | none => rw [ep] at ed; cases ed
    | some p =>
      rw [ep] at ed
      cases ed
      have hz : (List.map (mkP b1 b2) (ps.take i)).length < SZ := by
        rw [List.length_map, List.length_take]; unfold SZ; omega
      refine ⟨_, [some (.fr (.lst (ps.map (mkP false false)))), some (.fr (.int sh)), some (.ol ((ps.take (i + 1)).map (mkP b1 b2))), some (.fr (mkP false false p)), some (.fr (mkS b1 p.1))], rfl, ?_, rfl⟩
      rw [take_snoc ep, List.map_append, List.map_cons, List.map_nil]
      exact shaped_step _ _ sh p.2 _ p.1 b1 b2 t1 t2 (mkP_0 false false p) (mkP_1 false false p) hz)
  have fin : ∀ δ, δ = [some (.fr (.lst (ps.map (mkP false false)))), some (.fr (.int sh)), some (.ol (ps.map (mkP b1 b2))), none, none] → ∃ r : RV, r.d = mkA b1 b2 b3 ps ∧ (sSeq ((sIf (fB (fBin (dEq false) (fBin dMod (fBin dDiv (fCall dInt (aCons (getV 1) aNil)) (cst (.int 4))) (cst (.int 2))) (cst (.int 1)))) (sSeq (sRetV 2)
  sNil) sNil))
  (sSeq ((sFrz 2 (sRet (fCall dTuple (aCons (getV 2) aNil)))))
  sNil)) δ = .rt r := by
    rintro _ rfl
    cases b3
    · exact ⟨.fr (.tup (ps.map (mkP b1 b2))), rfl, by simp [-ev_B, -ev_bin, t3]⟩
    · exact ⟨.ol (ps.map (mkP b1 b2)), rfl, by simp [-ev_B, -ev_bin, t3]⟩
  obtain ⟨r, hr, er⟩ := fin _ rfl
  refine ⟨r, hr, ?_⟩
  unfold g_law_shaped
  refine gr_ret rfl ?_
  unfold F_law_shaped
  rw [List.length_map, List.take_length] at L
  rw [← er]
  simp only [List.take_zero, List.map_nil] at L
  rw [ev_seq, ev_set, ev_lst, ev_anil, bd_ok, lf_ok, sq_nx, ev_seq]
  show SR.seq (sFor _ _ _ _ [some (.fr (.lst (ps.map (mkP false false)))), some (.fr (.int sh)), some (.ol []), none, none]) _ = _
  rw [ev_for, ev_iseq, gv_fr (d := .lst (ps.map (mkP false false))) rfl, bd_ok, rv_fr, seq_lst, lf_ok, L, sq_nx]
/-! ### the height -/
theorem height_ok (b1 b2 b3 : Bool) (ps : List Pc) (hg : Good ps) : g_height_of [mkA b1 b2 b3 ps] = .ok (.fr (.int (hgt ps))) := by
  have es : seqD (mkA b1 b2 b3 ps) = .ok (ps.map (mkP b1 b2)) := by cases b3 <;> rfl
  have cm := comp_map (δ := [some (.fr (mkA b1 b2 b3 ps)), none, none]) (bd := gTLD [1, 2]) (fe := fBin dMul (fCall dLen (aCons (getV 1) aNil)) (getV 2)) (mkP b1 b2) (fun p => D.int ((p.1.length : Int) * p.2)) ps (fun p hp => by
    have h6 := (hg.2 p hp).2.1
    have m := mul_int (i := (p.1.length : Int)) (j := p.2) (by left; omega)
    refine ⟨[some (.fr (mkA b1 b2 b3 ps)), some (.fr (mkS b1 p.1)), some (.fr (.int p.2))], .fr (.int ((p.1.length : Int) * p.2)), ?_, ?_, rfl⟩
    · cases b2 <;> rfl
    · simp [mkS_len, m])
  have lc := lc_ok (fi := iSeq (getV 0)) (vs := [1, 2]) (δ := [some (.fr (mkA b1 b2 b3 ps)), none, none]) (by simp only [ev_iseq, gv_fr (d := mkA b1 b2 b3 ps) (i := 0) (δ := [some (.fr (mkA b1 b2 b3 ps)), none, none]) rfl, bd_ok, rv_fr, es]) cm (by rw [List.length_map]; have := hg.1; unfold SZ; omega)
  unfold g_height_of
  refine gr_ret rfl ?_
  unfold F_height_of
  have sm : dSum [.lst (ps.map fun p => D.int ((p.1.length : Int) * p.2))] = .ok (.fr (.int (hgt ps))) := by
    have e : (ps.map fun p => D.int ((p.1.length : Int) * p.2)) = (ps.map fun p => (p.1.length : Int) * p.2).map D.int := by rw [List.map_map]; rfl
    rw [e]
    exact sum_lst
  show SR.seq (sRet _ [some (.fr (mkA b1 b2 b3 ps)), none, none]) _ = _
  rw [ev_ret, ev_call, ev_acons, lc, bd_ok, ev_anil, bd_ok, bd_ok, rv_ol, sm, lf_ok, sq_rt]
end K25


set_option maxRecDepth 100000
set_option maxHeartbeats 4000000
namespace K25
open PySem DL
/-! ### unfold -/
theorem rep_len2 (p : Pc) (ps : List Pc) (hp : ∀ q ∈ ps, 1 ≤ q.2) (i : Nat) (e : ps[i]? = some p) (h : hgt ps ≤ 10000) : (p.1.length : Int) * p.2 ≤ 10000 ∧ hgt (ps.take i) + (p.1.length : Int) * p.2 ≤ 10000 := by
  have h1 := hgt_take ps hp (i + 1)
  rw [take_snoc e, hgt_snoc] at h1
  have h2 := hgt_pos (ps.take i) fun q hq => hp q (List.mem_of_mem_take hq)
  omega
theorem unfold_ok (b1 b2 b3 : Bool) (ps : List Pc) (hg : Good ps) : g_unfold [mkA b1 b2 b3 ps] = if 10000 < hgt ps then .ex "TooLong" [("length", .int (hgt ps))] else .ok (.fr (.tup (exq ps))) := by
  have es : seqD (mkA b1 b2 b3 ps) = .ok (ps.map (mkP b1 b2)) := by cases b3 <;> rfl
  have hp : ∀ q ∈ ps, 1 ≤ q.2 := fun q hq => (hg.2 q hq).2.2
  have hh := height_ok b1 b2 b3 ps hg
  have gm : c_MOST_SYMBOLS = D.int 10000 := rfl
  generalize mkA b1 b2 b3 ps = A at es hh
  unfold g_unfold
  by_cases hc : 10000 < hgt ps
  · rw [if_pos hc]
    refine gr_ex (δ := [some (.fr A), some (.fr (.int (hgt ps))), none, none, none]) rfl ?_
    unfold F_unfold
    simp [hh, hc, sRaise]
  · rw [if_neg hc]
    have hc' : hgt ps ≤ 10000 := by omega
    have L := forL_st (F := (sSeq ((sIf (fB (fBin dGt (fCall dLen (aCons (getV 3) aNil)) (cst (.int 0)))) (sSeq ((sFrz 2 (sSet 2 (fBin dAdd (getV 2) (fBin dMul (fCall dList (aCons (getV 3) aNil)) (getV 4))))))
  sNil) sNil))
  sNil)) (bd := gTLD [3, 4]) (fg := [3, 4]) (ps.map (mkP b1 b2)) (fun i => [some (.fr A), some (.fr (.int (hgt ps))), some (.ol (exq (ps.take i))), none, none]) (fun i d ed => by
      rw [List.getElem?_map] at ed
      cases ep : ps[i]? with
      | none => rw [ep] at ed; cases ed
      | some p =>
        rw [ep] at ed
        cases ed
        obtain ⟨h1, h2⟩ := rep_len2 p ps hp i ep hc'
        obtain ⟨g1, g2, g3⟩ := hg.2 p (List.mem_of_getElem? ep)
        have m := mul_ok true p.1 p.2 g3 g1 h1
        have l1 := exq_len (ps.take i) fun q hq => hp q (List.mem_of_mem_take hq)
        have l2 := rep_len p g3
        have a := add_lst (xs := exq (ps.take i)) (ys := rep p) (by unfold SZ; omega)
        have l0 : 0 < (p.1.length : Int) := by
          cases hx : p.1 with
          | nil => exact absurd hx g1
          | cons x y => simp only [List.length_cons]; omega
        have l0' : decide ((0 : Int) < (p.1.length : Int)) = true := decide_eq_true l0
        refine ⟨[some (.fr A), some (.fr (.int (hgt ps))), some (.ol (exq (ps.take i))), some (.fr (mkS b1 p.1)), some (.fr (.int p.2))], [some (.fr A), some (.fr (.int (hgt ps))), some (.ol (exq (ps.take (i + 1)))), some (.fr (mkS b1 p.1)), some (.fr (.int p.2))], by cases b2 <;> rfl, ?_, rfl⟩
        rw [take_snoc ep, exq_snoc]
        have ml := mkS_list b1 p.1
        have mn := mkS_len b1 p.1
        generalize exq (ps.take i) = acc at a ⊢
        generalize mkS b1 p.1 = S at ml mn ⊢
        have c1 : (fB (fBin dGt (fCall dLen (aCons (getV 3) aNil)) (cst (.int 0)))) [some (.fr A), some (.fr (.int (hgt ps))), some (.ol acc), some (.fr S), some (.fr (.int p.2))] = .ok true := by
          simp only [ev_B, ev_bin, ev_call, ev_acons, ev_anil, ev_cst, gv_fr (d := S) (i := 3) (δ := [some (.fr A), some (.fr (.int (hgt ps))), some (.ol acc), some (.fr S), some (.fr (.int p.2))]) rfl, bd_ok, rv_fr, mn, gt_int, bl_bl, l0']
        simp [-ev_B, c1, ml, m, a])
    rw [List.length_map, List.take_length] at L
    have e0 : exq (ps.take 0) = [] := rfl
    rw [e0] at L
    refine gr_ret rfl ?_
    unfold F_unfold
    simp [hh, hc, es, L]
/-! ### the same -/
theorem whole_ok (a : Int) : g_law_whole [.int a] = .ok (.fr (.bl true)) := rfl
theorem same_int (k : Nat) (a b : Int) : fuelF (fun g => runF 2 3 (F_law_same g)) (k + 1) [.int a, .int b] = .ok (.fr (.bl (decide (a = b)))) := by
  show runF 2 3 (F_law_same (fuelF (fun g => runF 2 3 (F_law_same g)) k)) [.int a, .int b] = _
  refine gr_ret rfl ?_
  unfold F_law_same
  simp [dIs, isObjD, isB, dIsNn, dIsN, whole_ok, eq_int]
theorem sameh_int (a : Int) : h_law_same [.int a, .int a] = .ok (.fr (.bl true)) := by
  unfold h_law_same
  refine gr_ret rfl ?_
  unfold Fh_law_same
  have hw : h_law_whole [.int a] = .ok (.fr (.bl true)) := rfl
  simp [dIs, isObjD, isB, dIsNn, dIsN, hw, eq_int, fCallH]
theorem same_str (k : Nat) (x : Str) : fuelF (fun g => runF 2 3 (F_law_same g)) (k + 1) [.str x, .str x] = .ok (.fr (.bl true)) := by
  show runF 2 3 (F_law_same (fuelF (fun g => runF 2 3 (F_law_same g)) k)) [.str x, .str x] = _
  refine gr_ret rfl ?_
  unfold F_law_same
  have e : dEq false (.str x) (.str x) = .ok (.fr (.bl true)) := eq_self rfl
  simp [dIs, isObjD, isB, dIsNn, dIsN, e]
theorem same_tup (xs : List D) (hs : ∀ x ∈ xs, ∃ y, x = .str y) (hl : xs.length < 2 ^ 62) : g_law_same [.tup xs, .tup xs] = .ok (.fr (.bl true)) := by
  show runF 2 3 (F_law_same (fuelF (fun g => runF 2 3 (F_law_same g)) 7)) [.tup xs, .tup xs] = _
  have s7 : ∀ y, fuelF (fun g => runF 2 3 (F_law_same g)) 7 [.str y, .str y] = .ok (.fr (.bl true)) := fun y => same_str 6 y
  generalize fuelF (fun g => runF 2 3 (F_law_same g)) 7 = G at s7 ⊢
  refine gr_ret rfl ?_
  have L := forL_st (F := sSeq ((sIf (bNot (fT (fCall G (aCons (fBin dIx (getV 0) (getV 2)) (aCons (fBin dIx (getV 1) (getV 2)) aNil))))) (sSeq ((sRet (cst (.bl false))))
  sNil) sNil))
  sNil) (bd := gSet 2) (fg := [2]) ((List.range xs.length).map fun i => .int (i : Nat)) (fun i => [some (.fr (.tup xs)), some (.fr (.tup xs)), none]) (fun i d ed => by
    have hi : i < xs.length := by
      rcases Nat.lt_or_ge i xs.length with h | h
      · exact h
      · rw [List.getElem?_eq_none (by simpa using h)] at ed; cases ed
    rw [List.getElem?_map, List.getElem?_range hi] at ed
    cases ed
    obtain ⟨y, ey⟩ := hs xs[i] (List.getElem_mem hi)
    have ix := ix_tup (ds := xs) (i := i) (List.getElem?_eq_getElem hi)
    rw [ey] at ix
    refine ⟨_, [some (.fr (.tup xs)), some (.fr (.tup xs)), some (.fr (.int (i : Nat)))], rfl, ?_, rfl⟩
    simp [ix, s7])
  have r := rng1_nat hl
  have ne : dEq true (.int xs.length) (.int xs.length) = .ok (.fr (.bl false)) := by rw [ne_int]; simp
  unfold F_law_same
  simp [dIs, isObjD, isB, r, L, ne]
end K25


set_option maxRecDepth 100000
set_option maxHeartbeats 4000000
namespace K25
open PySem DL
theorem exq_str (ps : List Pc) : ∀ x ∈ exq ps, ∃ y, x = .str y := by
  intro x hx
  unfold exq rep at hx
  simp only [List.mem_flatten, List.mem_map] at hx
  obtain ⟨l, ⟨p, _, rfl⟩, hx⟩ := hx
  simp only [List.mem_flatten, List.mem_replicate] at hx
  obtain ⟨m, ⟨_, rfl⟩, hx⟩ := hx
  obtain ⟨y, _, rfl⟩ := List.mem_map.mp hx
  exact ⟨y, rfl⟩
theorem flat_strs : ∀ (n : Nat) (xs : List Str), flatDs n (xs.map D.str) = true
  | _, [] => rfl
  | n, x :: xs => by rw [List.map_cons, flatDs, flat_strs n xs]; cases n <;> rfl
theorem flat_mkS (b : Bool) (n : Nat) (xs : List Str) : flatD (n + 1) (mkS b xs) = true := by
  cases b
  · show flatDs n _ = true; exact flat_strs n xs
  · show flatDs n _ = true; exact flat_strs n xs
theorem flat_mkP (b1 b2 : Bool) (n : Nat) (p : Pc) : flatD (n + 2) (mkP b1 b2 p) = true := by
  have h : flatDs (n + 1) [mkS b1 p.1, .int p.2] = true := by
    rw [flatDs, flat_mkS b1 n p.1]; rfl
  cases b2
  · exact h
  · exact h
theorem flat_ps (b1 b2 : Bool) (n : Nat) : ∀ ps : List Pc, flatDs (n + 2) (ps.map (mkP b1 b2)) = true
  | [] => rfl
  | p :: ps => by rw [List.map_cons, flatDs, flat_mkP b1 b2 n p, flat_ps b1 b2 n ps]; rfl
theorem flat_mkA (b1 b2 b3 : Bool) (ps : List Pc) : flatD 9 (mkA b1 b2 b3 ps) = true := by
  cases b3
  · show flatDs (6 + 2) _ = true; exact flat_ps b1 b2 6 ps
  · show flatDs (6 + 2) _ = true; exact flat_ps b1 b2 6 ps
abbrev rBody : DE → SR := (sSeq ((sSet 4 (fBin dAdd (getV 4) (fBin dMul (fCall dLen (aCons (fBin dIx (getV 6) (cst (.int 0))) aNil)) (fBin dIx (getV 6) (cst (.int 1)))))))
  (sSeq ((sIf (fB (fBin dLe (getV 4) (cst (.int 10000)))) (sSeq ((sFrz 5 (sSet 5 (fBin dAdd (getV 5) (fBin dMul (fCall dList (aCons (fBin dIx (getV 6) (cst (.int 0))) aNil)) (fBin dIx (getV 6) (cst (.int 1))))))))
  sNil) sNil))
  sNil))
theorem right_step (A P : D) (sh t n : Int) (g k : RV) (du : List D) (xs : List Str) (h0 : dIx P (.int 0) = .ok (.fr (mkS false xs))) (h1 : dIx P (.int 1) = .ok (.fr (.int n))) (hx : xs.length ≤ 6) (hz : t + (xs.length : Int) * n ≤ 10000 → dMul (.lst (xs.map D.str)) (.int n) = .ok (.ol (rep (xs, n))) ∧ du.length + (rep (xs, n)).length ≤ SZ) :
    rBody [some (.fr A), some (.fr (.int sh)), some g, some k, some (.fr (.int t)), some (.ol du), some (.fr P), none, none, none, none, none] =
      .nx [some (.fr A), some (.fr (.int sh)), some g, some k, some (.fr (.int (t + (xs.length : Int) * n))), some (.ol (if t + (xs.length : Int) * n ≤ 10000 then du ++ rep (xs, n) else du)), some (.fr P), none, none, none, none, none] := by
  have m := mul_int (i := (xs.length : Int)) (j := n) (by left; omega)
  have ml := mkS_list false xs
  have mn := mkS_len false xs
  by_cases hc : t + (xs.length : Int) * n ≤ 10000
  · obtain ⟨z1, z2⟩ := hz hc
    have a := add_lst (xs := du) (ys := rep (xs, n)) z2
    simp [rBody, h0, h1, m, ml, mn, hc, z1, a]
  · simp [rBody, h0, h1, m, ml, mn, hc]
theorem right_ok (ps : List Pc) (hg : Good ps) (sh : Int) : g_law_right [.lst (ps.map (mkP false false)), .int sh] = .ok (.fr (.bl true)) := by
  obtain ⟨rg, hr, eg⟩ := shaped_ok ps hg.1 sh
  obtain ⟨b1, hb1⟩ : ∃ b, b = decide (sh % 2 = 1) := ⟨_, rfl⟩
  have fl := flat_mkA (decide (sh % 2 = 1)) (decide (sh / 2 % 2 = 1)) (decide (sh / 4 % 2 = 1)) ps
  have hh := height_ok (decide (sh % 2 = 1)) (decide (sh / 2 % 2 = 1)) (decide (sh / 4 % 2 = 1)) ps hg
  have hu := unfold_ok (decide (sh % 2 = 1)) (decide (sh / 2 % 2 = 1)) (decide (sh / 4 % 2 = 1)) ps hg
  rw [← hr] at fl hh hu
  have hp : ∀ q ∈ ps, 1 ≤ q.2 := fun q hq => (hg.2 q hq).2.2
  obtain ⟨δ', eL, du, eδ, hd⟩ := forL_wp (F := rBody) (bd := gSet 6) (fg := [6]) (ps.map (mkP false false))
    (fun i δ => ∃ du : List D, δ = [some (.fr (.lst (ps.map (mkP false false)))), some (.fr (.int sh)), some rg, some rg, some (.fr (.int (hgt (ps.take i)))), some (.ol du), none, none, none, none, none, none] ∧ (hgt (ps.take i) ≤ 10000 → du = exq (ps.take i)))
    [some (.fr (.lst (ps.map (mkP false false)))), some (.fr (.int sh)), some rg, some rg, some (.fr (.int 0)), some (.ol []), none, none, none, none, none, none] ⟨[], rfl, fun _ => rfl⟩ (fun i d δ ed ⟨du, eδ, hd⟩ => by
      rw [List.getElem?_map] at ed
      cases ep : ps[i]? with
      | none => rw [ep] at ed; cases ed
      | some p =>
        rw [ep] at ed
        cases ed
        subst eδ
        obtain ⟨g1, g2, g3⟩ := hg.2 p (List.mem_of_getElem? ep)
        have pos := hgt_pos (ps.take i) fun q hq => hp q (List.mem_of_mem_take hq)
        have lp : 0 ≤ (p.1.length : Int) * p.2 := Int.mul_nonneg (by omega) (by omega)
        have st := right_step (.lst (ps.map (mkP false false))) (mkP false false p) sh (hgt (ps.take i)) p.2 rg rg du p.1 (mkP_0 false false p) (mkP_1 false false p) g2 (fun hc => by
          have l1 := exq_len (ps.take i) fun q hq => hp q (List.mem_of_mem_take hq)
          have l2 : ((rep (p.fst, p.snd)).length : Int) = (p.1.length : Int) * p.2 := rep_len p g3
          have e := hd (by omega)
          refine ⟨mul_ok true p.1 p.2 g3 g1 (by omega), ?_⟩
          rw [e]
          unfold SZ
          omega)
        refine ⟨[some (.fr (.lst (ps.map (mkP false false)))), some (.fr (.int sh)), some rg, some rg, some (.fr (.int (hgt (ps.take i)))), some (.ol du), some (.fr (mkP false false p)), none, none, none, none, none], rfl, ?_⟩
        rw [st]
        simp only [nxS]
        refine ⟨if hgt (ps.take i) + (p.1.length : Int) * p.2 ≤ 10000 then du ++ rep (p.1, p.2) else du, ?_, ?_⟩
        · rw [take_snoc ep, hgt_snoc]; rfl
        · intro hc
          rw [take_snoc ep, hgt_snoc] at hc
          rw [if_pos hc, hd (by omega), take_snoc ep, exq_snoc])
  subst eδ
  rw [List.length_map, List.take_length] at eL
  simp only [List.length_map, List.take_length] at hd
  unfold g_law_right
  refine gr_ret rfl ?_
  unfold F_law_right
  have sm2 : g_law_same [.int (hgt ps), .int (hgt ps)] = .ok (.fr (.bl true)) := by
    have := same_int 7 (hgt ps) (hgt ps)
    rw [decide_eq_true rfl] at this
    exact this
  have nn := ne_self fl
  have smh := sameh_int (hgt ps)
  have mp : c_MOST_SYMBOLS = D.int 10000 := rfl
  have kp : pm_height_of_k0_pieces [] [rg.d] = [rg.d] := rfl
  have kp2 : pm_unfold_k0_pieces [] [rg.d] = [rg.d] := rfl
  obtain ⟨PP, hPP⟩ : ∃ PP, PP = D.lst (ps.map (mkP false false)) := ⟨_, rfl⟩
  have eq0 : seqD PP = .ok (ps.map (mkP false false)) := by rw [hPP]; rfl
  rw [← hPP] at eL eg ⊢
  -- the try
  have tr : sTry 9 (sSeq ((sIf (fB (fBin (dEq false) (fBin dMod (fCall dInt (aCons (getV 1) aNil)) (cst (.int 2))) (cst (.int 1)))) (sSeq ((sSet 8 (fCallK 0 1 pm_unfold_k0_pieces (g_unfold) aNil (aCons (getV 2) aNil))))
  sNil) (sSeq ((sSet 8 (fCall (g_unfold) (aCons (getV 2) aNil))))
  sNil)))
  sNil) law_right_h0 [some (.fr PP), some (.fr (.int sh)), some (.fr rg.d), some (.fr rg.d), some (.fr (.int (hgt ps))), some (.ol du), none, some (.fr (.int (-1))), some (.fr .non), none, none, none] =
      (if 10000 < hgt ps then .nx [some (.fr PP), some (.fr (.int sh)), some (.fr rg.d), some (.fr rg.d), some (.fr (.int (hgt ps))), some (.ol du), none, some (.fr (.int (hgt ps))), some (.fr .non), none, some (.fr (.bl false)), some (.fr (.bl false))]
      else .nx [some (.fr PP), some (.fr (.int sh)), some (.fr rg.d), some (.fr rg.d), some (.fr (.int (hgt ps))), some (.ol du), none, some (.fr (.int (-1))), some (.fr (.tup (exq ps))), none, none, none]) := by
    by_cases hc : 10000 < hgt ps
    · rw [if_pos hc] at hu ⊢
      refine try_ex (c := "TooLong") (fs := [("length", .int (hgt ps))]) (δ' := [some (.fr PP), some (.fr (.int sh)), some (.fr rg.d), some (.fr rg.d), some (.fr (.int (hgt ps))), some (.ol du), none, some (.fr (.int (-1))), some (.fr .non), none, none, none]) (g := law_right_h0_TooLong) ?_ (by rfl) fun a dd => ?_
      · by_cases hs : sh % 2 = 1 <;> simp [hs, mod_int, eq_int, hu, kp2]
      · have ise : (getV 9 [some (.fr PP), some (.fr (.int sh)), some (.fr rg.d), some (.fr rg.d), some (.fr (.int (hgt ps))), some (.ol du), none, some (.fr (.int (-1))), some (.fr .non), some (.fr (.exn a dd "TooLong" [("length", .int (hgt ps))])), none, none]) = .ok (.fr (.exn a dd "TooLong" [("length", .int (hgt ps))])) := gv_fr rfl
        unfold law_right_h0_TooLong
        have lk : List.lookup ("length" : Str) [(("length" : Str), D.int (hgt ps))] = some (.int (hgt ps)) := rfl
        have xf : ∀ δ : DE, δ[9]? = some (some (.fr (.exn a dd "TooLong" [("length", .int (hgt ps))]))) → fXf a dd "TooLong" "length" (getV 9) δ = .ok (.fr (.int (hgt ps))) := fun δ h => ev_xf (gv_fr h) lk
        have is1 : ∀ (δ : DE) b, δ[9]? = some (some (.fr (.exn a dd "TooLong" [("length", .int (hgt ps))]))) → fIsE a dd "TooLong" b (getV 9) δ = .ok (.fr (.bl b)) := fun δ b h => ev_ise (gv_fr h)
        simp [xf, is1, smh, unS]
    · rw [if_neg hc] at hu ⊢
      refine try_nx ?_
      by_cases hs : sh % 2 = 1 <;> simp [hs, mod_int, eq_int, hu, kp2]
  have gt0 : dGt (.int (hgt ps)) (.int 10000) = .ok (.fr (.bl (decide (10000 < hgt ps)))) := rfl
  have fz3 : ∀ a b c e1 e2 e3 r, frzS 3 [a, b, c, some rg, e1, e2, e3, none, none, none, none, r] = [a, b, c, some (.fr rg.d), e1, e2, e3, none, none, none, none, r] := fun a b c e1 e2 e3 r => fz_any rfl
  have fz2 : ∀ a b c e1 e2 e3 r, frzS 2 [a, b, some rg, c, e1, e2, e3, none, none, none, none, r] = [a, b, some (.fr rg.d), c, e1, e2, e3, none, none, none, none, r] := fun a b c e1 e2 e3 r => fz_any rfl
  by_cases hc : 10000 < hgt ps
  · rw [if_pos hc] at tr
    simp [eg, eq0, eL, fz3, fz2, hh, sm2, kp, nn, tr, hc, ne_int]
  · rw [if_neg hc] at tr
    have hdu := hd (by omega)
    have st := same_tup (exq ps) (exq_str ps) (by
      have := exq_len ps hp
      omega)
    subst hdu
    simp [eg, eq0, eL, fz3, fz2, hh, sm2, kp, nn, tr, hc, ne_int, eq_int, st]
end K25


set_option maxRecDepth 100000
set_option maxHeartbeats 4000000
namespace K25
open PySem DL
def Goods (ps : List Pc) : Prop := ∀ p ∈ ps, p.1 ≠ [] ∧ p.1.length ≤ 6 ∧ 1 ≤ p.2
theorem piece_ok2 (c : Int) : ∃ p : Pc, (p.1 ≠ [] ∧ p.1.length ≤ 6 ∧ 1 ≤ p.2 ∧ p.2 ≤ 40) ∧ g_law_piece [.int c] = .ok (.fr (mkP false false p)) := by
  obtain ⟨xs, n, h1, h2, h3, h4, e⟩ := piece_ok c
  exact ⟨(xs, n), ⟨h1, h2, h3, h4⟩, e⟩
theorem sum_small : ∀ ps : List Pc, (∀ p ∈ ps, p.1 ≠ [] ∧ p.1.length ≤ 6 ∧ 1 ≤ p.2 ∧ p.2 ≤ 40) → hgt ps ≤ 240 * (ps.length : Int)
  | [], _ => by decide
  | p :: ps, h => by
    rw [hgt_cons, List.length_cons]
    have h1 := sum_small ps fun q hq => h q (List.mem_cons_of_mem _ hq)
    obtain ⟨_, h2, h3, h4⟩ := h p List.mem_cons_self
    have h5 : (p.1.length : Int) * p.2 ≤ 6 * 40 := Int.mul_le_mul (by omega) h4 (by omega) (by omega)
    rw [Int.natCast_add, Int.natCast_one]
    omega
def hsz : List Int := [8, 8, 5, 9, 8, 3]
def ins (ps : List Pc) (at_ : Nat) (p : Pc) : List Pc := ps.take at_ ++ [p] ++ ps.drop at_
theorem ins_map (ps : List Pc) (k : Nat) (p : Pc) : (ps.map (mkP false false)).take k ++ [mkP false false p] ++ (ps.map (mkP false false)).drop k = (ins ps k p).map (mkP false false) := by
  unfold ins
  rw [List.map_append, List.map_append, List.map_take, List.map_drop]
  rfl
theorem ins_good {ps : List Pc} (k : Nat) {p : Pc} (h : Goods ps) (hp : p.1 ≠ [] ∧ p.1.length ≤ 6 ∧ 1 ≤ p.2) (hl : ps.length ≤ 8) : Good (ins ps k p) := by
  refine ⟨?_, fun q hq => ?_⟩
  · unfold ins
    simp only [List.length_append, List.length_take, List.length_drop, List.length_cons, List.length_nil]
    omega
  · unfold ins at hq
    simp only [List.mem_append, List.mem_singleton] at hq
    rcases hq with (hq | rfl) | hq
    · exact h q (List.mem_of_mem_take hq)
    · exact hp
    · exact h q (List.mem_of_mem_drop hq)
theorem sumq (ps : List Pc) (hg : Goods ps) (δ : DE) (h2 : δ[2]? = some (some (.fr (.lst (ps.map (mkP false false)))))) (hl : δ.length = 9) (hn : ps.length ≤ 9) :
    (fCall dSum (aCons (fLc (iSeq (getV 2)) [6] (gSet 6) bYes (fBin dMul (fCall dLen (aCons (fBin dIx (getV 6) (cst (.int 0))) aNil)) (fBin dIx (getV 6) (cst (.int 1))))) aNil)) δ = .ok (.fr (.int (hgt ps))) := by
  have cm := comp_map (δ := fgtS [6] δ) (bd := gSet 6) (fe := fBin dMul (fCall dLen (aCons (fBin dIx (getV 6) (cst (.int 0))) aNil)) (fBin dIx (getV 6) (cst (.int 1)))) (mkP false false) (fun p => D.int ((p.1.length : Int) * p.2)) ps (fun p hp => by
    have h6 := (hg p hp).2.1
    have m := mul_int (i := (p.1.length : Int)) (j := p.2) (by left; omega)
    have g6 : getV 6 ((fgtS [6] δ).set 6 (some (.fr (mkP false false p)))) = .ok (.fr (mkP false false p)) := gv_fr (by
      show ((δ.set 6 none).set 6 _)[6]? = _
      rw [List.getElem?_set_self (by rw [List.length_set, hl]; decide)])
    have mn := mkS_len false p.1
    refine ⟨_, .fr (.int ((p.1.length : Int) * p.2)), rfl, ?_, rfl⟩
    simp only [ev_bin, ev_call, ev_acons, ev_anil, ev_cst, g6, bd_ok, rv_fr, mkP_0, mkP_1, mn, m])
  have lc := lc_ok (fi := iSeq (getV 2)) (vs := [6]) (δ := δ) (ds := ps.map (mkP false false)) (by simp only [ev_iseq, gv_fr h2, bd_ok, rv_fr, seq_lst]) cm (by rw [List.length_map]; unfold SZ; omega)
  have sm : dSum [.lst (ps.map fun p => D.int ((p.1.length : Int) * p.2))] = .ok (.fr (.int (hgt ps))) := by
    have e : (ps.map fun p => D.int ((p.1.length : Int) * p.2)) = (ps.map fun p => (p.1.length : Int) * p.2).map D.int := by rw [List.map_map]; rfl
    rw [e]
    exact sum_lst
  rw [ev_call, ev_acons, lc, bd_ok, ev_anil, bd_ok, bd_ok, rv_ol, sm]
theorem revq (ps : List Pc) (hn : ps.length ≤ 9) (δ : DE) (h2 : δ[2]? = some (some (.fr (.lst (ps.map (mkP false false)))))) (hl : δ.length = 9) :
    fLc (iArgs rng1 (aCons (fCall dLen (aCons (getV 2) aNil)) aNil)) [3] (gSet 3) bYes (fBin dIx (getV 2) (fBin dSub (fBin dSub (fCall dLen (aCons (getV 2) aNil)) (cst (.int 1))) (getV 3))) δ = .ok (.ol (ps.reverse.map (mkP false false))) := by
  have r := rng1_nat (n := ps.length) (by omega)
  have g2 : getV 2 δ = .ok (.fr (.lst (ps.map (mkP false false)))) := gv_fr h2
  have cm := comp_map (δ := fgtS [3] δ) (bd := gSet 3) (fe := fBin dIx (getV 2) (fBin dSub (fBin dSub (fCall dLen (aCons (getV 2) aNil)) (cst (.int 1))) (getV 3))) (fun i : Nat => D.int (i : Nat)) (fun i : Nat => (ps.reverse.map (mkP false false))[i]?.getD .non) (List.range ps.length) (fun i hi => by
    have hi := List.mem_range.mp hi
    have k2 : getV 2 ((fgtS [3] δ).set 3 (some (.fr (.int (i : Nat))))) = .ok (.fr (.lst (ps.map (mkP false false)))) := gv_fr (by
      show ((δ.set 3 none).set 3 _)[2]? = _
      rw [List.getElem?_set_ne (by decide), List.getElem?_set_ne (by decide)]; exact h2)
    have k3 : getV 3 ((fgtS [3] δ).set 3 (some (.fr (.int (i : Nat))))) = .ok (.fr (.int (i : Nat))) := gv_fr (by
      show ((δ.set 3 none).set 3 _)[3]? = _
      rw [List.getElem?_set_self (by rw [List.length_set, hl]; decide)])
    have hj : ps.length - 1 - i < ps.length := by omega
    have e : (ps.map (mkP false false))[ps.length - 1 - i]? = some (mkP false false ps[ps.length - 1 - i]) := by rw [List.getElem?_map, List.getElem?_eq_getElem hj]; rfl
    have ix := ix_lst e
    have cst_ : ((ps.length : Int) - 1 - (i : Nat)) = ((ps.length - 1 - i : Nat) : Int) := by omega
    refine ⟨_, .fr (mkP false false ps[ps.length - 1 - i]), rfl, ?_, ?_⟩
    · simp only [ev_bin, ev_call, ev_acons, ev_anil, ev_cst, k2, k3, bd_ok, rv_fr, len_lst, sub_int, List.length_map, cst_, ix]
    · rw [List.getElem?_map, List.getElem?_reverse hi, List.getElem?_eq_getElem hj]; rfl)
  have e : (List.range ps.length).map (fun i : Nat => (ps.reverse.map (mkP false false))[i]?.getD .non) = ps.reverse.map (mkP false false) := by
    refine List.ext_getElem? fun i => ?_
    rw [List.getElem?_map]
    rcases Nat.lt_or_ge i ps.length with h | h
    · rw [List.getElem?_range h]
      have hi : i < (ps.reverse.map (mkP false false)).length := by simpa using h
      rw [Option.map_some, List.getElem?_eq_getElem hi]
      rfl
    · rw [List.getElem?_eq_none (by simpa using h), List.getElem?_eq_none (by simpa using h)]; rfl
  rw [e] at cm
  exact lc_ok (ds := (List.range ps.length).map fun i => .int (i : Nat)) (by simp only [ev_iargs, ev_acons, ev_anil, ev_call, g2, bd_ok, rv_fr, len_lst, List.length_map, r]) cm (by rw [List.length_map, List.length_reverse]; unfold SZ; omega)
theorem view_int {f : DE → R RV} {δ : DE} {i : Int} (h : f (frzAll δ) = .ok (.fr (.int i))) : fView f δ = .ok (.fr (.int i)) := by
  unfold fView
  rw [h]
  rfl
noncomputable abbrev lTail : DE → SR := (sSeq ((sFrz 2 (sIf (bNot (fT (fCall (g_law_right) (aCons (getV 2) (aCons (fBin dIx (getV 1) (cst (.int 4))) aNil))))) (sSeq ((sRet (cst (.bl false))))
  sNil) sNil)))
  (sSeq ((sSet 8 (fLc (iArgs rng1 (aCons (fCall dLen (aCons (getV 2) aNil)) aNil)) [3] (gSet 3) bYes (fBin dIx (getV 2) (fBin dSub (fBin dSub (fCall dLen (aCons (getV 2) aNil)) (cst (.int 1))) (getV 3))))))
  (sSeq ((sFrz 8 (sRet ((fAnd (fCall (g_law_right) (aCons (getV 8) (aCons (fBin dMod (fCall dInt (aCons (fBin dAdd (fBin dIx (getV 1) (cst (.int 4))) (cst (.int 3))) aNil)) (cst (.int 8))) aNil))) (fCall (g_law_right) (aCons (getV 2) (aCons (fBin dIx (getV 1) (cst (.int 4))) aNil))))))))
  sNil)))
theorem tail_ok (S H : D) (ps : List Pc) (hg : Good ps) (h4 : Int) (e4 : dIx H (.int 4) = .ok (.fr (.int h4))) (s3 s4 s5 s6 s7 : Option RV) : lTail [some (.fr S), some (.fr H), some (.ol (ps.map (mkP false false))), s3, s4, s5, s6, s7, none] = .rt (.fr (.bl true)) := by
  have hr := right_ok ps hg h4
  have hr2 := right_ok ps.reverse ⟨by rw [List.length_reverse]; exact hg.1, fun p hp => hg.2 p (List.mem_reverse.mp hp)⟩ ((h4 + 3) % 8)
  have rq := revq ps hg.1 [some (.fr S), some (.fr H), some (.fr (.lst (ps.map (mkP false false)))), s3, s4, s5, s6, s7, none] rfl rfl
  generalize ps.map (mkP false false) = L at hr rq ⊢
  generalize ps.reverse.map (mkP false false) = M at hr2 rq
  simp [lTail, e4, hr, rq, hr2, mod_int]
theorem law_true (ns : List Int) (hl : ns.length ≤ 63) : g_law [.lst (ns.map D.int)] = .ok (.fr (.bl true)) := by
  obtain ⟨c0, hc0⟩ : ∃ c : Int, g_law_cell [.lst (ns.map D.int), .int 0] = .ok (.fr (.int c)) := cell_ok ns 0
  obtain ⟨c1, hc1⟩ : ∃ c : Int, g_law_cell [.lst (ns.map D.int), .int 1] = .ok (.fr (.int c)) := cell_ok ns 1
  obtain ⟨row, er, hd⟩ := digits_ok c0 hsz (by decide +kernel) (by decide +kernel)
  obtain ⟨h0, e0, a0, b0⟩ := hd.get 0 (s := 8) rfl
  obtain ⟨h1, e1, a1, b1⟩ := hd.get 1 (s := 8) rfl
  obtain ⟨h2, e2, a2, b2⟩ := hd.get 2 (s := 5) rfl
  obtain ⟨h3, e3, a3, b3⟩ := hd.get 3 (s := 9) rfl
  obtain ⟨h4, e4, a4, b4⟩ := hd.get 4 (s := 8) rfl
  obtain ⟨h5, e5, a5, b5⟩ := hd.get 5 (s := 3) rfl
  have at_ : ∀ {i : Nat} {x : Int}, row[i]? = some x → dIx (.lst (row.map D.int)) (.int (i : Nat)) = .ok (.fr (.int x)) := fun {i x} h => ix_lst (by rw [List.getElem?_map, h]; rfl)
  have i0 : dIx (.lst (row.map D.int)) (.int 0) = .ok (.fr (.int h0)) := at_ e0
  have i1 : dIx (.lst (row.map D.int)) (.int 1) = .ok (.fr (.int h1)) := at_ e1
  have i2 : dIx (.lst (row.map D.int)) (.int 2) = .ok (.fr (.int h2)) := at_ e2
  have i3 : dIx (.lst (row.map D.int)) (.int 3) = .ok (.fr (.int h3)) := at_ e3
  have i4 : dIx (.lst (row.map D.int)) (.int 4) = .ok (.fr (.int h4)) := at_ e4
  have i5 : dIx (.lst (row.map D.int)) (.int 5) = .ok (.fr (.int h5)) := at_ e5
  have cell : ∀ k : Nat, ∃ c : Int, g_law_cell [.lst (ns.map D.int), .int k] = .ok (.fr (.int c)) := cell_ok ns
  obtain ⟨S, hS⟩ : ∃ S, S = D.lst (ns.map D.int) := ⟨_, rfl⟩
  obtain ⟨H, hH⟩ : ∃ H, H = D.lst (row.map D.int) := ⟨_, rfl⟩
  rw [← hS] at hc0 hc1 ⊢
  rw [← hH] at i0 i1 i2 i3 i4 i5
  obtain ⟨n, hn⟩ : ∃ n : Nat, h0 = n := ⟨h0.toNat, by omega⟩
  subst hn
  obtain ⟨δ', eL, ps, s3, eδ, hlen, hps⟩ := forL_wp (F := (sSeq ((sOwn 2 gAppend (aCons (fCall (g_law_piece) (aCons (fCall (g_law_cell) (aCons (getV 0) (aCons (fBin dAdd (cst (.int 2)) (getV 3)) aNil))) aNil)) aNil)))
  sNil)) (bd := gSet 3) (fg := []) ((List.range n).map fun i => .int (i : Nat))
    (fun i δ => ∃ (ps : List Pc) (s3 : Option RV), δ = [some (.fr S), some (.fr H), some (.ol (ps.map (mkP false false))), s3, none, none, none, none, none] ∧ ps.length = i ∧ ∀ p ∈ ps, p.1 ≠ [] ∧ p.1.length ≤ 6 ∧ 1 ≤ p.2 ∧ p.2 ≤ 40)
    [some (.fr S), some (.fr H), some (.ol []), none, none, none, none, none, none] ⟨[], none, rfl, rfl, fun _ h => nomatch h⟩ (fun i d δ ed ⟨ps, s3, eδ, hlen, hps⟩ => by
      have hi : i < n := by
        rcases Nat.lt_or_ge i n with h | h
        · exact h
        · rw [List.getElem?_eq_none (by simpa using h)] at ed; cases ed
      rw [List.getElem?_map, List.getElem?_range hi] at ed
      cases ed
      subst eδ
      obtain ⟨c, hc⟩ := cell (2 + i)
      rw [← hS] at hc
      obtain ⟨p, hp, ep⟩ := piece_ok2 c
      have hc' : g_law_cell [S, .int (2 + (i : Int))] = .ok (.fr (.int c)) := by simpa using hc
      refine ⟨[some (.fr S), some (.fr H), some (.ol (ps.map (mkP false false))), some (.fr (.int (i : Nat))), none, none, none, none, none], rfl, wp_seq (wp_append (ds := ps.map (mkP false false)) (r := .fr (mkP false false p)) rfl (by rw [List.length_map]; unfold SZ; omega) ?_ (wp_nil ⟨ps ++ [p], some (.fr (.int (i : Nat))), ?_, ?_, ?_⟩))⟩
      · simp [hc', ep]
      · simp [fgtS]
      · simp [hlen]
      · intro q hq
        rcases List.mem_append.mp hq with hq | hq
        · exact hps q hq
        · rw [List.mem_singleton.mp hq]; exact hp)
  subst eδ
  simp only [List.length_map, List.length_range] at hlen
  have hgs : Goods ps := fun p hp => ⟨(hps p hp).1, (hps p hp).2.1, (hps p hp).2.2.1⟩
  have hsum := sum_small ps hps
  have rg := rng1_nat (n := n) (by omega)
  have erH : g_law_digits [.int c0, .lst [.int 8, .int 8, .int 5, .int 9, .int 8, .int 3]] = .ok (.ol (row.map D.int)) := er
  -- at
  obtain ⟨k, hk, hk9⟩ : ∃ k : Nat, h3 % ((ps.length : Int) + 1) = k ∧ k ≤ 9 := ⟨(h3 % ((ps.length : Int) + 1)).toNat, by
    have := Int.emod_nonneg h3 (show (ps.length : Int) + 1 ≠ 0 by omega)
    omega, by
    have := Int.emod_nonneg h3 (show (ps.length : Int) + 1 ≠ 0 by omega)
    have := Int.emod_lt_of_pos h3 (show 0 < (ps.length : Int) + 1 by omega)
    omega⟩
  have vat : fView (fBin dMod (fCall dInt (aCons (fBin dIx (getV 1) (cst (.int 3))) aNil)) (fBin dAdd (fCall dLen (aCons (getV 2) aNil)) (cst (.int 1)))) [some (.fr S), some (.fr H), some (.ol (ps.map (mkP false false))), s3, none, none, none, none, none] = .ok (.fr (.int k)) := view_int (by
    have m := mod_int (i := h3) (j := (ps.length : Int) + 1) (by omega)
    rw [hk] at m
    simp [frzAll, i3, m])
  have fin : ∀ (qs : List Pc) (s3 s4 s5 s6 s7 : Option RV), Good qs → lTail [some (.fr S), some (.fr H), some (.ol (qs.map (mkP false false))), s3, s4, s5, s6, s7, none] = .rt (.fr (.bl true)) := fun qs s3 s4 s5 s6 s7 hq => tail_ok S H qs hq h4 i4 s3 s4 s5 s6 s7
  have insq : ∀ (p : Pc) (fe : DE → R RV) (s3 s5 s6 s7 : Option RV), fe [some (.fr S), some (.fr H), some (.ol (ps.map (mkP false false))), s3, some (.fr (.int k)), s5, s6, s7, none] = .ok (.fr (mkP false false p)) →
      sOwn 2 gInsert (aCons (getV 4) (aCons fe aNil)) [some (.fr S), some (.fr H), some (.ol (ps.map (mkP false false))), s3, some (.fr (.int k)), s5, s6, s7, none] = .nx [some (.fr S), some (.fr H), some (.ol ((ins ps k p).map (mkP false false))), s3, some (.fr (.int k)), s5, s6, s7, none] := fun p fe s3 s5 s6 s7 hf => by
    rw [← ins_map]
    unfold sOwn
    have hz : (ps.map (mkP false false)).length < SZ ∧ 0 ≤ (k : Int) ∧ (k : Int) < 2 ^ 63 := by
      rw [List.length_map]; unfold SZ; omega
    simp only [List.getElem?_cons_succ, List.getElem?_cons_zero, ev_acons, ev_anil, hf, gv_fr (d := .int k) (i := 4) (δ := [some (.fr S), some (.fr H), some (.ol (ps.map (mkP false false))), s3, some (.fr (.int k)), s5, s6, s7, none]) rfl, bd_ok, rv_fr, lf_ok, gInsert]
    rw [if_pos hz]
    rfl
  unfold g_law
  refine gr_ret rfl ?_
  have mid : ∃ (qs : List Pc) (s4 s5 s7 : Option RV), Good qs ∧ (sIf (fB (fBin dGe (fBin dIx (getV 1) (cst (.int 1))) (cst (.int 6)))) (sSeq ((sSet 5 (fView (fBin dSub (fBin dIx (fLst 5 (aCons (cst (.int 9999)) (aCons (cst (.int 10000)) (aCons (cst (.int 10001)) (aCons (cst (.int 10000)) (aCons (cst (.int 10001)) aNil)))))) (fBin dIx (getV 1) (cst (.int 2)))) (fCall dSum (aCons (fLc (iSeq (getV 2)) [6] (gSet 6) bYes (fBin dMul (fCall dLen (aCons (fBin dIx (getV 6) (cst (.int 0))) aNil)) (fBin dIx (getV 6) (cst (.int 1))))) aNil))))))
  (sSeq ((sOwn 2 gInsert (aCons (getV 4) (aCons (fTup 2 (aCons (fTup 1 (aCons (cst (.str "z9")) aNil)) (aCons (getV 5) aNil))) aNil))))
  sNil)) (sSeq ((sIf (fB (fBin dGe (fBin dIx (getV 1) (cst (.int 1))) (cst (.int 4)))) (sSeq ((sSet 7 (fBin dAdd (fBin dIx (fLst 5 (aCons (cst (.int 1)) (aCons (fBin dPow (cst (.int 10)) (cst (.int 4))) (aCons (fBin dPow (cst (.int 10)) (cst (.int 9))) (aCons (fBin dPow (cst (.int 10)) (cst (.int 30))) (aCons (fBin dPow (cst (.int 10)) (cst (.int 60))) aNil)))))) (fBin dIx (getV 1) (cst (.int 2)))) (fCall dAbs (aCons (fCall (g_law_cell) (aCons (getV 0) (aCons (cst (.int 1)) aNil))) aNil)))))
  (sSeq ((sOwn 2 gInsert (aCons (getV 4) (aCons (fTup 2 (aCons (fSl (fTup 3 (aCons (cst (.str "Q")) (aCons (cst (.str "q")) (aCons (cst (.str "0")) aNil)))) pNone (pInt (fBin dAdd (cst (.int 1)) (fBin dIx (getV 1) (cst (.int 5)))))) (aCons (getV 7) aNil))) aNil))))
  sNil)) sNil))
  sNil)) [some (.fr S), some (.fr H), some (.ol (ps.map (mkP false false))), s3, some (.fr (.int k)), none, none, none, none] = .nx [some (.fr S), some (.fr H), some (.ol (qs.map (mkP false false))), s3, s4, s5, none, s7, none] := by
    have c6 : (fB (fBin dGe (fBin dIx (getV 1) (cst (.int 1))) (cst (.int 6)))) [some (.fr S), some (.fr H), some (.ol (ps.map (mkP false false))), s3, some (.fr (.int k)), none, none, none, none] = .ok (decide (6 ≤ h1)) := by
      simp [i1]
    have c4 : (fB (fBin dGe (fBin dIx (getV 1) (cst (.int 1))) (cst (.int 4)))) [some (.fr S), some (.fr H), some (.ol (ps.map (mkP false false))), s3, some (.fr (.int k)), none, none, none, none] = .ok (decide (4 ≤ h1)) := by
      simp [i1]
    by_cases g6 : 6 ≤ h1
    · obtain ⟨b, eb, b9⟩ : ∃ b : Int, dIx (.lst [.int 9999, .int 10000, .int 10001, .int 10000, .int 10001]) (.int h2) = .ok (.fr (.int b)) ∧ 9999 ≤ b := by
        have : h2 = 0 ∨ h2 = 1 ∨ h2 = 2 ∨ h2 = 3 ∨ h2 = 4 := by omega
        rcases this with rfl | rfl | rfl | rfl | rfl
        · exact ⟨_, ix_lst (i := 0) rfl, by decide⟩
        · exact ⟨_, ix_lst (i := 1) rfl, by decide⟩
        · exact ⟨_, ix_lst (i := 2) rfl, by decide⟩
        · exact ⟨_, ix_lst (i := 3) rfl, by decide⟩
        · exact ⟨_, ix_lst (i := 4) rfl, by decide⟩
      have vr : fView (fBin dSub (fBin dIx (fLst 5 (aCons (cst (.int 9999)) (aCons (cst (.int 10000)) (aCons (cst (.int 10001)) (aCons (cst (.int 10000)) (aCons (cst (.int 10001)) aNil)))))) (fBin dIx (getV 1) (cst (.int 2)))) (fCall dSum (aCons (fLc (iSeq (getV 2)) [6] (gSet 6) bYes (fBin dMul (fCall dLen (aCons (fBin dIx (getV 6) (cst (.int 0))) aNil)) (fBin dIx (getV 6) (cst (.int 1))))) aNil))) [some (.fr S), some (.fr H), some (.ol (ps.map (mkP false false))), s3, some (.fr (.int k)), none, none, none, none] = .ok (.fr (.int (b - hgt ps))) := view_int (by
        have sq := sumq ps hgs (frzAll [some (.fr S), some (.fr H), some (.ol (ps.map (mkP false false))), s3, some (.fr (.int k)), none, none, none, none]) rfl rfl (by omega)
        have g1 : getV 1 (frzAll [some (.fr S), some (.fr H), some (.ol (ps.map (mkP false false))), s3, some (.fr (.int k)), none, none, none, none]) = .ok (.fr H) := gv_fr rfl
        generalize frzAll [some (.fr S), some (.fr H), some (.ol (ps.map (mkP false false))), s3, some (.fr (.int k)), none, none, none, none] = δ at sq g1 ⊢
        rw [ev_bin, sq]
        simp [g1, i2, eb])
      refine ⟨ins ps k (["z9"], b - hgt ps), some (.fr (.int k)), some (.fr (.int (b - hgt ps))), none, ins_good k hgs ⟨by simp, by simp, by show 1 ≤ b - hgt ps; omega⟩ (by omega), ?_⟩
      rw [ev_if, c6, lf_ok, if_pos (decide_eq_true g6), ev_seq, ev_set, vr, lf_ok, sq_nx, ev_seq]
      have iq := insq (["z9"], b - hgt ps) (fTup 2 (aCons (fTup 1 (aCons (cst (.str "z9")) aNil)) (aCons (getV 5) aNil))) s3 (some (.fr (.int (b - hgt ps)))) none none (by
        simp [mkP, mkS])
      show SR.seq (sOwn 2 gInsert _ [some (.fr S), some (.fr H), some (.ol (ps.map (mkP false false))), s3, some (.fr (.int k)), some (.fr (.int (b - hgt ps))), none, none, none]) _ = _
      rw [iq, sq_nx, ev_nil]
    · by_cases g4 : 4 ≤ h1
      · obtain ⟨xs, x1, x2, ex⟩ : ∃ xs : List Str, xs ≠ [] ∧ xs.length ≤ 6 ∧ cutL [D.str "Q", D.str "q", D.str "0"] none (some (1 + h5)) = xs.map D.str := by
          have : h5 = 0 ∨ h5 = 1 ∨ h5 = 2 := by omega
          rcases this with rfl | rfl | rfl
          · exact ⟨["Q"], by simp, by simp, rfl⟩
          · exact ⟨["Q", "q"], by simp, by simp, rfl⟩
          · exact ⟨["Q", "q", "0"], by simp, by simp, rfl⟩
        obtain ⟨b, eb, b9⟩ : ∃ b : Int, dIx (.lst [.int 1, .int (10 ^ 4), .int (10 ^ 9), .int (10 ^ 30), .int (10 ^ 60)]) (.int h2) = .ok (.fr (.int b)) ∧ 1 ≤ b := by
          have : h2 = 0 ∨ h2 = 1 ∨ h2 = 2 ∨ h2 = 3 ∨ h2 = 4 := by omega
          rcases this with rfl | rfl | rfl | rfl | rfl
          · exact ⟨_, ix_lst (i := 0) rfl, by decide⟩
          · exact ⟨_, ix_lst (i := 1) rfl, by decide⟩
          · exact ⟨_, ix_lst (i := 2) rfl, by decide⟩
          · exact ⟨_, ix_lst (i := 3) rfl, by decide⟩
          · exact ⟨_, ix_lst (i := 4) rfl, by decide⟩
        have p4 : dPow (.int 10) (.int 4) = .ok (.fr (.int (10 ^ 4))) := pow_int (by decide)
        have p9 : dPow (.int 10) (.int 9) = .ok (.fr (.int (10 ^ 9))) := pow_int (by decide)
        have p30 : dPow (.int 10) (.int 30) = .ok (.fr (.int (10 ^ 30))) := pow_int (by decide)
        have p60 : dPow (.int 10) (.int 60) = .ok (.fr (.int (10 ^ 60))) := pow_int (by decide)
        obtain ⟨m, em, hm⟩ : ∃ m : Int, dAbs [.int c1] = .ok (.fr (.int m)) ∧ 0 ≤ m := ⟨_, abs_int, by split <;> omega⟩
        obtain ⟨t4, ht4⟩ : ∃ t : Int, t = 10 ^ 4 := ⟨_, rfl⟩
        obtain ⟨t9, ht9⟩ : ∃ t : Int, t = 10 ^ 9 := ⟨_, rfl⟩
        obtain ⟨t30, ht30⟩ : ∃ t : Int, t = 10 ^ 30 := ⟨_, rfl⟩
        obtain ⟨t60, ht60⟩ : ∃ t : Int, t = 10 ^ 60 := ⟨_, rfl⟩
        rw [← ht4] at eb p4
        rw [← ht9] at eb p9
        rw [← ht30] at eb p30
        rw [← ht60] at eb p60
        have et : (fBin dAdd (fBin dIx (fLst 5 (aCons (cst (.int 1)) (aCons (fBin dPow (cst (.int 10)) (cst (.int 4))) (aCons (fBin dPow (cst (.int 10)) (cst (.int 9))) (aCons (fBin dPow (cst (.int 10)) (cst (.int 30))) (aCons (fBin dPow (cst (.int 10)) (cst (.int 60))) aNil)))))) (fBin dIx (getV 1) (cst (.int 2)))) (fCall dAbs (aCons (fCall (g_law_cell) (aCons (getV 0) (aCons (cst (.int 1)) aNil))) aNil))) [some (.fr S), some (.fr H), some (.ol (ps.map (mkP false false))), s3, some (.fr (.int k)), none, none, none, none] = .ok (.fr (.int (b + m))) := by
          simp [-abs_int, p4, p9, p30, p60, i2, eb, hc1, em]
        refine ⟨ins ps k (xs, b + m), some (.fr (.int k)), none, some (.fr (.int (b + m))), ins_good k hgs ⟨x1, x2, by show 1 ≤ b + m; omega⟩ (by omega), ?_⟩
        have iq := insq (xs, b + m) (fTup 2 (aCons (fSl (fTup 3 (aCons (cst (.str "Q")) (aCons (cst (.str "q")) (aCons (cst (.str "0")) aNil)))) pNone (pInt (fBin dAdd (cst (.int 1)) (fBin dIx (getV 1) (cst (.int 5)))))) (aCons (getV 7) aNil))) s3 none none (some (.fr (.int (b + m)))) (by
          have pi : pInt (fBin dAdd (cst (.int 1)) (fBin dIx (getV 1) (cst (.int 5)))) [some (.fr S), some (.fr H), some (.ol (ps.map (mkP false false))), s3, some (.fr (.int k)), none, none, some (.fr (.int (b + m))), none] = .ok (some (1 + h5)) := pint (by simp [i5])
          simp [pi, ex]
          rfl)
        rw [ev_if, c6, lf_ok, if_neg (by simpa using g6), ev_seq, ev_if, c4, lf_ok, if_pos (decide_eq_true g4), ev_seq, ev_set, et, lf_ok, sq_nx, ev_seq]
        show SR.seq (SR.seq (sOwn 2 gInsert _ [some (.fr S), some (.fr H), some (.ol (ps.map (mkP false false))), s3, some (.fr (.int k)), none, none, some (.fr (.int (b + m))), none]) _) _ = _
        rw [iq, sq_nx, ev_nil, sq_nx, ev_nil]
      · refine ⟨ps, some (.fr (.int k)), none, none, ⟨by omega, hgs⟩, ?_⟩
        rw [ev_if, c6, lf_ok, if_neg (by simpa using g6), ev_seq, ev_if, c4, lf_ok, if_neg (by simpa using g4), ev_nil, sq_nx, ev_nil]
  obtain ⟨qs, s4, s5, s7, hq, emid⟩ := mid
  have hfin := fin qs s3 s4 s5 none s7 hq
  unfold F_law
  rw [ev_seq, ev_set]
  have eh : (fCall (g_law_digits) (aCons (fCall (g_law_cell) (aCons (getV 0) (aCons (cst (.int 0)) aNil))) (aCons (fLst 6 (aCons (cst (.int 8)) (aCons (cst (.int 8)) (aCons (cst (.int 5)) (aCons (cst (.int 9)) (aCons (cst (.int 8)) (aCons (cst (.int 3)) aNil))))))) aNil))) [some (.fr S), none, none, none, none, none, none, none, none] = .ok (.ol (row.map D.int)) := by
    simp [hc0, erH]
  show SR.seq (lift ((fCall (g_law_digits) _) [some (.fr S), none, none, none, none, none, none, none, none]) _ _) _ = _
  rw [eh, lf_ok, sq_nx, ev_seq, ev_set, ev_lst, ev_anil, bd_ok, lf_ok, sq_nx, ev_seq, ev_frz]
  have fz : frzS 1 [some (.fr S), some (.ol (row.map D.int)), some (.ol []), none, none, none, none, none, none] = [some (.fr S), some (.fr H), some (.ol []), none, none, none, none, none, none] := by rw [hH]; exact fz_ol rfl
  show SR.seq (sFor _ _ _ _ (frzS 1 [some (.fr S), some (.ol (row.map D.int)), some (.ol []), none, none, none, none, none, none])) _ = _
  rw [fz, ev_for]
  have ei : (iArgs rng1 (aCons (fBin dIx (getV 1) (cst (.int 0))) aNil)) [some (.fr S), some (.fr H), some (.ol []), none, none, none, none, none, none] = .ok ((List.range n).map fun i => .int (i : Nat)) := by
    simp [i0, rg]
  rw [ei, lf_ok, eL, sq_nx, ev_seq, ev_set, vat, lf_ok, sq_nx, ev_seq]
  show SR.seq (sIf _ _ _ [some (.fr S), some (.fr H), some (.ol (ps.map (mkP false false))), s3, some (.fr (.int k)), none, none, none, none]) _ = _
  rw [emid, sq_nx]
  exact hfin
end K25


open PySem PySem.W PySem.Calls PyProof.Rows
set_option maxHeartbeats 0 in
theorem PySem.Challenge.cw_pilerecall_k25_pieces_holds : PySem.Challenge.rw_pilerecall_k25_pieces.Holds := by
  w_on; o_law
  refine HandSHeadRun.head_any (r := OpenLaw.row PySem.Challenge.rw_pilerecall_k25_pieces) (q := view (OpenLaw.row PySem.Challenge.rw_pilerecall_k25_pieces).prog [33]) (H := K25.hk) (ob := K25.ob) (M := 6000) (loose := K25.names) (d := HandSHeadRun.topDef (OpenLaw.row PySem.Challenge.rw_pilerecall_k25_pieces).prog 33) (kwd := []) K25.ob_eq
    (by kernel_rfl) (fun s => by kernel_rfl) K25.run (by kernel_rfl) (by kernel_rfl) (by kernel_rfl) (by rfl) (by first | assumption | decide +kernel) (by decide +kernel) ⟨rfl, rfl, rfl, rfl, rfl, by decide +kernel⟩ ?hw ?hc
  case hw => w_witness2
  case hc =>
    refine DL.walk_ofW (l := PySem.Challenge.rw_pilerecall_k25_pieces) (n := 63) (k := 11) (x := "script") (CX := fun w => L2N.CX (PySem.Challenge.rw_pilerecall_k25_pieces).prog w) rfl (by decide) (by kernel_rfl) ⟨rfl, by decide, by decide⟩ ?F ?C
    case C => intro w H s e s' h; obtain ⟨_, _, _, _, _, _, _, _, _, _, _, _, z⟩ := h; exact z
    intro w mg fa h Y Gm hmg0
    obtain ⟨K, KX, c⟩ := Y
    have hmg : mg ("law" : PySem.Str) = some (.ref fa) := by
      have e : (HandSHeadRun.topDef (OpenLaw.row PySem.Challenge.rw_pilerecall_k25_pieces).prog 33).name = ("law" : PySem.Str) := by kernel_rfl
      rw [← e]
      exact hmg0
    obtain ⟨⟨fd, hb, hF⟩, hn⟩ := K25.facts (P := (PySem.Challenge.rw_pilerecall_k25_pieces).prog) (w := w) KX Gm hmg c
    exact ⟨K, fd, DL.spD K mg K25.g_law, KX, hb, fun H a ns hl ho hS => DL.law_end K25.law_true hn ns hl hS, hF⟩

