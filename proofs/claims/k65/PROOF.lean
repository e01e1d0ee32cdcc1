import PyProof.Rows.All
import Wide.All
import OpenK.AllK
import Wide.FinOn
import HandS.ForMost
import HandS.Exc
import HandS.TryOnly
import HandS.ExcOwn
import HandS.WordsExc
import HandS.TupAny
import HandS.Style
import HandS.IsInst
import HandS.Sort
import HandS.Conv
import HandS.Zip
import HandS.HeadEnd
import HandS.Deep
import KE.GoesMore
import HandS.SortKw
import KE.SortKeyHeap
import KE.DataMinMax
import HandS.Defaults
import HandS.Head0
import HandS.Head1
import HandS.Head2
import HandS.HeadHook1
import HandS.HeadHook2
import HandS.Set
import HandS.SetFor
import HandS.Text
import HandS.Iter
import PySem.Challenge.RW_seenroutes_k65_texts_of_sights
set_option Elab.async false
set_option linter.all false
set_option maxRecDepth 100000
set_option maxHeartbeats 4000000
/-! A data layer over the hand layer: values as data (no addresses), owned lists by their address, wishes over both. -/
namespace DL
open PySem PySem.Spec PyProof.Rows L2

/-- a value: data, or a raw value (the address of something owned, a type) -/
inductive W where
  | d (x : PyData)
  | r (v : V)
abbrev Env := List (Option W)
/-- what is owned at an address -/
inductive MO where
  | lst (xs : List W)
  | tup (xs : List W)
  | dK (kvs : List (Key × W))
  | ins (C dx : Addr) (fs : List (Str × W))
  | raw (o : HO)
abbrev MM := Addr → Option MO
def mset (M : MM) (a : Addr) (o : MO) : MM := fun b => if b = a then some o else M b
theorem mset_same {M : MM} {a : Addr} {o : MO} : mset M a o a = some o := if_pos rfl
theorem mset_ne {M : MM} {a b : Addr} {o : MO} (h : b ≠ a) : mset M a o b = M b := if_neg h
theorem mset_mset {M : MM} {a : Addr} {o u : MO} : mset (mset M a o) a u = mset M a u := by
  funext b; unfold mset; split <;> rfl

abbrev XQ := Value → Option Addr → Env → MM → Prop
abbrev KW := W → MM → Prop
abbrev WE := XQ → Env → MM → KW → Prop
abbrev WT := XQ → Env → MM → (Bool → MM → Prop) → Prop
abbrev WA := XQ → Env → MM → (List W → MM → Prop) → Prop
structure DEnds where
  nx : Env → MM → Prop
  rt : KW
  bk : Env → MM → Prop
  ct : Env → MM → Prop
  xq : XQ
abbrev WS := DEnds → Env → MM → Prop

/-! ### the relation -/
abbrev RelW (K : PySem.W.Frag) (G : Hp) : W → V → Prop
  | .d x, v => Dp K G v x
  | .r u, v => u = v
def RelMO (K : PySem.W.Frag) (G : Hp) : MO → HO → Prop
  | .lst xs, .lst vs => Paired (RelW K G) xs vs
  | .tup xs, .tup vs => Paired (RelW K G) xs vs
  | .dK kvs, .dK lvs => Paired (fun (p : Key × W) (q : Key × V) => p.1 = q.1 ∧ RelW K G p.2 q.2) kvs lvs
  | .ins C dx fs, .ins C' dx' gs => C = C' ∧ dx = dx' ∧ Paired (fun (p : Str × W) (q : Str × V) => p.1 = q.1 ∧ RelW K G p.2 q.2) fs gs
  | .raw o, u => o = u
  | _, _ => False
def Ex (H H' : Hp) : Prop := ∀ a o, H a = some o → H' a = some o
theorem Ex.refl (H : Hp) : Ex H H := fun _ _ h => h
theorem Ex.trans {H H1 H2 : Hp} (a : Ex H H1) (b : Ex H1 H2) : Ex H H2 := fun x o h => b x o (a x o h)
theorem Ex.new {H : Hp} {p : Addr} {o : HO} (h : H p = none) : Ex H (upd H p o) := fun a u e => by
  rw [upd_ne (ne_of_none e h)]; exact e
theorem Ex.rd {H H' : Hp} {a : Addr} {u : HO} (e : Ex H H') (h : Rd H a u) : Rd H' a u := by
  rcases h with h | ⟨o, h⟩
  · exact .inl (e a _ h)
  · exact .inr ⟨o, e a _ h⟩
theorem Ex.l {K : PySem.W.Frag} {H H' : Hp} {a : Addr} {xs : List V} (e : Ex H H') (h : SqL K H a xs) : SqL K H' a xs := by
  rcases h with h | h
  · exact .inl (e.rd h)
  · exact .inr h
theorem Ex.t {K : PySem.W.Frag} {H H' : Hp} {a : Addr} {xs : List V} (e : Ex H H') (h : SqT K H a xs) : SqT K H' a xs := by
  rcases h with h | h
  · exact .inl (e.rd h)
  · exact .inr h
mutual
theorem Ex.dp {K : PySem.W.Frag} {H H' : Hp} (e : Ex H H') : ∀ {v : V} {d : PyData}, Dp K H v d → Dp K H' v d
  | _, _, .non => .non
  | _, _, .bl b => .bl b
  | _, _, .int i => .int i
  | _, _, .str x => .str x
  | _, _, .lst h t => .lst (e.l h) (e.dps t)
  | _, _, .tup h t => .tup (e.t h) (e.dps t)
theorem Ex.dps {K : PySem.W.Frag} {H H' : Hp} (e : Ex H H') : ∀ {vs : List V} {ds : List PyData}, DpAll K H vs ds → DpAll K H' vs ds
  | _, _, .nil => .nil
  | _, _, .cons h t => .cons (e.dp h) (e.dps t)
end
section
variable {K : PySem.W.Frag} {G G' H H' : Hp} {M M' : MM} {x y : W} {v u : V}
theorem RelW.ext (e : Ex G G') (h : RelW K G x v) : RelW K G' x v := by
  cases x with
  | d x => exact e.dp (show Dp K G v x from h)
  | r u => exact h
theorem RelWs.ext (e : Ex G G') : ∀ {xs : List W} {vs : List V}, Paired (RelW K G) xs vs → Paired (RelW K G') xs vs
  | _, _, .nil => .nil
  | _, _, .cons h t => .cons (RelW.ext e h) (RelWs.ext e t)
theorem Paired.imp' {α β : Type} {F F' : α → β → Prop} (f : ∀ a b, F a b → F' a b) : ∀ {xs : List α} {ys : List β}, Paired F xs ys → Paired F' xs ys
  | _, _, .nil => .nil
  | _, _, .cons h t => .cons (f _ _ h) (Paired.imp' f t)
theorem RelMO.ext (e : Ex G G') {mo : MO} {ho : HO} (h : RelMO K G mo ho) : RelMO K G' mo ho := by
  cases mo <;> cases ho <;> first | exact h | exact h.elim | skip
  · exact RelWs.ext e h
  · exact RelWs.ext e h
  · exact Paired.imp' (fun a b q => ⟨q.1, RelW.ext e q.2⟩) h
  · exact ⟨h.1, h.2.1, Paired.imp' (fun a b q => ⟨q.1, RelW.ext e q.2⟩) h.2.2⟩
structure Sim (K : PySem.W.Frag) (G : Hp) (M : MM) (H : Hp) : Prop where
  ex : Ex G H
  own : ∀ a mo, M a = some mo → G a = none ∧ ∃ ho, H a = some ho ∧ RelMO K G mo ho
theorem Sim.free (s : Sim K G M H) {p : Addr} (h : H p = none) : M p = none ∧ G p = none := by
  constructor
  · cases e : M p with
    | none => rfl
    | some mo =>
      obtain ⟨_, ho, q, _⟩ := s.own p mo e
      rw [h] at q; cases q
  · cases e : G p with
    | none => rfl
    | some o =>
      have q := s.ex p o e
      rw [h] at q; cases q
/-- what is not owned stays -/
def Frm (G : Hp) (M : MM) (H : Hp) (G' : Hp) (M' : MM) (H' : Hp) : Prop := ∀ a o, H a = some o → M a = none → H' a = some o ∧ M' a = none ∧ (G a = none → G' a = none)
structure Stp (K : PySem.W.Frag) (G : Hp) (M : MM) (H : Hp) (G' : Hp) (M' : MM) (H' : Hp) : Prop where
  ex : Ex G G'
  fr : Frm G M H G' M' H'
  sim : Sim K G' M' H'
theorem Stp.refl (s : Sim K G M H) : Stp K G M H G M H := ⟨Ex.refl G, fun _ _ h m => ⟨h, m, fun z => z⟩, s⟩
theorem Stp.trans {G'' H'' : Hp} {M'' : MM} (a : Stp K G M H G' M' H') (b : Stp K G' M' H' G'' M'' H'') : Stp K G M H G'' M'' H'' :=
  ⟨a.ex.trans b.ex, fun x o h m => let ⟨h1, m1, g1⟩ := a.fr x o h m; let ⟨h2, m2, g2⟩ := b.fr x o h1 m1; ⟨h2, m2, fun z => g2 (g1 z)⟩, b.sim⟩
/-- a new thing of data -/
theorem Stp.dat (s : Sim K G M H) {p : Addr} {o : HO} (hp : H p = none) : Stp K G M H (upd G p o) M (upd H p o) := by
  obtain ⟨mp, gp⟩ := s.free hp
  refine ⟨Ex.new gp, fun a u h m => ⟨by rw [upd_ne (ne_of_none h hp)]; exact h, m, fun z => by rw [upd_ne (ne_of_none h hp)]; exact z⟩, fun a u h => ?_, fun a mo h => ?_⟩
  · by_cases e : a = p
    · subst e; rw [upd_same] at h ⊢; exact h
    · rw [upd_ne e] at h ⊢; exact s.ex a u h
  · have ne : a ≠ p := fun e => by subst e; rw [mp] at h; cases h
    obtain ⟨g, ho, q, r⟩ := s.own a mo h
    exact ⟨by rw [upd_ne ne]; exact g, ho, by rw [upd_ne ne]; exact q, r.ext (Ex.new gp)⟩
/-- a new owned thing -/
theorem Stp.new (s : Sim K G M H) {p : Addr} {mo : MO} {o : HO} (hp : H p = none) (r : RelMO K G mo o) : Stp K G M H G (mset M p mo) (upd H p o) := by
  obtain ⟨mp, gp⟩ := s.free hp
  refine ⟨Ex.refl G, fun a u h m => ?_, fun a u h => ?_, fun a mo' h => ?_⟩
  · have ne : a ≠ p := ne_of_none h hp
    exact ⟨by rw [upd_ne ne]; exact h, by rw [mset_ne ne]; exact m, fun z => z⟩
  · rw [upd_ne (ne_of_none (s.ex a u h) hp)]; exact s.ex a u h
  · by_cases e : a = p
    · subst e
      rw [mset_same] at h; cases h
      exact ⟨gp, o, upd_same, r⟩
    · rw [mset_ne e] at h
      obtain ⟨g, ho, q, r'⟩ := s.own a mo' h
      exact ⟨g, ho, by rw [upd_ne e]; exact q, r'⟩
/-- an owned thing changes -/
theorem Stp.mut (s : Sim K G M H) {p : Addr} {mo0 mo : MO} {o : HO} (hp : M p = some mo0) (r : RelMO K G mo o) : Stp K G M H G (mset M p mo) (upd H p o) := by
  obtain ⟨gp, _⟩ := s.own p _ hp
  refine ⟨Ex.refl G, fun a u h m => ?_, fun a u h => ?_, fun a mo' h => ?_⟩
  · have ne : a ≠ p := fun e => by subst e; rw [hp] at m; cases m
    exact ⟨by rw [upd_ne ne]; exact h, by rw [mset_ne ne]; exact m, fun z => z⟩
  · have ne : a ≠ p := fun e => by subst e; rw [gp] at h; cases h
    rw [upd_ne ne]; exact s.ex a u h
  · by_cases e : a = p
    · subst e
      rw [mset_same] at h; cases h
      exact ⟨gp, o, upd_same, r⟩
    · rw [mset_ne e] at h
      obtain ⟨g, ho, q, r'⟩ := s.own a mo' h
      exact ⟨g, ho, by rw [upd_ne e]; exact q, r'⟩
def Sub (M M' : MM) : Prop := ∀ a mo, M a = some mo → M' a = some mo
theorem Sub.refl (M : MM) : Sub M M := fun _ _ h => h
theorem Sub.trans {M'' : MM} (a : Sub M M') (b : Sub M' M'') : Sub M M'' := fun x o h => b x o (a x o h)
theorem Sub.new {p : Addr} {mo : MO} (a : Sub M M') (h : M p = none) : Sub M (mset M' p mo) := fun x o e => by
  have ne : x ≠ p := fun z => by subst z; rw [h] at e; cases e
  rw [mset_ne ne]; exact a x o e
theorem Sub.both {p : Addr} {mo : MO} (a : Sub M M') : Sub (mset M p mo) (mset M' p mo) := fun x o e => by
  by_cases z : x = p
  · subst z; rw [mset_same] at e ⊢; exact e
  · rw [mset_ne z] at e ⊢; exact a x o e
theorem Sim.sub (s : Sim K G M H) (b : Sub M' M) : Sim K G M' H := ⟨s.ex, fun a mo h => s.own a mo (b a mo h)⟩
/-- owned things are forgotten -/
theorem Stp.sub (s : Sim K G M H) (b : Sub M' M) : Stp K G M H G M' H := by
  refine ⟨Ex.refl G, fun a o h m => ⟨h, ?_, fun z => z⟩, s.sub b⟩
  cases e : M' a with
  | none => rfl
  | some mo => rw [b a mo e] at m; cases m
end

def mdel (M : MM) (a : Addr) : MM := fun b => if b = a then none else M b
theorem mdel_same {M : MM} {a : Addr} : mdel M a a = none := if_pos rfl
theorem mdel_ne {M : MM} {a b : Addr} (h : b ≠ a) : mdel M a b = M b := if_neg h
theorem mdel_mset {M : MM} {a : Addr} {o : MO} (h : M a = none) : mdel (mset M a o) a = M := by
  funext b
  by_cases e : b = a
  · subst e; rw [mdel_same, h]
  · rw [mdel_ne e, mset_ne e]
theorem Sub.del {M M' : MM} {p : Addr} (a : Sub M M') (h : M p = none) : Sub M (mdel M' p) := fun x o e => by
  have ne : x ≠ p := fun z => by subst z; rw [h] at e; cases e
  rw [mdel_ne ne]; exact a x o e
/-- an owned list of data becomes data -/
theorem Stp.frz {K : PySem.W.Frag} {G H : Hp} {M : MM} {p : Addr} {ds : List PyData} (s : Sim K G M H) (hp : M p = some (.lst (ds.map W.d))) : ∃ G', Stp K G M H G' (mdel M p) H ∧ Dp K G' (.ref p) (.list ds) := by
  obtain ⟨gp, ho, q, r⟩ := s.own p _ hp
  cases ho <;> try (exact r.elim)
  rename_i vs
  refine ⟨upd G p (.lst vs), ⟨Ex.new gp, fun a u h m => ⟨h, ?_, fun z => ?_⟩, fun a u h => ?_, fun a mo h => ?_⟩, ?_⟩
  · by_cases e : a = p
    · subst e; exact mdel_same
    · rw [mdel_ne e]; exact m
  · by_cases e : a = p
    · subst e; rw [hp] at m; cases m
    · rw [upd_ne e]; exact z
  · by_cases e : a = p
    · subst e; rw [upd_same] at h; cases h; exact q
    · rw [upd_ne e] at h; exact s.ex a u h
  · by_cases e : a = p
    · subst e; rw [mdel_same] at h; cases h
    · rw [mdel_ne e] at h
      obtain ⟨g, ho, q', r'⟩ := s.own a mo h
      exact ⟨by rw [upd_ne e]; exact g, ho, q', r'.ext (Ex.new gp)⟩
  · refine .lst (.inl (.inl upd_same)) ((Ex.new gp).dps ?_)
    have r' : Paired (RelW K G) (ds.map W.d) vs := r
    clear r q hp gp
    induction ds generalizing vs with
    | nil => cases r'; exact .nil
    | cons d ds ih =>
      cases r' with
      | cons a t => exact .cons a (ih _ t)

/-! ### environments -/
def RelEnv (K : PySem.W.Frag) (G : Hp) (ρ : Env) (σ : L2.St) : Prop := ρ.length = σ.length ∧ ∀ (i : Nat) (x : W), ρ[i]? = some (some x) → ∃ v, σ[i]? = some (some v) ∧ RelW K G x v
theorem RelEnv.ext {K : PySem.W.Frag} {G G' : Hp} {ρ : Env} {σ : L2.St} (e : Ex G G') (h : RelEnv K G ρ σ) : RelEnv K G' ρ σ :=
  ⟨h.1, fun i x q => let ⟨v, a, b⟩ := h.2 i x q; ⟨v, a, RelW.ext e b⟩⟩
theorem RelEnv.set {K : PySem.W.Frag} {G : Hp} {ρ : Env} {σ : L2.St} {x : W} {v : V} (h : RelEnv K G ρ σ) (r : RelW K G x v) (i : Nat) : RelEnv K G (ρ.set i (some x)) (σ.set i (some v)) := by
  refine ⟨by rw [List.length_set, List.length_set]; exact h.1, fun j y q => ?_⟩
  by_cases e : j = i
  · subst e
    have hl : j < ρ.length := by
      have := List.getElem?_eq_some_iff.mp q
      obtain ⟨z, _⟩ := this
      rw [List.length_set] at z; exact z
    rw [List.getElem?_set_self hl] at q
    cases q
    exact ⟨v, List.getElem?_set_self (by rw [← h.1]; exact hl), r⟩
  · rw [List.getElem?_set_ne (Ne.symm e)] at q ⊢
    exact h.2 j y q
theorem RelEnv.setN {K : PySem.W.Frag} {G : Hp} {ρ : Env} {σ : L2.St} (h : RelEnv K G ρ σ) (i : Nat) (o : Option V) : RelEnv K G (ρ.set i none) (σ.set i o) := by
  refine ⟨by rw [List.length_set, List.length_set]; exact h.1, fun j y q => ?_⟩
  by_cases e : j = i
  · subst e
    have hl : j < ρ.length := by
      obtain ⟨z, _⟩ := List.getElem?_eq_some_iff.mp q
      rw [List.length_set] at z; exact z
    rw [List.getElem?_set_self hl] at q
    cases q
  · rw [List.getElem?_set_ne (Ne.symm e)] at q ⊢
    exact h.2 j y q
def Cpt (K : PySem.W.Frag) (Wx : WX) (xq : XQ) (G : Hp) (M : MM) (H : Hp) : Prop :=
  ∀ cls d ρ' M' σ' G' H', Stp K G M H G' M' H' → RelEnv K G' ρ' σ' → xq cls d ρ' M' → Wx cls d σ' H'
structure Rl (K : PySem.W.Frag) (Wx : WX) (xq : XQ) (ρ : Env) (M : MM) (σ : L2.St) (G H : Hp) : Prop where
  env : RelEnv K G ρ σ
  sim : Sim K G M H
  cpt : Cpt K Wx xq G M H
section
variable {K : PySem.W.Frag} {Wx : WX} {xq : XQ} {ρ : Env} {M M' : MM} {σ : L2.St} {G G' H H' : Hp}
theorem Rl.next (r : Rl K Wx xq ρ M σ G H) (s : Stp K G M H G' M' H') : Rl K Wx xq ρ M' σ G' H' :=
  ⟨r.env.ext s.ex, s.sim, fun cls d ρ' M'' σ' G'' H'' s' e q => r.cpt cls d ρ' M'' σ' G'' H'' (s.trans s') e q⟩
theorem Rl.refl (r : Rl K Wx xq ρ M σ G H) : Stp K G M H G M H := Stp.refl r.sim
end
/-- what is asked of an end -/
abbrev KOk (K : PySem.W.Frag) (G : Hp) (M : MM) (H : Hp) (Q : KW) (R : VK) : Prop := ∀ v H' G' M' x, Stp K G M H G' M' H' → RelW K G' x v → Q x M' → R v H'
def SndE (K : PySem.W.Frag) (Wx : WX) (te : TE) (w : WE) : Prop := ∀ xq ρ M σ G H Q R, Rl K Wx xq ρ M σ G H → w xq ρ M Q → KOk K G M H Q R → te σ H R
def SndT (K : PySem.W.Frag) (Wx : WX) (te : TT) (w : WT) : Prop := ∀ xq ρ M σ G H (Q : Bool → MM → Prop) (R : Bool → Hp → Prop), Rl K Wx xq ρ M σ G H → w xq ρ M Q →
  (∀ b H' G' M', Stp K G M H G' M' H' → Q b M' → R b H') → te σ H R
def SndA (K : PySem.W.Frag) (Wx : WX) (te : TA) (w : WA) : Prop := ∀ xq ρ M σ G H (Q : List W → MM → Prop) (R : List V → Hp → Prop), Rl K Wx xq ρ M σ G H → w xq ρ M Q →
  (∀ vs H' G' M' xs, Stp K G M H G' M' H' → Paired (RelW K G') xs vs → Q xs M' → R vs H') → te σ H R
structure EOk (K : PySem.W.Frag) (G : Hp) (M : MM) (H : Hp) (D : DEnds) (E : Ends) : Prop where
  nx : ∀ ρ' M' σ' G' H', Stp K G M H G' M' H' → RelEnv K G' ρ' σ' → D.nx ρ' M' → E.nx σ' H'
  bk : ∀ ρ' M' σ' G' H', Stp K G M H G' M' H' → RelEnv K G' ρ' σ' → D.bk ρ' M' → E.bk σ' H'
  ct : ∀ ρ' M' σ' G' H', Stp K G M H G' M' H' → RelEnv K G' ρ' σ' → D.ct ρ' M' → E.ct σ' H'
  rt : KOk K G M H D.rt E.rt
theorem EOk.next {K : PySem.W.Frag} {G G' : Hp} {M M' : MM} {H H' : Hp} {D : DEnds} {E : Ends} (o : EOk K G M H D E) (s : Stp K G M H G' M' H') : EOk K G' M' H' D E :=
  ⟨fun _ _ _ _ _ t => o.nx _ _ _ _ _ (s.trans t), fun _ _ _ _ _ t => o.bk _ _ _ _ _ (s.trans t), fun _ _ _ _ _ t => o.ct _ _ _ _ _ (s.trans t), fun _ _ _ _ _ t => o.rt _ _ _ _ _ (s.trans t)⟩
def SndS (K : PySem.W.Frag) (Wx : WX) (ts : TS) (w : WS) : Prop := ∀ D ρ M σ G H E, Rl K Wx D.xq ρ M σ G H → w D ρ M → EOk K G M H D E → ts E σ H

/-! ### the judgements -/
structure DE (X : Cx) (Wx : WX) (e : Expr) (w : WE) : Prop where
  ex : ∃ te, PE X e te ∧ SndE X.K Wx te w
structure DT (X : Cx) (Wx : WX) (e : Expr) (w : WT) : Prop where
  ex : ∃ te, PT X e te ∧ SndT X.K Wx te w
structure DTW (X : Cx) (Wx : WX) (e : Expr) (w : WT) : Prop where
  ex : ∃ te, PW X e te ∧ SndT X.K Wx te w
structure DA (X : Cx) (Wx : WX) (es : List Expr) (w : WA) : Prop where
  ex : ∃ te, PA X es te ∧ SndA X.K Wx te w
structure DS (X : Cx) (Wx : WX) (s : Stmt) (w : WS) : Prop where
  ex : ∃ te, PS X s te ∧ SndS X.K Wx te w
structure DSs (X : Cx) (Wx : WX) (s : List Stmt) (w : WS) : Prop where
  ex : ∃ te, PSs X s te ∧ SndS X.K Wx te w

/-! ### seeing -/
def allD : List W → Option (List PyData)
  | [] => some []
  | .d x :: r => (allD r).map (x :: ·)
  | .r _ :: _ => none
theorem allD_map (ds : List PyData) : allD (ds.map W.d) = some ds := by
  induction ds with
  | nil => rfl
  | cons x r ih => show (allD (r.map W.d)).map (x :: ·) = _; rw [ih]; rfl
theorem allD_eq : ∀ {ws : List W} {ds : List PyData}, allD ws = some ds → ws = ds.map W.d
  | [], ds, h => by cases h; rfl
  | .d x :: r, ds, h => by
    have h' : (allD r).map (x :: ·) = some ds := h
    cases e : allD r with
    | none => rw [e] at h'; cases h'
    | some l => rw [e] at h'; cases h'; rw [allD_eq e]; rfl
  | .r _ :: r, ds, h => by cases h
def seeL (M : MM) : W → Option (List W)
  | .d (.list ds) => some (ds.map W.d)
  | .r (.ref p) => match M p with
    | some (.lst ws) => some ws
    | _ => none
  | _ => none
def seeT : W → Option (List PyData)
  | .d (.tuple ds) => some ds
  | _ => none
def seeD (M : MM) : W → Option PyData
  | .d x => some x
  | .r (.ref p) => match M p with
    | some (.lst ws) => (allD ws).map .list
    | _ => none
  | _ => none
section
variable {K : PySem.W.Frag} {G G' H H' : Hp} {M M' : MM} {x y : W} {v u : V}
theorem dps_paired : ∀ {vs : List V} {ds : List PyData}, DpAll K G vs ds → Paired (RelW K G) (ds.map W.d) vs
  | _, _, .nil => .nil
  | _, _, .cons h t => .cons h (dps_paired t)
theorem paired_dps : ∀ {ds : List PyData} {vs : List V}, Paired (RelW K G) (ds.map W.d) vs → DpAll K G vs ds
  | [], _, .nil => .nil
  | _ :: _, _, .cons h t => .cons h (paired_dps t)
theorem seeL_ok {ws : List W} (s : Sim K G M H) (r : RelW K G x v) (h : seeL M x = some ws) : ∃ p vs, v = .ref p ∧ SqL K H p vs ∧ Paired (RelW K G) ws vs := by
  cases x with
  | d d =>
    cases d <;> try (cases h)
    have r' : Dp K G v (.list _) := r
    cases r' with
    | lst a b => exact ⟨_, _, rfl, s.ex.l a, dps_paired b⟩
  | r z =>
    have e : z = v := r
    subst e
    cases z <;> try (cases h)
    rename_i p
    unfold seeL at h
    simp only at h
    cases e : M p with
    | none => rw [e] at h; cases h
    | some mo =>
      rw [e] at h
      cases mo <;> try (cases h)
      obtain ⟨_, ho, q, r2⟩ := s.own p _ e
      cases ho <;> try (exact r2.elim)
      exact ⟨p, _, rfl, .inl (.inl q), r2⟩
theorem seeT_ok {ds : List PyData} (s : Sim K G M H) (r : RelW K G x v) (h : seeT x = some ds) : ∃ p vs, v = .ref p ∧ SqT K H p vs ∧ SqT K G p vs ∧ DpAll K G vs ds := by
  cases x with
  | d d =>
    cases d <;> try (cases h)
    have r' : Dp K G v (.tuple _) := r
    cases r' with
    | tup a b => exact ⟨_, _, rfl, s.ex.t a, a, b⟩
  | r z => cases h
theorem seeD_ok {d : PyData} (s : Sim K G M H) (r : RelW K G x v) (h : seeD M x = some d) : Dp K H v d := by
  cases x with
  | d z =>
    cases h
    exact s.ex.dp r
  | r z =>
    have e : z = v := r
    subst e
    cases z <;> try (cases h)
    rename_i p
    unfold seeD at h
    simp only at h
    cases e : M p with
    | none => rw [e] at h; cases h
    | some mo =>
      rw [e] at h
      cases mo <;> try (cases h)
      rename_i ws
      simp only at h
      cases e2 : allD ws with
      | none => rw [e2] at h; cases h
      | some ds =>
        rw [e2] at h; cases h
        obtain ⟨_, ho, q, r2⟩ := s.own p _ e
        cases ho <;> try (exact r2.elim)
        have r3 : Paired (RelW K G) ws _ := r2
        rw [allD_eq e2] at r3
        exact .lst (.inl (.inl q)) (s.ex.dps (paired_dps r3))
theorem paired_len {α β : Type} {F : α → β → Prop} {xs : List α} {ys : List β} (h : Paired F xs ys) : xs.length = ys.length := Paired.length h
theorem paired_at {α β : Type} {F : α → β → Prop} : ∀ {xs : List α} {ys : List β} {i : Nat} {x : α}, Paired F xs ys → xs[i]? = some x → ∃ y, ys[i]? = some y ∧ F x y
  | _, _, _, _, .nil, h => by simp at h
  | _, _, 0, x, .cons a _, h => by
    simp at h; subst h
    exact ⟨_, rfl, a⟩
  | _, _, i + 1, x, .cons _ t, h => by
    have h' : _ := paired_at (i := i) (x := x) t (by simpa using h)
    obtain ⟨y, e, f⟩ := h'
    exact ⟨y, by simpa using e, f⟩
theorem paired_app {α β : Type} {F : α → β → Prop} : ∀ {xs xs' : List α} {ys ys' : List β}, Paired F xs ys → Paired F xs' ys' → Paired F (xs ++ xs') (ys ++ ys')
  | _, _, _, _, .nil, h => h
  | _, _, _, _, .cons a t, h => .cons a (paired_app t h)
theorem paired_drop {α β : Type} {F : α → β → Prop} : ∀ {xs : List α} {ys : List β} (n : Nat), Paired F xs ys → Paired F (xs.drop n) (ys.drop n)
  | _, _, 0, h => h
  | _, _, _ + 1, .nil => .nil
  | _, _, n + 1, .cons _ t => paired_drop n t
theorem paired_take {α β : Type} {F : α → β → Prop} : ∀ {xs : List α} {ys : List β} (n : Nat), Paired F xs ys → Paired F (xs.take n) (ys.take n)
  | _, _, 0, _ => .nil
  | _, _, _ + 1, .nil => .nil
  | _, _, n + 1, .cons a t => .cons a (paired_take n t)
theorem paired_set {α β : Type} {F : α → β → Prop} {x : α} {y : β} (f : F x y) : ∀ {xs : List α} {ys : List β} (n : Nat), Paired F xs ys → Paired F (xs.set n x) (ys.set n y)
  | _, _, _, .nil => .nil
  | _, _, 0, .cons _ t => .cons f t
  | _, _, n + 1, .cons a t => .cons a (paired_set f n t)
theorem paired_rev {α β : Type} {F : α → β → Prop} : ∀ {xs : List α} {ys : List β}, Paired F xs ys → Paired F xs.reverse ys.reverse
  | _, _, .nil => .nil
  | _, _, .cons a t => by
    rw [List.reverse_cons, List.reverse_cons]
    exact paired_app (paired_rev t) (.cons a .nil)

/-! ### new lists -/
/-- a new list: owned, or data at once -/
def mkL (o : Bool) (ws : List W) (M : MM) (Q : KW) : Prop :=
  if o then ∀ p, M p = none → Q (.r (.ref p)) (mset M p (.lst ws)) else match allD ws with
    | some ds => Q (.d (.list ds)) M
    | none => False
theorem mkL_ok {o : Bool} {ws : List W} {vs : List V} {Q : KW} {R : VK} (s : Sim K G M H) (r : Paired (RelW K G) ws vs) (h : mkL o ws M Q) (k : KOk K G M H Q R) : ∀ p, H p = none → R (.ref p) (upd H p (.lst vs)) := fun p hp => by
  cases o with
  | true =>
    have h' : ∀ p, M p = none → Q (.r (.ref p)) (mset M p (.lst ws)) := h
    exact k _ _ _ _ _ (Stp.new s hp (show RelMO K G (.lst ws) (.lst vs) from r)) rfl (h' p (s.free hp).1)
  | false =>
    unfold mkL at h
    simp only [Bool.false_eq_true, if_false] at h
    cases e : allD ws with
    | none => rw [e] at h; exact h.elim
    | some ds =>
      rw [e] at h
      have r2 := r
      rw [allD_eq e] at r2
      refine k _ _ _ _ _ (Stp.dat s hp) ?_ h
      exact .lst (.inl (.inl upd_same)) ((Ex.new (s.free hp).2).dps (paired_dps r2))
/-- a new tuple -/
def mkT (ws : List W) (M : MM) (Q : KW) : Prop := match allD ws with
  | some ds => Q (.d (.tuple ds)) M
  | none => False
theorem mkT_ok {ws : List W} {vs : List V} {Q : KW} {R : VK} (s : Sim K G M H) (r : Paired (RelW K G) ws vs) (h : mkT ws M Q) (k : KOk K G M H Q R) : ∀ p, H p = none → R (.ref p) (upd H p (.tup vs)) := fun p hp => by
  unfold mkT at h
  cases e : allD ws with
  | none => rw [e] at h; exact h.elim
  | some ds =>
    rw [e] at h
    have r2 := r
    rw [allD_eq e] at r2
    refine k _ _ _ _ _ (Stp.dat s hp) ?_ h
    exact .tup (.inl (.inl upd_same)) ((Ex.new (s.free hp).2).dps (paired_dps r2))
end
end DL
namespace DL
open PySem PySem.Spec PyProof.Rows L2

/-! ### expressions -/
section
variable {X : Cx} {Wx : WX}
def wVar (i : Nat) : WE := fun _ ρ M Q => match ρ[i]? with
  | some (some x) => Q x M
  | _ => False
theorem de_var (i : Nat) {x : Str} {pos : Pos} (hN : X.N[i]? = some x := by rfl) (hv : Vis X.env.scope x := by first | exact Or.inl rfl | exact Or.inr (Or.inl rfl) | exact Or.inr (Or.inr rfl)) (hd : (x == ("__debug__" : Str)) = false := by decide)
    (hcd : (x == ("__classdict__" : Str)) = false := by decide) : DE X Wx (.Name x pos) (wVar i) := by
  refine ⟨_, pe_var hN hv hd hcd, fun xq ρ M σ G H Q R r h k => ?_⟩
  unfold wVar at h
  cases e : ρ[i]? with
  | none => rw [e] at h; exact h.elim
  | some o =>
    cases o with
    | none => rw [e] at h; exact h.elim
    | some y =>
      rw [e] at h
      obtain ⟨v, e2, rv⟩ := r.env.2 i y e
      exact ⟨v, e2, k _ _ _ _ _ r.refl rv h⟩
def wC (x : W) : WE := fun _ _ M Q => Q x M
theorem sndC {x : W} {v : V} (h : ∀ G, RelW X.K G x v) : SndE X.K Wx (tC v) (wC x) := fun xq ρ M σ G H Q R r q k => k _ _ _ _ _ r.refl (h G) q
theorem de_int {i j pos} : DE X Wx (.Constant (.int i) j pos) (wC (.d (.int i))) := ⟨_, pe_int, sndC fun _ => Dp.int i⟩
theorem de_bl {b j pos} : DE X Wx (.Constant (.bool b) j pos) (wC (.d (.bool b))) := ⟨_, pe_bl, sndC fun _ => Dp.bl b⟩
theorem de_non {j pos} : DE X Wx (.Constant .none j pos) (wC (.d .none)) := ⟨_, pe_non, sndC fun _ => Dp.non⟩
theorem de_str {x j pos} : DE X Wx (.Constant (.str x) j pos) (wC (.d (.str x))) := ⟨_, pe_str, sndC fun _ => Dp.str x⟩
/-- a module's constant -/
theorem de_glob {x : Str} {y : W} {v : V} {u : Value} {pos : Pos} (hm : X.mg x = some u) (r : RelV v u) (h : ∀ G, RelW X.K G y v) (hg : Gl X x := by rfl) (hd : (x == ("__debug__" : Str)) = false := by decide) : DE X Wx (.Name x pos) (wC y) :=
  ⟨_, pe_glob hg hm r hd, sndC h⟩
theorem de_ty {x : Str} {T : String} {pos : Pos} (hm : X.mg x = none) (hv : bootBuiltins x = some (.type T) := by decide +kernel) (hg : Gl X x := by rfl) (hn : x ≠ "__name__" := by decide) (hd : (x == ("__debug__" : Str)) = false := by decide) : DE X Wx (.Name x pos) (wC (.r (.ty T))) :=
  ⟨_, pe_bltn (v := .ty T) hg hm hv rfl hn hd, sndC (v := .ty T) fun _ => rfl⟩

/-! two-place operations -/
abbrev WO := W → W → MM → KW → Prop
def SndO (K : PySem.W.Frag) (r : R2) (f : WO) : Prop := ∀ M G H x y v u Q R, Sim K G M H → RelW K G x v → RelW K G y u → f x y M Q → KOk K G M H Q R → r v u H R
def wOp (f : WO) (wa wb : WE) : WE := fun xq ρ M Q => wa xq ρ M fun x M1 => wb xq ρ M1 fun y M2 => f x y M2 Q
theorem sndOp {r : R2} {f : WO} {ta tb : TE} {wa wb : WE} (ho : SndO X.K r f) (ha : SndE X.K Wx ta wa) (hb : SndE X.K Wx tb wb) : SndE X.K Wx (tOp r ta tb) (wOp f wa wb) := fun xq ρ M σ G H Q R rl h k =>
  ha xq ρ M σ G H _ _ rl h fun v H1 G1 M1 x s1 r1 q1 => hb xq ρ M1 σ G1 H1 _ _ (rl.next s1) q1 fun u H2 G2 M2 y s2 r2 q2 =>
    ho M2 G2 H2 x y v u _ _ s2.sim (r1.ext s2.ex) r2 q2 fun v' H' G' M' z s3 => k v' H' G' M' z ((s1.trans s2).trans s3)
theorem de_op {op : Operator} {r : R2} {f : WO} {a b : Expr} {wa wb : WE} {pos : Pos} (hr : OpR X (binaryOp op) r) (ho : SndO X.K r f) (ha : DE X Wx a wa) (hb : DE X Wx b wb) : DE X Wx (.BinOp a op b pos) (wOp f wa wb) := by
  obtain ⟨ta, pa, sa⟩ := ha
  obtain ⟨tb, pb, sb⟩ := hb
  exact ⟨_, pe_op hr pa pb, sndOp ho sa sb⟩
theorem de_cmp {op : CmpOp} {r : R2} {f : WO} {a b : Expr} {wa wb : WE} {pos : Pos} (hr : OpR X (compareOp op) r) (ho : SndO X.K r f) (ha : DE X Wx a wa) (hb : DE X Wx b wb) (hm : behindInMarks op b = false := by first | exact nomark _ | rfl) : DE X Wx (.Compare a [op] [b] pos) (wOp f wa wb) := by
  obtain ⟨ta, pa, sa⟩ := ha
  obtain ⟨tb, pb, sb⟩ := hb
  exact ⟨_, pe_cmpR hr pa pb hm, sndOp ho sa sb⟩
/-- a comparison as a test -/
def wTest (w : WE) : WT := fun xq ρ M Q => w xq ρ M fun x M1 => match x with
  | .d (.bool b) => Q b M1
  | _ => False
theorem sndTest {te : TE} {w : WE} (h : SndE X.K Wx te w) : SndT X.K Wx (tTest te) (wTest w) := fun xq ρ M σ G H Q R rl hw k =>
  h xq ρ M σ G H _ _ rl hw fun v H1 G1 M1 x s1 r1 q1 => by
    cases x with
    | d d =>
      cases d <;> try (exact q1.elim)
      cases r1
      exact ⟨_, rfl, k _ _ _ _ s1 q1⟩
    | r z => exact q1.elim
theorem dt_cmp {op : CmpOp} {r : R2} {f : WO} {a b : Expr} {wa wb : WE} {pos : Pos} (hr : OpR X (compareOp op) r) (ho : SndO X.K r f) (ha : DE X Wx a wa) (hb : DE X Wx b wb) (hm : behindInMarks op b = false := by first | exact nomark _ | rfl) : DT X Wx (.Compare a [op] [b] pos) (wTest (wOp f wa wb)) := by
  obtain ⟨ta, pa, sa⟩ := ha
  obtain ⟨tb, pb, sb⟩ := hb
  exact ⟨_, pt_cmpR hr pa pb hm, sndTest (sndOp ho sa sb)⟩
theorem dt_val {e : Expr} {w : WE} (h : DE X Wx e w) (he : ∀ whole, isTrue e X.env whole = (do let v ← whole; standAt e.pos; holding [v] (truthy v)) := by intro _; rfl) : DT X Wx e (wTest w) := by
  obtain ⟨te, p, s⟩ := h
  exact ⟨_, pt_val p he, fun xq ρ M σ G H Q R rl hw k => sndTest s xq ρ M σ G H Q R rl hw k⟩

/-! ints -/
abbrev isInts (f : Int → Int → MM → KW → Prop) : WO := fun x y M Q => match x, y with
  | .d (.int i), .d (.int j) => f i j M Q
  | _, _ => False
theorem ints_of {K : PySem.W.Frag} {G : Hp} {f : Int → Int → MM → KW → Prop} {x y : W} {v u : V} {M : MM} {Q : KW} (r1 : RelW K G x v) (r2 : RelW K G y u) (h : isInts f x y M Q) : ∃ i j, v = .int i ∧ u = .int j ∧ f i j M Q := by
  cases x with
  | r z => exact h.elim
  | d d =>
    cases d <;> try (exact h.elim)
    cases y with
    | r z => exact h.elim
    | d d =>
      cases d <;> try (exact h.elim)
      cases r1
      cases r2
      exact ⟨_, _, rfl, rfl, h⟩
abbrev oSub : WO := isInts fun i j M Q => Q (.d (.int (i - j))) M
theorem so_sub : SndO X.K (rI0 fun i j => .int (i - j)) oSub := fun M G H x y v u Q R s r1 r2 h k => by
  obtain ⟨i, j, rfl, rfl, q⟩ := ints_of r1 r2 h
  exact ⟨i, j, rfl, rfl, k _ _ _ _ _ (Stp.refl s) (Dp.int _) q⟩
abbrev oMod : WO := isInts fun i j M Q => 0 < j ∧ Q (.d (.int (i % j))) M
theorem so_mod : SndO X.K (rI (fun _ j => 0 < j) fun i j => .int (i % j)) oMod := fun M G H x y v u Q R s r1 r2 h k => by
  obtain ⟨i, j, rfl, rfl, c, q⟩ := ints_of r1 r2 h
  exact ⟨i, j, rfl, rfl, c, k _ _ _ _ _ (Stp.refl s) (Dp.int _) q⟩
abbrev oDiv : WO := isInts fun i j M Q => (0 < j ∧ j < 1073741824) ∧ Q (.d (.int (i / j))) M
theorem so_div : SndO X.K (rI CDiv fun i j => .int (i / j)) oDiv := fun M G H x y v u Q R s r1 r2 h k => by
  obtain ⟨i, j, rfl, rfl, c, q⟩ := ints_of r1 r2 h
  exact ⟨i, j, rfl, rfl, c, k _ _ _ _ _ (Stp.refl s) (Dp.int _) q⟩
abbrev oPow : WO := isInts fun i j M Q => (0 ≤ j ∧ j ≤ 1000000 ∧ i.natAbs < 2 ^ 64) ∧ Q (.d (.int (i ^ j.toNat))) M
theorem so_pow : SndO X.K (rI CPow fun i j => .int (i ^ j.toNat)) oPow := fun M G H x y v u Q R s r1 r2 h k => by
  obtain ⟨i, j, rfl, rfl, c, q⟩ := ints_of r1 r2 h
  exact ⟨i, j, rfl, rfl, c, k _ _ _ _ _ (Stp.refl s) (Dp.int _) q⟩
/-- * of ints, one of them small -/
abbrev oMul : WO := isInts fun i j M Q => ((-(2 ^ 64) < i ∧ i < 2 ^ 64) ∨ (-(2 ^ 64) < j ∧ j < 2 ^ 64)) ∧ Q (.d (.int (i * j))) M
theorem so_mul : SndO X.K (rI CMul fun i j => .int (i * j)) oMul := fun M G H x y v u Q R s r1 r2 h k => by
  obtain ⟨i, j, rfl, rfl, c, q⟩ := ints_of r1 r2 h
  exact ⟨i, j, rfl, rfl, c, k _ _ _ _ _ (Stp.refl s) (Dp.int _) q⟩
/-- + : ints, tuples, texts -/
def oAdd : WO := fun x y M Q => match x, y with
  | .d (.int i), .d (.int j) => Q (.d (.int (i + j))) M
  | .d (.tuple a), .d (.tuple b) => a.length + b.length ≤ 16777216 ∧ Q (.d (.tuple (a ++ b))) M
  | .d (.str a), .d (.str b) => a.length + b.length ≤ 16777216 ∧ Q (.d (.str (a ++ b))) M
  | _, _ => False
def rAddA (K : PySem.W.Frag) : R2 := fun x y H Q => (rI0 (fun i j => .int (i + j))) x y H Q ∨ (rCatA K x y H Q ∨ ∃ i j, x = .str i ∧ y = .str j ∧ i.length + j.length ≤ sizeLine ∧ Q (.str (i ++ j)) H)
theorem op_addA : OpR X (binaryOp .Add) (rAddA X.K) := op_add.or (op_catA.or op_add_str)
theorem dps_len {K : PySem.W.Frag} {H : Hp} : ∀ {vs : List V} {ds : List PyData}, DpAll K H vs ds → vs.length = ds.length
  | _, _, .nil => rfl
  | _, _, .cons _ t => by rw [List.length_cons, List.length_cons, dps_len t]
theorem dps_app {K : PySem.W.Frag} {H : Hp} : ∀ {vs us : List V} {ds es : List PyData}, DpAll K H vs ds → DpAll K H us es → DpAll K H (vs ++ us) (ds ++ es)
  | _, _, _, _, .nil, h => h
  | _, _, _, _, .cons a t, h => .cons a (dps_app t h)
theorem so_add : SndO X.K (rAddA X.K) oAdd := fun M G H x y v u Q R s r1 r2 h k => by
  cases x with
  | r z => exact h.elim
  | d d =>
    cases y with
    | r z => cases d <;> exact h.elim
    | d e =>
      cases d <;> try (exact h.elim)
      · cases e <;> try (exact h.elim)
        cases r1; cases r2
        exact .inl ⟨_, _, rfl, rfl, k _ _ _ _ _ (Stp.refl s) (Dp.int _) h⟩
      · cases e <;> try (exact h.elim)
        cases r1; cases r2
        obtain ⟨c, q⟩ := h
        exact .inr (.inr ⟨_, _, rfl, rfl, by rw [sizeLine_eq]; exact c, k _ _ _ _ _ (Stp.refl s) (Dp.str _) q⟩)
      · cases e <;> try (exact h.elim)
        rename_i as bs
        obtain ⟨c, q⟩ := h
        obtain ⟨p, vs, rfl, t1, t1', d1⟩ := seeT_ok (ds := as) s r1 rfl
        obtain ⟨p', vs', rfl, t2, t2', d2⟩ := seeT_ok (ds := bs) s r2 rfl
        refine .inr (.inl ⟨p, p', vs, vs', rfl, rfl, t1, t2, by rw [sizeLine_eq, dps_len d1, dps_len d2]; exact c, fun e => ?_, fun e1 e2 => ?_, fun e1 e2 p'' hp => ?_⟩)
        · subst e
          cases d1
          exact k _ _ _ _ _ (Stp.refl s) (show RelW _ _ (.d (.tuple ([] ++ bs))) _ from .tup t2' d2) q
        · subst e2
          cases d2
          rw [List.append_nil] at q
          exact k _ _ _ _ _ (Stp.refl s) (show RelW _ _ (.d (.tuple as)) _ from .tup t1' d1) q
        · refine k _ _ _ _ _ (Stp.dat s hp) ?_ q
          exact .tup (.inl (.inl upd_same)) ((Ex.new (s.free hp).2).dps (dps_app d1 d2))
/-- + and * of lists that are owned -/
def ownL (M : MM) : W → Option (List W)
  | .r (.ref p) => match M p with
    | some (.lst ws) => some ws
    | _ => none
  | _ => none
theorem ownL_ok {K : PySem.W.Frag} {G H : Hp} {M : MM} {x : W} {v : V} {ws : List W} (s : Sim K G M H) (r : RelW K G x v) (h : ownL M x = some ws) : ∃ p vs, x = .r (.ref p) ∧ v = .ref p ∧ M p = some (.lst ws) ∧ H p = some (.lst vs) ∧ Paired (RelW K G) ws vs := by
  cases x with
  | d d => cases h
  | r z =>
    have e : z = v := r
    subst e
    cases z <;> try (cases h)
    rename_i p
    unfold ownL at h
    simp only at h
    cases e : M p with
    | none => rw [e] at h; cases h
    | some mo =>
      rw [e] at h
      cases mo <;> try (cases h)
      obtain ⟨_, ho, q, r2⟩ := s.own p _ e
      cases ho <;> try (exact r2.elim)
      exact ⟨p, _, rfl, rfl, e, q, r2⟩
def rCatL (K : PySem.W.Frag) : R2 := fun x y H Q => ∃ l b xs zs, x = .ref l ∧ y = .ref b ∧ SqL K H l xs ∧ SqL K H b zs ∧ xs.length + zs.length ≤ sizeLine ∧ ∀ p, H p = none → Q (.ref p) (upd H p (.lst (xs ++ zs)))
theorem op_catL : OpR X (binaryOp .Add) (rCatL X.K) := by
  intro pins s σ H x y v u Q I rx ry h
  obtain ⟨l, b, xs, zs, rfl, rfl, hH, hB, hz, q⟩ := h
  cases rx
  cases ry
  obtain ⟨its, r, ⟨⟨cls, dd, data, sl⟩, n, ho, hc, hdd, hd⟩, hl⟩ := I.list hH
  obtain ⟨its2, r2, ⟨⟨cls2, dd2, data2, sl2⟩, n2, ho2, hc2, hdd2, hd2⟩, hl2⟩ := I.list hB
  simp only at hc hd hdd hc2 hd2 hdd2
  subst hc hd hdd hc2 hd2 hdd2
  have e1 := r.length
  have e2 := r2.length
  refine PySem.concat_meets ⟨_, ho, rfl⟩ ⟨_, ho2, rfl⟩ PySem.noFill_list_add PySem.seq_list_add PySem.F.slot_list_add PySem.F.entry_list_add (PySem.F.args_list_add_2 _ _) (list_addW l b its.toArray its2.toArray n n2 none none sl sl2 (by rw [List.size_toArray, List.size_toArray]; omega)) ⟨ho, ho2, ?_⟩
  have ea : its.toArray ++ its2.toArray = (its ++ its2).toArray := by simp
  rw [ea]
  exact ⟨.ref _, _, I.lnew (t' := s.toks) (r.append r2) (by rw [List.length_append]; omega), rfl, q _ I.fresh⟩
def oCat (o : Bool) : WO := fun x y M Q => match seeL M x, seeL M y with
  | some a, some b => a.length + b.length ≤ 16777216 ∧ mkL o (a ++ b) M Q
  | _, _ => False
theorem so_cat {o : Bool} : SndO X.K (rCatL X.K) (oCat o) := fun M G H x y v u Q R s r1 r2 h k => by
  unfold oCat at h
  cases e1 : seeL M x with
  | none => rw [e1] at h; exact h.elim
  | some a =>
    cases e2 : seeL M y with
    | none => rw [e1, e2] at h; exact h.elim
    | some b =>
      rw [e1, e2] at h
      obtain ⟨c, q⟩ := h
      obtain ⟨p, vs, rfl, h1, d1⟩ := seeL_ok s r1 e1
      obtain ⟨p', vs', rfl, h2, d2⟩ := seeL_ok s r2 e2
      exact ⟨p, p', vs, vs', rfl, rfl, h1, h2, by rw [sizeLine_eq, ← paired_len d1, ← paired_len d2]; exact c, mkL_ok s (paired_app d1 d2) q k⟩
theorem paired_rep {α β : Type} {F : α → β → Prop} {xs : List α} {ys : List β} (h : Paired F xs ys) : ∀ n : Nat, Paired F (List.replicate n xs).flatten (List.replicate n ys).flatten
  | 0 => .nil
  | n + 1 => by
    rw [List.replicate_succ, List.replicate_succ, List.flatten_cons, List.flatten_cons]
    exact paired_app h (paired_rep h n)
theorem mulL (l : Addr) (xs : Array Value) (n : Nat) (m : Int) (u : Tok) (dd : Option Addr) (sl : Array (Option Value)) (h0 : ¬(!Builtin.List.listFitsIndex m) = true) (h1 : ¬xs.size * m.toNat > (2 ^ 63 - 1) / 8) (h2 : ¬Builtin.List.listTooLong (xs.size * m.toNat) = true) :
    Meets (Builtin.«list.__mul__» ⟨[.ref l, .int m u], []⟩) (fun _ R s => s.heap.get? l = some { cls := .type "list", dict := dd, data := .seq xs n, slots := sl } ∧
      R (.ok (.ret (Value.ref s.heap.objs.size))) { s with heap := s.heap.push { cls := Value.type "list", data := Data.seq (List.foldl (fun x1 x2 => x1 ++ x2) #[] (List.replicate (if xs.isEmpty = true then 0 else m.toNat) xs)) }, toks := s.toks }) :=
  .of_wp fun prog w A R s h => by
    obtain ⟨hp, g, d, tk, os⟩ := s
    obtain ⟨hl, h⟩ := h
    have hz := AutoListH.joined_fits h2
    have f1 := AutoSeq1.idx_int
    wp_walk using AutoSeq1.wpAny_loadPart' hl
    refine wpAny_ite_false (decide_eq_false (Nat.not_lt.mpr hz)) ?_
    wp_walk
    exact ⟨_, rfl, h⟩
theorem rmulL (m : Int) (t : Tok) (l : Addr) (xs : Array Value) (n : Nat) (dd : Option Addr) (sl : Array (Option Value)) :
    Meets (Builtin.«int.__rmul__» ⟨[.int m t, .ref l], []⟩) (fun _ R s => s.heap.get? l = some { cls := .type "list", dict := dd, data := .seq xs n, slots := sl } ∧ R (.ok (.ret Value.notImplemented)) s) :=
  .of_wp fun prog w A R s h => by
    obtain ⟨hp, g, d, tk, os⟩ := s
    obtain ⟨hl, h⟩ := h
    wp_walk using AutoSeq1.wpAny_loadPart' hl
    exact ⟨_, rfl, h⟩
def rRepL (K : PySem.W.Frag) : R2 := fun x y H Q => ∃ l k xs, x = .ref l ∧ y = .int k ∧ SqL K H l xs ∧ 0 ≤ k ∧ k < 2 ^ 62 ∧ xs.length * k.toNat ≤ sizeLine ∧ ∀ p, H p = none → Q (.ref p) (upd H p (.lst (List.replicate k.toNat xs).flatten))
theorem fold_flat (its : List Value) : ∀ (m : Nat) (acc : List Value), List.foldl (fun x1 x2 => x1 ++ x2) acc.toArray (List.replicate m its.toArray) = (acc ++ (List.replicate m its).flatten).toArray
  | 0, acc => by simp
  | m + 1, acc => by
    rw [List.replicate_succ, List.foldl_cons, List.replicate_succ, List.flatten_cons, ← List.append_assoc, ← fold_flat its m (acc ++ its)]
    simp
theorem op_repL : OpR X (binaryOp .Mult) (rRepL X.K) := by
  intro pins s σ H x y v u Q I rx ry h
  obtain ⟨l, k, xs, rfl, rfl, hH, h1, h2, hz, q⟩ := h
  cases rx
  obtain ⟨t, rfl⟩ := ry
  obtain ⟨its, r, ⟨⟨cls, dd, data, sl⟩, n, ho, hc, hdd, hd⟩, hl⟩ := I.list hH
  simp only at hc hd hdd
  subst hc hd hdd
  have e1 := r.length
  have hz2 : its.toArray.size * k.toNat ≤ sizeLine := by rw [List.size_toArray, ← e1]; exact hz
  have b1 : ¬ its.toArray.size * k.toNat > (2 ^ 63 - 1) / 8 := by
    have : (sizeLine : Nat) ≤ (2 ^ 63 - 1) / 8 := by decide
    omega
  have b2 : ¬ (!Builtin.List.listFitsIndex k) = true := by
    rw [fitsIndex_both (by omega) (by omega)]
    exact Bool.false_ne_true
  have b3 : ¬ Builtin.List.listTooLong (its.toArray.size * k.toNat) = true := by
    rw [notLongL hz2]
    exact Bool.false_ne_true
  have ef : List.foldl (fun x1 x2 => x1 ++ x2) #[] (List.replicate (if its.toArray.isEmpty = true then 0 else k.toNat) its.toArray) = (List.replicate k.toNat its).flatten.toArray := by
    have e := fold_flat its
    cases its with
    | nil => simp
    | cons a r' => rw [if_neg (by simp)]; exact e _ []
  have ty : s.TypeIs (.ref l) "list" := ⟨_, ho, rfl⟩
  refine wpAny_binaryOp_repeat_ref (T := "list") (U := "int") (by decide) ty (fun s' => typeIs_int s' k t) noFill_list_mul F.fills_int_mul F.slot_int_rmul repeat_list F.slot_int_index.lookup ?_
  refine call_meets F.slot_int_rmul (typeIs_int s k t) F.entry_int_rmul (F.args_int_rmul_2 _ _) (rmulL k t l its.toArray n none sl) ⟨ho, rfl, ty, ?_⟩
  refine call_meets F.slot_list_mul ty F.entry_list_mul (F.args_list_mul_2 _ _) (mulL l its.toArray n k t none sl b2 b1 b3) ⟨ho, ?_⟩
  rw [ef]
  exact ⟨.ref _, _, I.lnew (t' := s.toks) (r.rep k.toNat) (by rw [PyProof.Rows.lm_len_rep_flat, Nat.mul_comm]; exact hz), rfl, q _ I.fresh⟩
def oRep (o : Bool) : WO := fun x y M Q => match seeL M x, y with
  | some a, .d (.int n) => (0 ≤ n ∧ n < 2 ^ 62 ∧ a.length * n.toNat ≤ 16777216) ∧ mkL o (List.replicate n.toNat a).flatten M Q
  | _, _ => False
theorem so_rep {o : Bool} : SndO X.K (rRepL X.K) (oRep o) := fun M G H x y v u Q R s r1 r2 h k => by
  unfold oRep at h
  cases e1 : seeL M x with
  | none => rw [e1] at h; exact h.elim
  | some a =>
    rw [e1] at h
    cases y with
    | r z => exact h.elim
    | d d =>
      cases d <;> try (exact h.elim)
      rename_i n
      cases r2
      obtain ⟨⟨c1, c2, c3⟩, q⟩ := h
      obtain ⟨p, vs, rfl, h1, d1⟩ := seeL_ok s r1 e1
      exact ⟨p, n, vs, rfl, rfl, h1, by omega, by omega, by rw [sizeLine_eq, ← paired_len d1]; exact c3, mkL_ok s (paired_rep d1 _) q k⟩

/-! comparisons -/
abbrev oB (p : Int → Int → Bool) : WO := isInts fun i j M Q => Q (.d (.bool (p i j))) M
theorem so_b {p : Int → Int → Bool} : SndO X.K (rI0 fun i j => .bl (p i j)) (oB p) := fun M G H x y v u Q R s r1 r2 h k => by
  obtain ⟨i, j, rfl, rfl, q⟩ := ints_of r1 r2 h
  exact ⟨i, j, rfl, rfl, k _ _ _ _ _ (Stp.refl s) (Dp.bl _) q⟩
abbrev oLt : WO := oB fun i j => decide (i < j)
abbrev oLe : WO := oB fun i j => decide (i ≤ j)
abbrev oGt : WO := oB fun i j => decide (j < i)
abbrev oGe : WO := oB fun i j => decide (j ≤ i)
theorem so_lt : SndO X.K (rI0 fun i j => .bl (decide (i < j))) oLt := so_b
theorem so_le : SndO X.K (rI0 fun i j => .bl (decide (i ≤ j))) oLe := so_b
theorem so_gt : SndO X.K (rI0 fun i j => .bl (decide (j < i))) oGt := so_b
theorem so_ge : SndO X.K (rI0 fun i j => .bl (decide (j ≤ i))) oGe := so_b
/-- == of data -/
def oEq (neg : Bool) : WO := fun x y M Q => match seeD M x, seeD M y with
  | some d, some e => SeqAt.shaped d = true ∧ SeqAt.shaped e = true ∧ Q (.d (.bool (if neg then !PyData.eqv d e else PyData.eqv d e))) M
  | _, _ => False
theorem so_eq : SndO X.K (rEqD X.K) (oEq false) := fun M G H x y v u Q R s r1 r2 h k => by
  unfold oEq at h
  cases e1 : seeD M x with
  | none => rw [e1] at h; exact h.elim
  | some d =>
    cases e2 : seeD M y with
    | none => rw [e1, e2] at h; exact h.elim
    | some e =>
      rw [e1, e2] at h
      obtain ⟨c1, c2, q⟩ := h
      exact ⟨d, e, seeD_ok s r1 e1, seeD_ok s r2 e2, c1, c2, k _ _ _ _ _ (Stp.refl s) (Dp.bl _) q⟩
theorem so_ne : SndO X.K (rNeD X.K) (oEq true) := fun M G H x y v u Q R s r1 r2 h k => by
  unfold oEq at h
  cases e1 : seeD M x with
  | none => rw [e1] at h; exact h.elim
  | some d =>
    cases e2 : seeD M y with
    | none => rw [e1, e2] at h; exact h.elim
    | some e =>
      rw [e1, e2] at h
      obtain ⟨c1, c2, q⟩ := h
      exact ⟨d, e, seeD_ok s r1 e1, seeD_ok s r2 e2, c1, c2, k _ _ _ _ _ (Stp.refl s) (Dp.bl _) q⟩
def isNon : W → Bool
  | .d .none => true
  | _ => false
/-- is None -/
def oIsN (neg : Bool) : WO := fun x y M Q => match x, y with
  | .d d, .d .none => Q (.d (.bool (if neg then !isNon (.d d) else isNon (.d d)))) M
  | _, _ => False
theorem isNon_ok {K : PySem.W.Frag} {G : Hp} {d : PyData} {v : V} (r : Dp K G v d) : decide (v = .non) = isNon (.d d) := by
  cases r <;> rfl
theorem so_isN : SndO X.K (fun x y H Q => y = .non ∧ Q (.bl (decide (x = .non))) H) (oIsN false) := fun M G H x y v u Q R s r1 r2 h k => by
  cases x with
  | r z => exact h.elim
  | d d =>
    cases y with
    | r z => cases d <;> exact h.elim
    | d e =>
      cases e <;> try (cases d <;> exact h.elim)
      cases r2
      have r1' : Dp X.K G v d := r1
      refine ⟨rfl, ?_⟩
      rw [isNon_ok r1']
      have h' : Q (.d (.bool (isNon (.d d)))) M := h
      exact k _ _ _ _ _ (Stp.refl s) (Dp.bl _) h'
theorem so_notN : SndO X.K (fun x y H Q => y = .non ∧ Q (.bl (!decide (x = .non))) H) (oIsN true) := fun M G H x y v u Q R s r1 r2 h k => by
  cases x with
  | r z => exact h.elim
  | d d =>
    cases y with
    | r z => cases d <;> exact h.elim
    | d e =>
      cases e <;> try (cases d <;> exact h.elim)
      cases r2
      have r1' : Dp X.K G v d := r1
      refine ⟨rfl, ?_⟩
      rw [isNon_ok r1']
      have h' : Q (.d (.bool (!isNon (.d d)))) M := h
      exact k _ _ _ _ _ (Stp.refl s) (Dp.bl _) h'
/-- is True, of bools -/
def oIsB (neg : Bool) : WO := fun x y M Q => match x, y with
  | .d (.bool a), .d (.bool b) => Q (.d (.bool (if neg then !decide (a = b) else decide (a = b)))) M
  | _, _ => False
theorem so_isB : SndO X.K rIsB (oIsB false) := fun M G H x y v u Q R s r1 r2 h k => by
  cases x with
  | r z => exact h.elim
  | d d =>
    cases y with
    | r z => cases d <;> exact h.elim
    | d e =>
      cases d <;> try (exact h.elim)
      cases e <;> try (exact h.elim)
      cases r1; cases r2
      exact ⟨_, _, rfl, rfl, k _ _ _ _ _ (Stp.refl s) (Dp.bl _) h⟩
theorem so_notB : SndO X.K rNotB (oIsB true) := fun M G H x y v u Q R s r1 r2 h k => by
  cases x with
  | r z => exact h.elim
  | d d =>
    cases y with
    | r z => cases d <;> exact h.elim
    | d e =>
      cases d <;> try (exact h.elim)
      cases e <;> try (exact h.elim)
      cases r1; cases r2
      exact ⟨_, _, rfl, rfl, k _ _ _ _ _ (Stp.refl s) (Dp.bl _) h⟩
/-- x in a list or tuple of flat things -/
def flatD : PyData → Bool
  | .none | .bool _ | .int _ | .str _ => true
  | _ => false
def seeS (M : MM) (x : W) : Option (List PyData) := match seeD M x with
  | some (.list ds) => some ds
  | some (.tuple ds) => some ds
  | _ => none
def oIn (neg : Bool) : WO := fun x y M Q => match x, seeS M y with
  | .d d, some ds => flatD d = true ∧ ds.all flatD = true ∧ Q (.d (.bool (if neg then !(ds.any fun z => PyData.eqv z d) else ds.any fun z => PyData.eqv z d))) M
  | _, _ => False
theorem flat_ok {K : PySem.W.Frag} {G : Hp} {d : PyData} {v : V} (r : Dp K G v d) (h : flatD d = true) : flatV v = true := by
  cases r <;> first | rfl | cases h
theorem flats_ok {K : PySem.W.Frag} {G : Hp} : ∀ {ds : List PyData} {vs : List V}, DpAll K G vs ds → ds.all flatD = true → vs.all flatV = true
  | _, _, .nil, _ => rfl
  | _, _, .cons a t, h => by
    rw [List.all_cons, Bool.and_eq_true] at h ⊢
    exact ⟨flat_ok a h.1, flats_ok t h.2⟩
theorem eqv_flat {K : PySem.W.Frag} {G H : Hp} {d e : PyData} {v u : V} (r1 : Dp K G v d) (r2 : Dp K H u e) (h1 : flatD d = true) (h2 : flatD e = true) : eqV v u = PyData.eqv d e := by
  cases r1 <;> (first | cases h1 | skip) <;> cases r2 <;> (first | cases h2 | skip) <;> (first | rfl | simp [eqV, PyData.eqv])
theorem inV_ok {K : PySem.W.Frag} {G H : Hp} {d : PyData} {v : V} (r1 : Dp K G v d) (h1 : flatD d = true) : ∀ {ds : List PyData} {vs : List V}, DpAll K H vs ds → ds.all flatD = true → inV v vs = ds.any fun z => PyData.eqv z d
  | _, _, .nil, _ => rfl
  | _, _, .cons a t, h => by
    rw [List.all_cons, Bool.and_eq_true] at h
    unfold inV
    rw [List.any_cons, List.any_cons, eqv_flat a r1 h.1 h1]
    have := inV_ok r1 h1 t h.2
    unfold inV at this
    rw [this]
theorem seeS_ok {K : PySem.W.Frag} {G H : Hp} {M : MM} {x : W} {v : V} {ds : List PyData} (s : Sim K G M H) (r : RelW K G x v) (h : seeS M x = some ds) : ∃ p vs, v = .ref p ∧ (SqL K H p vs ∨ SqT K H p vs) ∧ DpAll K H vs ds := by
  unfold seeS at h
  cases e : seeD M x with
  | none => rw [e] at h; cases h
  | some d =>
    rw [e] at h
    have q := seeD_ok s r e
    cases d <;> try (cases h)
    · cases q with
      | lst a b => exact ⟨_, _, rfl, .inl a, b⟩
    · cases q with
      | tup a b => exact ⟨_, _, rfl, .inr a, b⟩
theorem so_in {neg : Bool} : SndO X.K (rIn X.K neg) (oIn neg) := fun M G H x y v u Q R s r1 r2 h k => by
  unfold oIn at h
  cases x with
  | r z => exact h.elim
  | d d =>
    cases e2 : seeS M y with
    | none => rw [e2] at h; exact h.elim
    | some ds =>
      rw [e2] at h
      obtain ⟨c1, c2, q⟩ := h
      obtain ⟨p, vs, rfl, sq, dd⟩ := seeS_ok s r2 e2
      have r1' : Dp X.K G v d := r1
      refine ⟨p, vs, rfl, sq, flat_ok r1' c1, flats_ok dd c2, ?_⟩
      rw [inV_ok r1' c1 dd c2]
      have q' : Q (.d (.bool (if neg = true then !(ds.any fun z => PyData.eqv z d) else ds.any fun z => PyData.eqv z d))) M := q
      exact k _ _ _ _ _ (Stp.refl s) (Dp.bl _) q'

/-! and, or, not; if .. else -/
def wAndT (a b : WT) : WT := fun xq ρ M Q => a xq ρ M fun c M1 => if c = true then b xq ρ M1 Q else Q false M1
def wOrT (a b : WT) : WT := fun xq ρ M Q => a xq ρ M fun c M1 => if c = true then Q true M1 else b xq ρ M1 Q
def wNotT (a : WT) : WT := fun xq ρ M Q => a xq ρ M fun c M1 => Q (!c) M1
theorem dtw_and1 {a : Expr} {wa : WT} {pos : Pos} (h : DT X Wx a wa) : DTW X Wx (.BoolOp .And [a] pos) wa := by
  obtain ⟨t, p, s⟩ := h
  exact ⟨_, pw_and1 p, s⟩
theorem dtw_or1 {a : Expr} {wa : WT} {pos : Pos} (h : DT X Wx a wa) : DTW X Wx (.BoolOp .Or [a] pos) wa := by
  obtain ⟨t, p, s⟩ := h
  exact ⟨_, pw_or1 p, s⟩
theorem dtw_and {a b : Expr} {rest : List Expr} {wa wb : WT} {pos : Pos} (ha : DT X Wx a wa) (hb : DTW X Wx (.BoolOp .And (b :: rest) pos) wb) : DTW X Wx (.BoolOp .And (a :: b :: rest) pos) (wAndT wa wb) := by
  obtain ⟨ta, pa, sa⟩ := ha
  obtain ⟨tb, pb, sb⟩ := hb
  refine ⟨_, pw_and pa pb, fun xq ρ M σ G H Q R rl h k => ?_⟩
  refine sa xq ρ M σ G H _ _ rl h fun c H1 G1 M1 s1 q1 => ?_
  cases c with
  | true =>
    show tb σ H1 R
    exact sb xq ρ M1 σ G1 H1 _ _ (rl.next s1) q1 fun b H' G' M' s2 => k b H' G' M' (s1.trans s2)
  | false =>
    show R false H1
    exact k _ _ _ _ s1 q1
theorem dtw_or {a b : Expr} {rest : List Expr} {wa wb : WT} {pos : Pos} (ha : DT X Wx a wa) (hb : DTW X Wx (.BoolOp .Or (b :: rest) pos) wb) : DTW X Wx (.BoolOp .Or (a :: b :: rest) pos) (wOrT wa wb) := by
  obtain ⟨ta, pa, sa⟩ := ha
  obtain ⟨tb, pb, sb⟩ := hb
  refine ⟨_, pw_or pa pb, fun xq ρ M σ G H Q R rl h k => ?_⟩
  refine sa xq ρ M σ G H _ _ rl h fun c H1 G1 M1 s1 q1 => ?_
  cases c with
  | false =>
    show tb σ H1 R
    exact sb xq ρ M1 σ G1 H1 _ _ (rl.next s1) q1 fun b H' G' M' s2 => k b H' G' M' (s1.trans s2)
  | true =>
    show R true H1
    exact k _ _ _ _ s1 q1
theorem DTW.dt {e : Expr} {w : WT} (h : DTW X Wx e w) : DT X Wx e w := by
  obtain ⟨t, p, s⟩ := h
  exact ⟨_, p.pt, s⟩
theorem dt_not {a : Expr} {wa : WT} {pos : Pos} (h : DT X Wx a wa) : DT X Wx (.UnaryOp .Not a pos) (wNotT wa) := by
  obtain ⟨t, p, s⟩ := h
  refine ⟨_, pt_not p, fun xq ρ M σ G H Q R rl hw k => ?_⟩
  exact s xq ρ M σ G H _ _ rl hw fun c H1 G1 M1 s1 q1 => k _ _ _ _ s1 q1
/-- as values: bools -/
def wAndV (a b : WE) : WE := fun xq ρ M Q => a xq ρ M fun x M1 => match x with
  | .d (.bool c) => if c = true then b xq ρ M1 Q else Q (.d (.bool false)) M1
  | _ => False
def wOrV (a b : WE) : WE := fun xq ρ M Q => a xq ρ M fun x M1 => match x with
  | .d (.bool c) => if c = true then Q (.d (.bool true)) M1 else b xq ρ M1 Q
  | _ => False
def wNotV (a : WE) : WE := fun xq ρ M Q => a xq ρ M fun x M1 => match x with
  | .d (.bool c) => Q (.d (.bool (!c))) M1
  | _ => False
theorem de_one {op} {a : Expr} {w : WE} {pos : Pos} (h : DE X Wx a w) : DE X Wx (.BoolOp op [a] pos) w := by
  obtain ⟨t, p, s⟩ := h
  exact ⟨_, pe_one p, s⟩
theorem de_and {a b : Expr} {rest : List Expr} {wa wb : WE} {pos : Pos} (ha : DE X Wx a wa) (hb : DE X Wx (.BoolOp .And (b :: rest) pos) wb) : DE X Wx (.BoolOp .And (a :: b :: rest) pos) (wAndV wa wb) := by
  obtain ⟨ta, pa, sa⟩ := ha
  obtain ⟨tb, pb, sb⟩ := hb
  refine ⟨_, pe_and pa pb, fun xq ρ M σ G H Q R rl h k => ?_⟩
  refine sa xq ρ M σ G H _ _ rl h fun v H1 G1 M1 x s1 r1 q1 => ?_
  cases x with
  | r z => exact q1.elim
  | d d =>
    cases d <;> try (exact q1.elim)
    rename_i c
    cases r1
    refine ⟨c, rfl, ?_⟩
    cases c with
    | true =>
      show tb σ H1 R
      exact sb xq ρ M1 σ G1 H1 _ _ (rl.next s1) q1 fun v' H' G' M' x' s2 => k v' H' G' M' x' (s1.trans s2)
    | false =>
      show R (.bl false) H1
      exact k _ _ _ _ _ s1 (Dp.bl _) q1
theorem de_or {a b : Expr} {rest : List Expr} {wa wb : WE} {pos : Pos} (ha : DE X Wx a wa) (hb : DE X Wx (.BoolOp .Or (b :: rest) pos) wb) : DE X Wx (.BoolOp .Or (a :: b :: rest) pos) (wOrV wa wb) := by
  obtain ⟨ta, pa, sa⟩ := ha
  obtain ⟨tb, pb, sb⟩ := hb
  refine ⟨_, pe_or pa pb, fun xq ρ M σ G H Q R rl h k => ?_⟩
  refine sa xq ρ M σ G H _ _ rl h fun v H1 G1 M1 x s1 r1 q1 => ?_
  cases x with
  | r z => exact q1.elim
  | d d =>
    cases d <;> try (exact q1.elim)
    rename_i c
    cases r1
    refine ⟨c, rfl, ?_⟩
    cases c with
    | false =>
      show tb σ H1 R
      exact sb xq ρ M1 σ G1 H1 _ _ (rl.next s1) q1 fun v' H' G' M' x' s2 => k v' H' G' M' x' (s1.trans s2)
    | true =>
      show R (.bl true) H1
      exact k _ _ _ _ _ s1 (Dp.bl _) q1
theorem de_not {a : Expr} {wa : WE} {pos : Pos} (h : DE X Wx a wa) : DE X Wx (.UnaryOp .Not a pos) (wNotV wa) := by
  obtain ⟨t, p, s⟩ := h
  refine ⟨_, pe_not p, fun xq ρ M σ G H Q R rl hw k => ?_⟩
  refine s xq ρ M σ G H _ _ rl hw fun v H1 G1 M1 x s1 r1 q1 => ?_
  cases x with
  | r z => exact q1.elim
  | d d =>
    cases d <;> try (exact q1.elim)
    cases r1
    exact ⟨_, rfl, k _ _ _ _ _ s1 (Dp.bl _) q1⟩
def wIfE (t : WT) (a b : WE) : WE := fun xq ρ M Q => t xq ρ M fun c M1 => if c = true then a xq ρ M1 Q else b xq ρ M1 Q
theorem de_if {c a b : Expr} {wc : WT} {wa wb : WE} {pos : Pos} (hc : DT X Wx c wc) (ha : DE X Wx a wa) (hb : DE X Wx b wb) : DE X Wx (.IfExp c a b pos) (wIfE wc wa wb) := by
  obtain ⟨tc, pc, sc⟩ := hc
  obtain ⟨ta, pa, sa⟩ := ha
  obtain ⟨tb, pb, sb⟩ := hb
  refine ⟨_, pe_ifExp pc pa pb, fun xq ρ M σ G H Q R rl h k => ?_⟩
  refine sc xq ρ M σ G H _ _ rl h fun c H1 G1 M1 s1 q1 => ?_
  cases c with
  | true =>
    show ta σ H1 R
    exact sa xq ρ M1 σ G1 H1 _ _ (rl.next s1) q1 fun v' H' G' M' x' s2 => k v' H' G' M' x' (s1.trans s2)
  | false =>
    show tb σ H1 R
    exact sb xq ρ M1 σ G1 H1 _ _ (rl.next s1) q1 fun v' H' G' M' x' s2 => k v' H' G' M' x' (s1.trans s2)

/-! unary minus, arguments, displays -/
def wNeg (a : WE) : WE := fun xq ρ M Q => a xq ρ M fun x M1 => match x with
  | .d (.int i) => Q (.d (.int (-i))) M1
  | _ => False
theorem de_neg {a : Expr} {wa : WE} {pos : Pos} (h : DE X Wx a wa) : DE X Wx (.UnaryOp .USub a pos) (wNeg wa) := by
  obtain ⟨t, p, s⟩ := h
  refine ⟨_, pe_un un_neg p, fun xq ρ M σ G H Q R rl hw k => ?_⟩
  refine s xq ρ M σ G H _ _ rl hw fun v H1 G1 M1 x s1 r1 q1 => ?_
  cases x with
  | r z => exact q1.elim
  | d d =>
    cases d <;> try (exact q1.elim)
    cases r1
    exact ⟨_, rfl, k _ _ _ _ _ s1 (Dp.int _) q1⟩
def wNil : WA := fun _ _ M Q => Q [] M
def wCons (a : WE) (r : WA) : WA := fun xq ρ M Q => a xq ρ M fun x M1 => r xq ρ M1 fun xs M2 => Q (x :: xs) M2
theorem da_nil : DA X Wx [] wNil := ⟨_, pa_nil, fun xq ρ M σ G H Q R rl h k => k _ _ _ _ _ rl.refl .nil h⟩
theorem da_cons {e : Expr} {es : List Expr} {wa : WE} {wr : WA} (ha : DE X Wx e wa) (hr : DA X Wx es wr) (hs : starEach (e :: es) X.env = (false, eval e X.env) :: starEach es X.env := by rfl) : DA X Wx (e :: es) (wCons wa wr) := by
  obtain ⟨ta, pa, sa⟩ := ha
  obtain ⟨tr, pr, sr⟩ := hr
  refine ⟨_, pa_cons pa pr hs, fun xq ρ M σ G H Q R rl h k => ?_⟩
  refine sa xq ρ M σ G H _ _ rl h fun v H1 G1 M1 x s1 r1 q1 => ?_
  exact sr xq ρ M1 σ G1 H1 _ _ (rl.next s1) q1 fun vs H2 G2 M2 xs s2 r2 q2 => k _ _ _ _ _ (s1.trans s2) (.cons (r1.ext s2.ex) r2) q2
def wTup (a : WA) : WE := fun xq ρ M Q => a xq ρ M fun xs M1 => xs.length ≤ 16777216 ∧ mkT xs M1 Q
theorem de_tup {es : List Expr} {wa : WA} {x1} {pos : Pos} (h : DA X Wx es wa) : DE X Wx (.Tuple es x1 pos) (wTup wa) := by
  obtain ⟨t, p, s⟩ := h
  refine ⟨_, pe_tup p, fun xq ρ M σ G H Q R rl hw k => ?_⟩
  refine s xq ρ M σ G H _ _ rl hw fun vs H1 G1 M1 xs s1 r1 q1 => ?_
  exact ⟨by rw [sizeLine_eq, ← paired_len r1]; exact q1.1, mkT_ok s1.sim r1 q1.2 fun v' H' G' M' x' s2 => k v' H' G' M' x' (s1.trans s2)⟩
def wLst (o : Bool) (a : WA) : WE := fun xq ρ M Q => a xq ρ M fun xs M1 => xs.length ≤ 16777216 ∧ mkL o xs M1 Q
theorem de_lst (o : Bool) {es : List Expr} {wa : WA} {pos : Pos} (h : DA X Wx es wa) : DE X Wx (.List es pos) (wLst o wa) := by
  obtain ⟨t, p, s⟩ := h
  refine ⟨_, pe_lst p, fun xq ρ M σ G H Q R rl hw k => ?_⟩
  refine s xq ρ M σ G H _ _ rl hw fun vs H1 G1 M1 xs s1 r1 q1 => ?_
  exact ⟨by rw [sizeLine_eq, ← paired_len r1]; exact q1.1, mkL_ok s1.sim r1 q1.2 fun v' H' G' M' x' s2 => k v' H' G' M' x' (s1.trans s2)⟩

/-! subscripts -/
def ixW (xs : List W) (i : Int) (M : MM) (Q : KW) : Prop := match atI xs i with
  | some x => Q x M
  | none => False
def oIx : WO := fun x y M Q => match y with
  | .d (.int i) => match x with
    | .d (.tuple ds) => (match atI ds i with
      | some d => Q (.d d) M
      | none => False)
    | .d (.str z) => z.length ≤ 16777216 ∧ (match atI z.cps.toList i with
      | some c => Q (.d (.str ⟨#[c]⟩)) M
      | none => False)
    | x => match seeL M x with
      | some ws => ixW ws i M Q
      | none => False
  | _ => False
theorem atI_paired {α β : Type} {F : α → β → Prop} {xs : List α} {ys : List β} {i : Int} {x : α} (h : Paired F xs ys) (e : atI xs i = some x) : ∃ y, atI ys i = some y ∧ F x y := by
  unfold atI at e ⊢
  rw [← paired_len h]
  cases e1 : ixN xs.length i with
  | none => rw [e1] at e; cases e
  | some j =>
    rw [e1] at e
    have e' : xs[j]? = some x := e
    obtain ⟨y, ey, f⟩ := paired_at h e'
    exact ⟨y, ey, f⟩
theorem atI_dps {K : PySem.W.Frag} {G : Hp} {ds : List PyData} {vs : List V} {i : Int} {d : PyData} (h : DpAll K G vs ds) (e : atI ds i = some d) : ∃ v, atI vs i = some v ∧ Dp K G v d := by
  have e2 : atI (ds.map W.d) i = some (W.d d) := by
    unfold atI at e ⊢
    rw [List.length_map]
    cases e1 : ixN ds.length i with
    | none => rw [e1] at e; cases e
    | some j =>
      rw [e1] at e
      have e' : ds[j]? = some d := e
      show (ds.map W.d)[j]? = some (W.d d)
      rw [List.getElem?_map, e']; rfl
  exact atI_paired (dps_paired h) e2
theorem so_ix : SndO X.K (rIx X.K) oIx := fun M G H x y v u Q R s r1 r2 h k => by
  cases y with
  | r z => exact h.elim
  | d e =>
    cases e <;> try (exact h.elim)
    rename_i i
    cases r2
    have hl : (match seeL M x with | some ws => ixW ws i M Q | none => False) → (rIx X.K) v (.int i) H R := fun h => by
      cases e1 : seeL M x with
      | none => rw [e1] at h; exact h.elim
      | some ws =>
        rw [e1] at h
        obtain ⟨p, vs, rfl, sq, pr⟩ := seeL_ok s r1 e1
        have h' : ixW ws i M Q := h
        unfold ixW at h'
        cases e2 : atI ws i with
        | none => rw [e2] at h'; exact h'.elim
        | some w =>
          rw [e2] at h'
          obtain ⟨v, ev, rv⟩ := atI_paired pr e2
          exact .inl ⟨p, vs, i, v, rfl, rfl, sq, ev, k _ _ _ _ _ (Stp.refl s) rv h'⟩
    cases x with
    | r z => exact hl h
    | d d =>
      cases d <;> try (exact hl h)
      · obtain ⟨c, q⟩ := h
        rename_i z
        cases r1
        cases e2 : atI z.cps.toList i with
        | none => rw [e2] at q; exact q.elim
        | some c' =>
          rw [e2] at q
          exact .inr (.inr ⟨_, _, c', rfl, rfl, by rw [sizeLine_eq]; exact c, e2, k _ _ _ _ _ (Stp.refl s) (Dp.str _) q⟩)
      · rename_i ds
        obtain ⟨p, vs, rfl, t1, _, d1⟩ := seeT_ok (ds := ds) s r1 rfl
        have h' : (match atI ds i with | some d => Q (.d d) M | none => False) := h
        cases e2 : atI ds i with
        | none => rw [e2] at h'; exact h'.elim
        | some d =>
          rw [e2] at h'
          obtain ⟨v, ev, rv⟩ := atI_dps d1 e2
          exact .inr (.inl ⟨p, vs, i, v, rfl, rfl, t1, ev, k _ _ _ _ _ (Stp.refl s) rv h'⟩)
theorem de_ix {a b : Expr} {wa wb : WE} {pos : Pos} (ha : DE X Wx a wa) (hb : DE X Wx b wb) (hs : PlainIx b := by exact fun _ _ => rfl) : DE X Wx (.Subscript a b pos) (wOp oIx wa wb) := by
  obtain ⟨ta, pa, sa⟩ := ha
  obtain ⟨tb, pb, sb⟩ := hb
  exact ⟨_, pe_ix ix_seq pa pb hs, sndOp so_ix sa sb⟩
/-- slices -/
abbrev WO' := XQ → Env → MM → (Option Int → MM → Prop) → Prop
structure DO (X : Cx) (Wx : WX) (e : Option Expr) (w : WO') : Prop where
  ex : ∃ te, PO X e te ∧ ∀ xq ρ M σ G H (Q : Option Int → MM → Prop) (R : Option Int → Hp → Prop), Rl X.K Wx xq ρ M σ G H → w xq ρ M Q → (∀ o H' G' M', Stp X.K G M H G' M' H' → Q o M' → R o H') → te σ H R
def wNoP : WO' := fun _ _ M Q => Q none M
def wSoP (w : WE) : WO' := fun xq ρ M Q => w xq ρ M fun x M1 => match x with
  | .d (.int i) => Q (some i) M1
  | _ => False
theorem do_none : DO X Wx none wNoP := ⟨_, po_none, fun xq ρ M σ G H Q R rl h k => k _ _ _ _ rl.refl h⟩
theorem do_some {e : Expr} {w : WE} (h : DE X Wx e w) : DO X Wx (some e) (wSoP w) := by
  obtain ⟨t, p, s⟩ := h
  refine ⟨_, po_some p, fun xq ρ M σ G H Q R rl hw k => ?_⟩
  refine s xq ρ M σ G H _ _ rl hw fun v H1 G1 M1 x s1 r1 q1 => ?_
  cases x with
  | r z => exact q1.elim
  | d d =>
    cases d <;> try (exact q1.elim)
    cases r1
    exact ⟨_, rfl, k _ _ _ _ s1 q1⟩
def cut {α : Type} (xs : List α) (lo hi : Option Int) : List α := (xs.drop (HT.sIx xs.length 0 lo)).take (HT.sIx xs.length xs.length hi - HT.sIx xs.length 0 lo)
theorem paired_cut {α : Type} {F : α → V → Prop} {xs : List α} {ys : List V} (h : Paired F xs ys) (lo hi : Option Int) : Paired F (cut xs lo hi) (cutV ys lo hi) := by
  unfold cut cutV
  rw [paired_len h]
  exact paired_take _ (paired_drop _ h)
def wSl (o : Bool) (w : WE) (l h : WO') : WE := fun xq ρ M Q => w xq ρ M fun x M1 => l xq ρ M1 fun lo M2 => h xq ρ M2 fun hi M3 => match x with
  | .d (.tuple ds) => Q (.d (.tuple (cut ds lo hi))) M3
  | x => match seeL M3 x with
    | some ws => mkL o (cut ws lo hi) M3 Q
    | none => False
theorem cut_all {α : Type} (ds : List α) {lo hi : Option Int} (h : HT.sIx ds.length 0 lo = 0 ∧ HT.sIx ds.length ds.length hi = ds.length) : cut ds lo hi = ds := by
  unfold cut
  rw [h.1, h.2, List.drop_zero, Nat.sub_zero, List.take_length]
theorem dps_cut {K : PySem.W.Frag} {G : Hp} {ds : List PyData} {vs : List V} (h : DpAll K G vs ds) (lo hi : Option Int) : DpAll K G (cutV vs lo hi) (cut ds lo hi) := by
  have p := paired_cut (dps_paired h) lo hi
  have e : cut (ds.map W.d) lo hi = (cut ds lo hi).map W.d := by
    unfold cut
    rw [List.length_map, List.map_take, List.map_drop]
  rw [e] at p
  exact paired_dps p
theorem de_sl (o : Bool) {e : Expr} {l h : Option Expr} {w : WE} {wl wh : WO'} {p2 pos : Pos} (he : DE X Wx e w) (hl : DO X Wx l wl) (hh : DO X Wx h wh) : DE X Wx (.Subscript e (.Slice l h none p2) pos) (wSl o w wl wh) := by
  obtain ⟨te, pe, se⟩ := he
  obtain ⟨tl, pl, sl⟩ := hl
  obtain ⟨th, ph, sh⟩ := hh
  refine ⟨_, pe_slice (sl_list.or sl_tupA) pe pl ph, fun xq ρ M σ G H Q R rl hw k => ?_⟩
  refine se xq ρ M σ G H _ _ rl hw fun v H1 G1 M1 x s1 r1 q1 => ?_
  refine sl xq ρ M1 σ G1 H1 _ _ (rl.next s1) q1 fun lo H2 G2 M2 s2 q2 => ?_
  refine sh xq ρ M2 σ G2 H2 _ _ ((rl.next s1).next s2) q2 fun hi H3 G3 M3 s3 q3 => ?_
  have rx := (r1.ext s2.ex).ext s3.ex
  have st := (s1.trans s2).trans s3
  have hL : (match seeL M3 x with | some ws => mkL o (cut ws lo hi) M3 Q | none => False) → rSlL X.K v lo hi H3 R := fun q => by
    cases e1 : seeL M3 x with
    | none => rw [e1] at q; exact q.elim
    | some ws =>
      rw [e1] at q
      obtain ⟨p, vs, rfl, sq, pr⟩ := seeL_ok s3.sim rx e1
      exact ⟨p, vs, rfl, sq, mkL_ok s3.sim (paired_cut pr lo hi) q fun v' H' G' M' x' s4 => k v' H' G' M' x' (st.trans s4)⟩
  cases x with
  | r z => exact .inl (hL q3)
  | d d =>
    cases d <;> try (exact .inl (hL q3))
    rename_i ds
    obtain ⟨p, vs, rfl, t1, t1', d1⟩ := seeT_ok (ds := ds) s3.sim rx rfl
    refine .inr ⟨p, vs, rfl, t1, fun hc => ?_, fun _ p' hp => ?_⟩
    · rw [dps_len d1] at hc
      have q' : Q (.d (.tuple (cut ds lo hi))) M3 := q3
      rw [cut_all ds hc] at q'
      exact k _ _ _ _ _ st (show RelW _ _ (.d (.tuple ds)) _ from .tup t1' d1) q'
    · refine k _ _ _ _ _ (st.trans (Stp.dat s3.sim hp)) ?_ q3
      exact .tup (.inl (.inl upd_same)) ((Ex.new (s3.sim.free hp).2).dps (dps_cut d1 lo hi))
end
end DL
namespace DL
open PySem PySem.Spec PyProof.Rows L2

/-! ### what a def may use -/
structure RoomG (k : Nat) (A : Around) : Prop where
  room : Room k A
  gd : A.guards = some []
structure Cq (X : Cx) (Wx : WX) (k : Nat) : Prop where
  nd : X.N.Nodup
  calm : X.calm = true
  tk : Takes X Wx
  rm : RoomG k X.A
abbrev W0 : WX := fun _ _ _ _ => False
theorem Cq.blk {X : Cx} {Wx : WX} {k : Nat} (c : Cq X Wx k) (s : Shared) (H : Hp) (scope : Scope) (cenv : PySem.Env) (fp : List Addr) : Cq (X.blk s H scope cenv fp) W0 k := ⟨c.nd, c.calm, takes0, c.rm⟩
structure FnD (P : Program) (w : World) (K : PySem.W.Frag) (mg : Str → Option Value) (base : Heap) (k : Nat) (f : Addr) (fd : FuncData) (ps : List Str) (sp : Sp) : Prop where
  len : ∀ vs H Q E, sp vs H Q E → vs.length = ps.length
  run : ∀ (A : Around) (outer : List PySem.Env) (s : Shared) (H : Hp) (args : Args) (us : List Value) (vs : List V) (Q : VK) (E : XK),
    RoomG k A → Env0 P w K mg base A outer s H → BindsTo s fd args (ps.zip us) → Vals vs us → sp vs H Q E →
      codeAny (model P w) A (.call (.ref f) args) (CR (L2.CX P w) outer P w H s Q E) s
theorem FnD.mono {P : Program} {w : World} {K : PySem.W.Frag} {mg : Str → Option Value} {base : Heap} {j k : Nat} {f : Addr} {fd : FuncData} {ps : List Str} {sp : Sp} (F : FnD P w K mg base j f fd ps sp) (h : j ≤ k) : FnD P w K mg base k f fd ps sp :=
  ⟨F.len, fun A outer s H args us vs Q E hr => F.run A outer s H args us vs Q E ⟨hr.room.mono h, hr.gd⟩⟩
theorem FnD.imp {P : Program} {w : World} {K : PySem.W.Frag} {mg : Str → Option Value} {base : Heap} {k : Nat} {f : Addr} {fd : FuncData} {ps : List Str} {sp sp' : Sp} (F : FnD P w K mg base k f fd ps sp)
    (h : ∀ vs H Q E, sp' vs H Q E → sp vs H Q E) : FnD P w K mg base k f fd ps sp' :=
  ⟨fun vs H Q E q => F.len vs H Q E (h _ _ _ _ q), fun A outer s H args us vs Q E hr e0 hb hv hs => F.run A outer s H args us vs Q E hr e0 hb hv (h _ _ _ _ hs)⟩

/-! a wish in data: arguments, what is owned, the end, the raise -/
abbrev XR := Value → Option Addr → MM → Prop
abbrev DSp := List W → MM → KW → XR → Prop
def lift (K : PySem.W.Frag) (ds : DSp) : Sp := fun vs H Q E => ∃ ws M G R xr, Sim K G M H ∧ Paired (RelW K G) ws vs ∧ ds ws M R xr ∧ KOk K G M H R Q ∧
  ∀ cls d H' G' M', Stp K G M H G' M' H' → xr cls d M' → E cls d H'

section
variable {X : Cx} {Wx : WX} {k : Nat} {f : Addr} {fd : FuncData} {ps : List Str} {x : Str} {p pos : Pos} {e : Expr} {es : List Expr}
theorem run_fnD {sp : Sp} {pins : List (Addr × Obj)} {σ : L2.St} {H : Hp} {s : Shared} {Q : VK} {us : List Value} {vs : List V} (F : FnD X.prog X.w X.K X.mg X.base k f fd ps sp) (c : Cq X Wx k) (hb : Binds X.K fd ps [])
    (I : Inv X pins σ H s) (r : Vals vs us) (h : sp vs H Q (L2.WE Wx σ)) : wpAny (model X.prog X.w) X.A (call (.ref f) us) (EP X pins σ Q) X.xe s := by
  have hl : us.length = ps.length := by rw [← r.length]; exact F.len _ _ _ _ h
  have b := hb s us I.kIn (by rw [List.append_nil]; exact hl)
  rw [List.append_nil] at b
  refine wpAny_call (codeAny_mono (F.run X.A X.stack s H ⟨us, []⟩ us vs Q (L2.WE Wx σ) c.rm I.env0 b r h) fun res s' hq => ?_)
  match res, hq with
  | .error er, hq => exact passAt c.tk σ pins H s er s' I hq
  | .ok (.ret u), hq => exact I.after hq
  | .ok .next, hq => exact False.elim hq
  | .ok .brk, hq => exact False.elim hq
  | .ok .cont, hq => exact False.elim hq
theorem pe_callD {sp : Sp} {t : TA} (F : FnD X.prog X.w X.K X.mg X.base k f fd ps sp) (c : Cq X Wx k) (hm : X.mg x = some (.ref f)) (hk : PySem.W.keepIn X.K (.ref f) = true) (hb : Binds X.K fd ps [])
    (ha : PA X (e :: es) t) (hg : Gl X x) (hdb : (x == ("__debug__" : Str)) = false) (he : starEach (e :: es) X.env = (false, eval e X.env) :: starEach es X.env) (hpl : (backTo pos (starEach es X.env)).any (·.1) = false) :
    PE X (.Call (.Name x p) (e :: es) [] pos) (tCallS sp (L2.WE Wx) t) := by
  constructor
  intro pins s σ H Q I h
  apply wpAny_Call_Name_kw
  refine ld_glob I hg hm ?_ hdb
  exact PySem.W.callWith_K (h₀ := X.base) I.ok.mod.kin hk (thn (ha.run pos pins s σ H _ I h) fun us s1 ⟨vs, H1, I1, r, q⟩ => ⟨I1.kIn, run_fnD F c hb I1 r q⟩) he hpl
/-- a call of a def of the module -/
def wCall (ds : DSp) (wa : WA) : WE := fun xq ρ M Q => wa xq ρ M fun xs M1 => ds xs M1 Q fun cls d M2 => xq cls d ρ M2
theorem sndCall {ds : DSp} {t : TA} {wa : WA} (ha : SndA X.K Wx t wa) : SndE X.K Wx (tCallS (lift X.K ds) (L2.WE Wx) t) (wCall ds wa) := fun xq ρ M σ G H Q R rl h kk =>
  ha xq ρ M σ G H _ _ rl h fun vs H1 G1 M1 xs s1 r1 q1 =>
    ⟨xs, M1, G1, Q, fun cls d M2 => xq cls d ρ M2, s1.sim, r1, q1, fun v H' G' M' y s2 ry q => kk v H' G' M' y (s1.trans s2) ry q,
      fun cls d H' G' M' s2 q => rl.cpt cls d ρ M' σ G' H' (s1.trans s2) (rl.env.ext (s1.trans s2).ex) q⟩
theorem de_call {ds : DSp} {wa : WA} (F : FnD X.prog X.w X.K X.mg X.base k f fd ps (lift X.K ds)) (c : Cq X Wx k) (hm : X.mg x = some (.ref f)) (hk : PySem.W.keepIn X.K (.ref f) = true) (hb : Binds X.K fd ps [])
    (ha : DA X Wx (e :: es) wa) (hg : Gl X x := by rfl) (hdb : (x == ("__debug__" : Str)) = false := by decide) (he : starEach (e :: es) X.env = (false, eval e X.env) :: starEach es X.env := by rfl) (hpl : (backTo pos (starEach es X.env)).any (·.1) = false := by rfl) :
    DE X Wx (.Call (.Name x p) (e :: es) [] pos) (wCall ds wa) := by
  obtain ⟨t, pa, sa⟩ := ha
  exact ⟨_, pe_callD F c hm hk hb pa hg hdb he hpl, sndCall sa⟩
end

/-! ### built-ins -/
section
variable {X : Cx} {Wx : WX} {k : Nat}
abbrev WCl := List W → MM → KW → Prop
def SndC (K : PySem.W.Frag) (r : List V → Hp → VK → Prop) (f : WCl) : Prop := ∀ M G H xs vs Q R, Sim K G M H → Paired (RelW K G) xs vs → f xs M Q → KOk K G M H Q R → r vs H R
def wBlt (f : WCl) (wa : WA) : WE := fun xq ρ M Q => wa xq ρ M fun xs M1 => f xs M1 Q
theorem sndBlt {r : List V → Hp → VK → Prop} {f : WCl} {t : TA} {wa : WA} (ho : SndC X.K r f) (ha : SndA X.K Wx t wa) : SndE X.K Wx (tCB r t) (wBlt f wa) := fun xq ρ M σ G H Q R rl h kk =>
  ha xq ρ M σ G H _ _ rl h fun vs H1 G1 M1 xs s1 r1 q1 => ho M1 G1 H1 xs vs _ _ s1.sim r1 q1 fun v H' G' M' y s2 => kk v H' G' M' y (s1.trans s2)
theorem de_blt {x : Str} {id : String} {r : List V → Hp → VK → Prop} {f : WCl} {wa : WA} {e : Expr} {es : List Expr} {p pos : Pos} (hc : CallR X (.builtin id) r) (ho : SndC X.K r f) (hm : X.mg x = none) (ha : DA X Wx (e :: es) wa)
    (hv : bootBuiltins x = some (.builtin id) := by decide +kernel) (hg : Gl X x := by rfl) (hn : x ≠ "__name__" := by decide) (hdb : (x == ("__debug__" : Str)) = false := by decide)
    (he : starEach (e :: es) X.env = (false, eval e X.env) :: starEach es X.env := by rfl) (hpl : (backTo pos (starEach es X.env)).any (·.1) = false := by rfl) : DE X Wx (.Call (.Name x p) (e :: es) [] pos) (wBlt f wa) := by
  obtain ⟨t, pa, sa⟩ := ha
  exact ⟨_, pe_callB hc hg hm hv pa hn hdb he hpl, sndBlt ho sa⟩
theorem de_bltT {x : Str} {T : String} {r : List V → Hp → VK → Prop} {f : WCl} {wa : WA} {e : Expr} {es : List Expr} {p pos : Pos} (hc : CallR X (.type T) r) (ho : SndC X.K r f) (hm : X.mg x = none) (ha : DA X Wx (e :: es) wa)
    (hv : bootBuiltins x = some (.type T) := by decide +kernel) (hg : Gl X x := by rfl) (hn : x ≠ "__name__" := by decide) (hdb : (x == ("__debug__" : Str)) = false := by decide)
    (he : starEach (e :: es) X.env = (false, eval e X.env) :: starEach es X.env := by rfl) (hpl : (backTo pos (starEach es X.env)).any (·.1) = false := by rfl) : DE X Wx (.Call (.Name x p) (e :: es) [] pos) (wBlt f wa) := by
  obtain ⟨t, pa, sa⟩ := ha
  exact ⟨_, pe_callTy hc hg hm hv pa hn hdb he hpl, sndBlt ho sa⟩
theorem paired1 {K : PySem.W.Frag} {G : Hp} {x : W} {vs : List V} (h : Paired (RelW K G) [x] vs) : ∃ v, vs = [v] ∧ RelW K G x v := by
  cases h with
  | cons a t => cases t; exact ⟨_, rfl, a⟩
theorem paired2 {K : PySem.W.Frag} {G : Hp} {x y : W} {vs : List V} (h : Paired (RelW K G) [x, y] vs) : ∃ v u, vs = [v, u] ∧ RelW K G x v ∧ RelW K G y u := by
  cases h with
  | cons a t =>
    cases t with
    | cons b t => cases t; exact ⟨_, _, rfl, a, b⟩
/-- len -/
def bLen : WCl := fun xs M Q => match xs with
  | [.d (.tuple ds)] => Q (.d (.int ds.length)) M
  | [.d (.str z)] => z.length ≤ 16777216 ∧ Q (.d (.int z.length)) M
  | [x] => (match seeL M x with
    | some ws => Q (.d (.int ws.length)) M
    | none => False)
  | _ => False
theorem sc_len : SndC X.K (fun xs H Q => ∃ x n, xs = [x] ∧ LenV X.K x H n ∧ Q (.int n) H) bLen := fun M G H xs vs Q R s r h k => by
  match xs, h with
  | [], h => exact h.elim
  | _ :: _ :: _, h => (try (exact h.elim)); (rename_i a b c; cases a <;> (try exact h.elim); rename_i d; cases d <;> exact h.elim)
  | [x], h =>
    obtain ⟨v, rfl, rx⟩ := paired1 r
    have hl : (match seeL M x with | some ws => Q (.d (.int ws.length)) M | none => False) → ∃ x n, [v] = [x] ∧ LenV X.K x H n ∧ R (.int n) H := fun h => by
      cases e : seeL M x with
      | none => rw [e] at h; exact h.elim
      | some ws =>
        rw [e] at h
        obtain ⟨p, us, rfl, sq, pr⟩ := seeL_ok s rx e
        have h' : Q (.d (.int ws.length)) M := h
        rw [paired_len pr] at h'
        exact ⟨_, us.length, rfl, .inl ⟨us, sq, rfl⟩, k _ _ _ _ _ (Stp.refl s) (Dp.int _) h'⟩
    cases x with
    | r z => exact hl h
    | d d =>
      cases d <;> try (exact hl h)
      · cases rx
        exact ⟨_, _, rfl, ⟨by rw [sizeLine_eq]; exact h.1, rfl⟩, k _ _ _ _ _ (Stp.refl s) (Dp.int _) h.2⟩
      · rename_i ds
        obtain ⟨p, us, rfl, t1, _, d1⟩ := seeT_ok (ds := ds) s rx rfl
        have h' : Q (.d (.int ds.length)) M := h
        rw [← dps_len d1] at h'
        exact ⟨_, us.length, rfl, .inr ⟨us, t1, rfl⟩, k _ _ _ _ _ (Stp.refl s) (Dp.int _) h'⟩
/-- int(n) -/
def bInt : WCl := fun xs M Q => match xs with
  | [.d (.int i)] => Q (.d (.int i)) M
  | [.d (.bool b)] => Q (.d (.int (if b then 1 else 0))) M
  | _ => False
theorem sc_int : SndC X.K (fun xs H Q => (∃ i, xs = [.int i] ∧ Q (.int i) H) ∨ ∃ k, xs = [.bl k] ∧ Q (.int (if k then 1 else 0)) H) bInt := fun M G H xs vs Q R s r h k => by
  match xs, h with
  | [.d (.int i)], h =>
    obtain ⟨v, rfl, rx⟩ := paired1 r
    cases rx
    exact .inl ⟨i, rfl, k _ _ _ _ _ (Stp.refl s) (Dp.int _) h⟩
  | [.d (.bool b)], h =>
    obtain ⟨v, rfl, rx⟩ := paired1 r
    cases rx
    exact .inr ⟨b, rfl, k _ _ _ _ _ (Stp.refl s) (Dp.int _) h⟩
/-- abs(n) -/
def bAbs : WCl := fun xs M Q => match xs with
  | [.d (.int i)] => Q (.d (.int (if i < 0 then -i else i))) M
  | _ => False
theorem sc_abs : SndC X.K (fun xs H Q => ∃ i, xs = [.int i] ∧ Q (.int (if i < 0 then -i else i)) H) bAbs := fun M G H xs vs Q R s r h k => by
  match xs, h with
  | [.d (.int i)], h =>
    obtain ⟨v, rfl, rx⟩ := paired1 r
    cases rx
    exact ⟨i, rfl, k _ _ _ _ _ (Stp.refl s) (Dp.int _) h⟩
/-- list(x), tuple(x) of a list or tuple -/
def seeA (M : MM) (x : W) : Option (List W) := match x with
  | .d (.tuple ds) => some (ds.map W.d)
  | x => seeL M x
theorem seeA_ok {K : PySem.W.Frag} {G H : Hp} {M : MM} {x : W} {v : V} {ws : List W} (s : Sim K G M H) (r : RelW K G x v) (h : seeA M x = some ws) : ∃ p vs, v = .ref p ∧ (SqL K H p vs ∨ SqT K H p vs) ∧ Paired (RelW K G) ws vs := by
  have hl : seeL M x = some ws → ∃ p vs, v = .ref p ∧ (SqL K H p vs ∨ SqT K H p vs) ∧ Paired (RelW K G) ws vs := fun h => by
    obtain ⟨p, vs, e, sq, pr⟩ := seeL_ok s r h
    exact ⟨p, vs, e, .inl sq, pr⟩
  cases x with
  | r z => exact hl h
  | d d =>
    cases d <;> try (exact hl h)
    cases h
    rename_i ds
    obtain ⟨p, us, rfl, t1, _, d1⟩ := seeT_ok (ds := ds) s r rfl
    exact ⟨p, us, rfl, .inr t1, dps_paired d1⟩
def bList (o : Bool) : WCl := fun xs M Q => match xs with
  | [x] => (match seeA M x with
    | some ws => mkL o ws M Q
    | none => False)
  | _ => False
theorem sc_list {o : Bool} : SndC X.K (fun xs H Q => ∃ p ys, xs = [.ref p] ∧ (SqL X.K H p ys ∨ SqT X.K H p ys) ∧ ∀ l, H l = none → Q (.ref l) (upd H l (.lst ys))) (bList o) := fun M G H xs vs Q R s r h k => by
  match xs, h with
  | [x], h =>
    obtain ⟨v, rfl, rx⟩ := paired1 r
    have h' : (match seeA M x with | some ws => mkL o ws M Q | none => False) := h
    cases e : seeA M x with
    | none => rw [e] at h'; exact h'.elim
    | some ws =>
      rw [e] at h'
      obtain ⟨p, us, rfl, sq, pr⟩ := seeA_ok s rx e
      exact ⟨p, us, rfl, sq, mkL_ok s pr h' k⟩
def bTuple : WCl := fun xs M Q => match xs with
  | [.d (.tuple ds)] => Q (.d (.tuple ds)) M
  | [x] => (match seeL M x with
    | some ws => mkT ws M Q
    | none => False)
  | _ => False
theorem sc_tuple : SndC X.K (fun xs H Q => ∃ p ys, xs = [.ref p] ∧ ((SqL X.K H p ys ∧ ∀ l, H l = none → Q (.ref l) (upd H l (.tup ys))) ∨ (SqT X.K H p ys ∧ Q (.ref p) H))) bTuple := fun M G H xs vs Q R s r h k => by
  match xs, h with
  | [], h => exact h.elim
  | _ :: _ :: _, h => (try (exact h.elim)); (rename_i a b c; cases a <;> (try exact h.elim); rename_i d; cases d <;> exact h.elim)
  | [x], h =>
    obtain ⟨v, rfl, rx⟩ := paired1 r
    have hl : (match seeL M x with | some ws => mkT ws M Q | none => False) → ∃ p ys, [v] = [.ref p] ∧ ((SqL X.K H p ys ∧ ∀ l, H l = none → R (.ref l) (upd H l (.tup ys))) ∨ (SqT X.K H p ys ∧ R (.ref p) H)) := fun h => by
      cases e : seeL M x with
      | none => rw [e] at h; exact h.elim
      | some ws =>
        rw [e] at h
        obtain ⟨p, us, rfl, sq, pr⟩ := seeL_ok s rx e
        exact ⟨p, us, rfl, .inl ⟨sq, mkT_ok s pr h k⟩⟩
    cases x with
    | r z => exact hl h
    | d d =>
      cases d <;> try (exact hl h)
      rename_i ds
      have rx' := rx
      obtain ⟨p, us, rfl, t1, _, d1⟩ := seeT_ok (ds := ds) s rx rfl
      exact ⟨p, us, rfl, .inr ⟨t1, k _ _ _ _ _ (Stp.refl s) rx' h⟩⟩
/-- sum of ints; all, any of bools -/
def intsD : List W → Option (List Int)
  | [] => some []
  | .d (.int i) :: r => (intsD r).map (i :: ·)
  | _ => none
def boolsD : List W → Option (List Bool)
  | [] => some []
  | .d (.bool i) :: r => (boolsD r).map (i :: ·)
  | _ => none
theorem intsD_ok {K : PySem.W.Frag} {G : Hp} : ∀ {ws : List W} {ns : List Int} {vs : List V}, Paired (RelW K G) ws vs → intsD ws = some ns → vs = ns.map V.int
  | _, _, _, .nil, h => by cases h; rfl
  | x :: ws, _, _, .cons a t, h => by
    cases x with
    | r z => cases h
    | d d =>
      cases d <;> try (cases h)
      rename_i i
      have h' : (intsD ws).map (i :: ·) = some _ := h
      cases e : intsD ws with
      | none => rw [e] at h'; cases h'
      | some l =>
        rw [e] at h'; cases h'
        cases a
        rw [intsD_ok t e]; rfl
theorem boolsD_ok {K : PySem.W.Frag} {G : Hp} : ∀ {ws : List W} {ns : List Bool} {vs : List V}, Paired (RelW K G) ws vs → boolsD ws = some ns → vs = ns.map V.bl
  | _, _, _, .nil, h => by cases h; rfl
  | x :: ws, _, _, .cons a t, h => by
    cases x with
    | r z => cases h
    | d d =>
      cases d <;> try (cases h)
      rename_i i
      have h' : (boolsD ws).map (i :: ·) = some _ := h
      cases e : boolsD ws with
      | none => rw [e] at h'; cases h'
      | some l =>
        rw [e] at h'; cases h'
        cases a
        rw [boolsD_ok t e]; rfl
def bInts (f : List Int → MM → KW → Prop) : WCl := fun xs M Q => match xs with
  | [x] => (match (seeL M x).bind intsD with
    | some ns => f ns M Q
    | none => False)
  | _ => False
theorem bInts_ok {f : List Int → MM → KW → Prop} {M : MM} {G H : Hp} {xs : List W} {vs : List V} {Q : KW} (s : Sim X.K G M H) (r : Paired (RelW X.K G) xs vs) (h : bInts f xs M Q) : ∃ a ns, vs = [.ref a] ∧ SqL X.K H a (ns.map V.int) ∧ f ns M Q := by
  match xs, h with
  | [x], h =>
    obtain ⟨v, rfl, rx⟩ := paired1 r
    have h' : (match (seeL M x).bind intsD with | some ns => f ns M Q | none => False) := h
    cases e : seeL M x with
    | none => rw [e] at h'; exact h'.elim
    | some ws =>
      rw [e] at h'
      have h2 : (match intsD ws with | some ns => f ns M Q | none => False) := h'
      cases e2 : intsD ws with
      | none => rw [e2] at h2; exact h2.elim
      | some ns =>
        rw [e2] at h2
        obtain ⟨p, us, rfl, sq, pr⟩ := seeL_ok s rx e
        rw [intsD_ok pr e2] at sq
        exact ⟨p, ns, rfl, sq, h2⟩
def bSum : WCl := bInts fun ns M Q => Q (.d (.int ns.sum)) M
theorem sc_sum : SndC X.K (rSum X.K) bSum := fun M G H xs vs Q R s r h k => by
  obtain ⟨a, ns, e, sq, q⟩ := bInts_ok s r h
  exact ⟨a, ns, e, sq, k _ _ _ _ _ (Stp.refl s) (Dp.int _) q⟩
def bBools (g : List Bool → Bool) : WCl := fun xs M Q => match xs with
  | [x] => (match (seeL M x).bind boolsD with
    | some ns => Q (.d (.bool (g ns))) M
    | none => False)
  | _ => False
theorem bBools_ok {g : List Bool → Bool} {M : MM} {G H : Hp} {xs : List W} {vs : List V} {Q : KW} (s : Sim X.K G M H) (r : Paired (RelW X.K G) xs vs) (h : bBools g xs M Q) : ∃ a ns, vs = [.ref a] ∧ SqL X.K H a (ns.map V.bl) ∧ Q (.d (.bool (g ns))) M := by
  match xs, h with
  | [x], h =>
    obtain ⟨v, rfl, rx⟩ := paired1 r
    have h' : (match (seeL M x).bind boolsD with | some ns => Q (.d (.bool (g ns))) M | none => False) := h
    cases e : seeL M x with
    | none => rw [e] at h'; exact h'.elim
    | some ws =>
      rw [e] at h'
      have h2 : (match boolsD ws with | some ns => Q (.d (.bool (g ns))) M | none => False) := h'
      cases e2 : boolsD ws with
      | none => rw [e2] at h2; exact h2.elim
      | some ns =>
        rw [e2] at h2
        obtain ⟨p, us, rfl, sq, pr⟩ := seeL_ok s rx e
        rw [boolsD_ok pr e2] at sq
        exact ⟨p, ns, rfl, sq, h2⟩
abbrev bAll : WCl := bBools fun bs => bs.all id
abbrev bAny : WCl := bBools fun bs => bs.any id
theorem sc_all : SndC X.K (rAll X.K) bAll := fun M G H xs vs Q R s r h k => by
  obtain ⟨a, ns, e, sq, q⟩ := bBools_ok s r h
  exact ⟨a, ns, e, sq, k _ _ _ _ _ (Stp.refl s) (Dp.bl _) q⟩
theorem sc_any : SndC X.K (rAny X.K) bAny := fun M G H xs vs Q R s r h k => by
  obtain ⟨a, ns, e, sq, q⟩ := bBools_ok s r h
  exact ⟨a, ns, e, sq, k _ _ _ _ _ (Stp.refl s) (Dp.bl _) q⟩
/-- isinstance(x, T), T a built-in type -/
def tyName : PyData → String
  | .none => "NoneType"
  | .bool _ => "bool"
  | .int _ => "int"
  | .str _ => "str"
  | .list _ => "list"
  | .tuple _ => "tuple"
  | .dict _ => "dict"
def bIsi : WCl := fun xs M Q => match xs with
  | [.d d, .r (.ty T)] => (match kitB (tyName d) T with
    | some b => Q (.d (.bool b)) M
    | none => False)
  | _ => False
theorem ty_ok {K : PySem.W.Frag} {H : Hp} {v : V} {d : PyData} (h : Dp K H v d) : TyX K H v (.type (tyName d)) := by
  cases h with
  | non => exact .base .non
  | bl b => exact .base (.bl b)
  | int i => exact .base (.int i)
  | str x => exact .base (.str x)
  | lst a t =>
    rcases a with (a | ⟨o, a⟩) | ⟨o, its, n, a, c, _⟩
    · exact .base (.lst a)
    · exact .base (.frz a)
    · exact .kList a c
  | tup a t =>
    rcases a with (a | ⟨o, a⟩) | ⟨o, its, n, a, c, _⟩
    · exact .base (.tup a)
    · exact .fTuple a
    · exact .kTuple a c
theorem sc_isi : SndC X.K (rIsi X.K) bIsi := fun M G H xs vs Q R s r h k => by
  match xs, h with
  | [.d d, .r (.ty T)], h =>
    obtain ⟨v, u, rfl, rx, ry⟩ := paired2 r
    have e : V.ty T = u := ry
    subst e
    have h' : (match kitB (tyName d) T with | some b => Q (.d (.bool b)) M | none => False) := h
    cases e : kitB (tyName d) T with
    | none => rw [e] at h'; exact h'.elim
    | some b =>
      rw [e] at h'
      exact ⟨v, .ty T, .type (tyName d), .type T, b, rfl, .ty T, ty_ok (s.ex.dp rx), kit_ty e, k _ _ _ _ _ (Stp.refl s) (Dp.bl _) h'⟩
theorem kit_NoneType_bool : kitB "NoneType" "bool" = some false := by decide +kernel
theorem kit_NoneType_int : kitB "NoneType" "int" = some false := by decide +kernel
theorem kit_NoneType_str : kitB "NoneType" "str" = some false := by decide +kernel
theorem kit_NoneType_list : kitB "NoneType" "list" = some false := by decide +kernel
theorem kit_NoneType_tuple : kitB "NoneType" "tuple" = some false := by decide +kernel
theorem kit_bool_bool : kitB "bool" "bool" = some true := by decide +kernel
theorem kit_bool_int : kitB "bool" "int" = some true := by decide +kernel
theorem kit_bool_str : kitB "bool" "str" = some false := by decide +kernel
theorem kit_bool_list : kitB "bool" "list" = some false := by decide +kernel
theorem kit_bool_tuple : kitB "bool" "tuple" = some false := by decide +kernel
theorem kit_int_bool : kitB "int" "bool" = some false := by decide +kernel
theorem kit_int_int : kitB "int" "int" = some true := by decide +kernel
theorem kit_int_str : kitB "int" "str" = some false := by decide +kernel
theorem kit_int_list : kitB "int" "list" = some false := by decide +kernel
theorem kit_int_tuple : kitB "int" "tuple" = some false := by decide +kernel
theorem kit_str_bool : kitB "str" "bool" = some false := by decide +kernel
theorem kit_str_int : kitB "str" "int" = some false := by decide +kernel
theorem kit_str_str : kitB "str" "str" = some true := by decide +kernel
theorem kit_str_list : kitB "str" "list" = some false := by decide +kernel
theorem kit_str_tuple : kitB "str" "tuple" = some false := by decide +kernel
theorem kit_list_bool : kitB "list" "bool" = some false := by decide +kernel
theorem kit_list_int : kitB "list" "int" = some false := by decide +kernel
theorem kit_list_str : kitB "list" "str" = some false := by decide +kernel
theorem kit_list_list : kitB "list" "list" = some true := by decide +kernel
theorem kit_list_tuple : kitB "list" "tuple" = some false := by decide +kernel
theorem kit_tuple_bool : kitB "tuple" "bool" = some false := by decide +kernel
theorem kit_tuple_int : kitB "tuple" "int" = some false := by decide +kernel
theorem kit_tuple_str : kitB "tuple" "str" = some false := by decide +kernel
theorem kit_tuple_list : kitB "tuple" "list" = some false := by decide +kernel
theorem kit_tuple_tuple : kitB "tuple" "tuple" = some true := by decide +kernel
theorem kit_dict_bool : kitB "dict" "bool" = some false := by decide +kernel
theorem kit_dict_int : kitB "dict" "int" = some false := by decide +kernel
theorem kit_dict_str : kitB "dict" "str" = some false := by decide +kernel
theorem kit_dict_list : kitB "dict" "list" = some false := by decide +kernel
theorem kit_dict_tuple : kitB "dict" "tuple" = some false := by decide +kernel
end

/-! ### repr -/
section
variable {X : Cx} {Wx : WX} {k : Nat}
theorem reads_dict : ∀ {v : V} {d : PyData} {K : PySem.W.Frag} {H : Hp}, Dp K H v d → d.hasDict = false := by
  intro v d K H h
  exact Dp.rec (motive_1 := fun v d _ => d.hasDict = false) (motive_2 := fun vs ds _ => PyData.hasDictAll ds = false)
    rfl (fun _ => rfl) (fun _ => rfl) (fun _ => rfl)
    (fun _ _ ih => by simpa [PyData.hasDict] using ih) (fun _ _ ih => by simpa [PyData.hasDict] using ih)
    rfl (fun _ _ i1 i2 => by simp [PyData.hasDictAll, i1, i2]) h
def bRepr : WCl := fun xs M Q => match xs with
  | [x] => (match seeD M x with
    | some d => (d.showable = true ∧ d.depth ≤ 60 ∧ d.shown.length ≤ 16777216) ∧ Q (.d (.str d.shown)) M
    | none => False)
  | _ => False
theorem call_repr (c : Cq X Wx k) : CallR X (.builtin "repr") (fun xs H Q => ∃ x d, xs = [x] ∧ Dp X.K H x d ∧ d.showable = true ∧ d.depth ≤ 60 ∧ d.shown.length ≤ sizeLine ∧ Q (.str d.shown) H) := by
  intro pins s σ H xs us Q I r h
  obtain ⟨x, d, rfl, hd, h1, h2, h3, q⟩ := h
  have onref : ∀ a, x = .ref a → wpAny (model X.prog X.w) X.A (call (.builtin "repr") us) (EP X pins σ Q) X.xe s := by
    rintro a rfl
    obtain ⟨u, rfl, ru⟩ := vals1 r
    have ru' := ru
    obtain rfl : u = Value.ref a := ru
    obtain ⟨as, hr⟩ := Dp.reads I d _ _ hd ru'
    have hu := c.rm.room.units
    refine repr_of_reads' hr h1 (fun z => by rw [reads_dict hd] at z; cases z) c.rm.gd (by omega) (fun _ _ e => e) (fun h' u tk hk => ?_) h3
    exact ⟨.str _, H, I.kept hk, ⟨_, rfl⟩, q⟩
  cases hd with
  | non =>
    obtain ⟨u, rfl, ru⟩ := vals1 r
    obtain rfl : u = Value.none := ru
    simp only [PyData.shown] at q
    exact PySem.P.repr_of_none ⟨.str _, H, I.tok _, ⟨_, rfl⟩, q⟩
  | bl b =>
    obtain ⟨u, rfl, ru⟩ := vals1 r
    obtain rfl : u = Value.bool b := ru
    simp only [PyData.shown] at q
    refine PySem.P.repr_of_bool ⟨.str _, H, I.tok _, ⟨_, rfl⟩, ?_⟩
    cases b <;> exact q
  | int i =>
    obtain ⟨u, rfl, t, rfl⟩ := vals1 r
    simp only [PyData.shown] at q
    have hz : i.natAbs.log2 < 1920 := by simpa [PyData.showable] using h1
    exact PySem.P.repr_of_int hz ⟨.str _, H, I.tok _, ⟨_, rfl⟩, q⟩
  | str x =>
    obtain ⟨u, rfl, t, rfl⟩ := vals1 r
    simp only [PyData.shown] at q h3
    exact PySem.P.repr_of_str ⟨.str _, H, I.tok _, ⟨_, rfl⟩, q⟩ h3
  | lst _ _ => exact onref _ rfl
  | tup _ _ => exact onref _ rfl
theorem seeD_ref {M : MM} {G H : Hp} {x : W} {v : V} {d : PyData} (s : Sim X.K G M H) (r : RelW X.K G x v) (h : seeD M x = some d) (hl : (∃ ds, d = .list ds) ∨ ∃ ds, d = .tuple ds) : ∃ a, v = .ref a := by
  have q := seeD_ok s r h
  rcases hl with ⟨ds, rfl⟩ | ⟨ds, rfl⟩ <;> cases q <;> exact ⟨_, rfl⟩
/-- repr of data -/
def bReprS : WCl := fun xs M Q => match xs with
  | [x] => (match seeD M x with
    | some d => (d.showable = true ∧ d.depth ≤ 60 ∧ d.shown.length ≤ 16777216) ∧ Q (.d (.str d.shown)) M
    | none => False)
  | _ => False
theorem sc_reprS : SndC X.K (fun xs H Q => ∃ x d, xs = [x] ∧ Dp X.K H x d ∧ d.showable = true ∧ d.depth ≤ 60 ∧ d.shown.length ≤ sizeLine ∧ Q (.str d.shown) H) bReprS := fun M G H xs vs Q R s r h k => by
  match xs, h with
  | [x], h =>
    obtain ⟨v, rfl, rx⟩ := paired1 r
    unfold bReprS at h
    simp only at h
    cases e : seeD M x with
    | none => rw [e] at h; exact h.elim
    | some d =>
      rw [e] at h
      obtain ⟨⟨h1, h2, h3⟩, q⟩ := h
      exact ⟨v, _, rfl, seeD_ok s rx e, h1, h2, by rw [sizeLine_eq]; exact h3, k _ _ _ _ _ (Stp.refl s) (Dp.str _) q⟩
end
end DL
namespace DL
open PySem PySem.Spec PyProof.Rows L2
section
variable {X : Cx} {Wx : WX} {k : Nat}
/-! ### freezing; a tuple of anything -/
def frz (x : W) (M : MM) (Q : KW) : Prop := match x with
  | .d d => Q (.d d) M
  | .r (.ref p) => (match M p with
    | some (.lst ws) => (match allD ws with
      | some ds => Q (.d (.list ds)) (mdel M p)
      | none => False)
    | _ => False)
  | _ => False
theorem frz_ok {K : PySem.W.Frag} {G H : Hp} {M : MM} {x : W} {v : V} {Q : KW} {R : VK} (s : Sim K G M H) (r : RelW K G x v) (h : frz x M Q) (k : KOk K G M H Q R) : R v H := by
  cases x with
  | d d => exact k _ _ _ _ _ (Stp.refl s) r h
  | r z =>
    have e : z = v := r
    subst e
    cases z <;> try (exact h.elim)
    rename_i p
    have h' : (match M p with | some (.lst ws) => (match allD ws with | some ds => Q (.d (.list ds)) (mdel M p) | none => False) | _ => False) := h
    cases e : M p with
    | none => rw [e] at h'; exact h'.elim
    | some mo =>
      rw [e] at h'
      cases mo <;> try (exact h'.elim)
      rename_i ws
      have h2 : (match allD ws with | some ds => Q (.d (.list ds)) (mdel M p) | none => False) := h'
      cases e2 : allD ws with
      | none => rw [e2] at h2; exact h2.elim
      | some ds =>
        rw [e2] at h2
        rw [allD_eq e2] at e
        obtain ⟨G', st, d⟩ := Stp.frz s e
        exact k _ _ _ _ _ st d h2
def wFrz (w : WE) : WE := fun xq ρ M Q => w xq ρ M fun x M1 => frz x M1 Q
theorem de_frz {e : Expr} {w : WE} (h : DE X Wx e w) : DE X Wx e (wFrz w) := by
  obtain ⟨t, p, s⟩ := h
  exact ⟨t, p, fun xq ρ M σ G H Q R rl hw kk => s xq ρ M σ G H _ _ rl hw fun v H1 G1 M1 x s1 r1 q1 => frz_ok s1.sim r1 q1 fun v' H' G' M' y s2 => kk v' H' G' M' y (s1.trans s2)⟩
/-- a tuple whose items may be owned -/
def wTupR (a : WA) : WE := fun xq ρ M Q => a xq ρ M fun xs M1 => xs.length ≤ 16777216 ∧ ∀ p, M1 p = none → Q (.r (.ref p)) (mset M1 p (.tup xs))
theorem de_tupR {es : List Expr} {wa : WA} {x1} {pos : Pos} (h : DA X Wx es wa) : DE X Wx (.Tuple es x1 pos) (wTupR wa) := by
  obtain ⟨t, p, s⟩ := h
  refine ⟨_, pe_tup p, fun xq ρ M σ G H Q R rl hw kk => ?_⟩
  refine s xq ρ M σ G H _ _ rl hw fun vs H1 G1 M1 xs s1 r1 q1 => ?_
  refine ⟨by rw [sizeLine_eq, ← paired_len r1]; exact q1.1, fun q hq => ?_⟩
  exact kk _ _ _ _ _ (s1.trans (Stp.new s1.sim hq (show RelMO X.K G1 (.tup xs) (.tup vs) from r1))) rfl (q1.2 q (s1.sim.free hq).1)

/-! ### targets -/
abbrev WG := XQ → W → Env → MM → (Env → MM → Prop) → Prop
def SndG (K : PySem.W.Frag) (Wx : WX) (g : TG) (wg : WG) : Prop := ∀ xq x v ρ M σ G H Q R, Rl K Wx xq ρ M σ G H → RelW K G x v → wg xq x ρ M Q →
  (∀ ρ' M' σ' G' H', Stp K G M H G' M' H' → RelEnv K G' ρ' σ' → Q ρ' M' → R σ' H') → g v σ H R
structure DG (X : Cx) (Wx : WX) (t : Expr) (w : WG) : Prop where
  ex : ∃ g, PG X t g ∧ SndG X.K Wx g w
abbrev WGs := XQ → List W → Env → MM → (Env → MM → Prop) → Prop
structure DGs (X : Cx) (Wx : WX) (t : List Expr) (w : WGs) : Prop where
  ex : ∃ g, PGs X t g ∧ ∀ xq xs vs ρ M σ G H Q R, Rl X.K Wx xq ρ M σ G H → Paired (RelW X.K G) xs vs → w xq xs ρ M Q →
    (∀ ρ' M' σ' G' H', Stp X.K G M H G' M' H' → RelEnv X.K G' ρ' σ' → Q ρ' M' → R σ' H') → g vs σ H R
def wgN (i : Nat) : WG := fun _ x ρ M Q => Q (ρ.set i (some x)) M
theorem sndgN {i : Nat} : SndG X.K Wx (gName i) (wgN i) := fun xq x v ρ M σ G H Q R rl r h kk => kk _ _ _ _ _ rl.refl (rl.env.set r i) h
theorem dg_name (i : Nat) {x : Str} {pos : Pos} (c : Cq X Wx k) (hi : X.N[i]? = some x := by rfl) (hx : Loc X.env.scope x := by first | exact Or.inl rfl | exact Or.inr rfl)
    (hf : X.fn x = true ∨ X.env.scope.names.lookup x = some .local := by first | exact Or.inl rfl | exact Or.inr rfl) : DG X Wx (.Name x pos) (wgN i) := ⟨_, pg_name c.nd hi hx hf, sndgN⟩
def wgNil : WGs := fun _ xs ρ M Q => xs = [] ∧ Q ρ M
def wgCons (a : WG) (r : WGs) : WGs := fun xq xs ρ M Q => match xs with
  | x :: xs => a xq x ρ M fun ρ' M' => r xq xs ρ' M' Q
  | [] => False
theorem dgs_nil : DGs X Wx [] wgNil := ⟨_, pgs_nil, fun xq xs vs ρ M σ G H Q R rl r h kk => by
  obtain ⟨rfl, q⟩ := h
  cases r
  exact ⟨rfl, kk _ _ _ _ _ rl.refl rl.env q⟩⟩
theorem dgs_cons {e : Expr} {es : List Expr} {a : WG} {r : WGs} (h1 : DG X Wx e a) (h2 : DGs X Wx es r) (hs : (assignEach (e :: es) X.env).map (·.2) = assign e X.env :: (assignEach es X.env).map (·.2) := by rfl) : DGs X Wx (e :: es) (wgCons a r) := by
  obtain ⟨g1, p1, s1⟩ := h1
  obtain ⟨g2, p2, s2⟩ := h2
  refine ⟨_, pgs_cons p1 p2 hs, fun xq xs vs ρ M σ G H Q R rl rr h kk => ?_⟩
  cases rr with
  | nil => exact h.elim
  | cons ra rt =>
    refine ⟨_, _, rfl, ?_⟩
    refine s1 xq _ _ ρ M σ G H _ _ rl ra h fun ρ' M' σ' G' H' st re q => ?_
    have rl' : Rl X.K Wx xq ρ' M' σ' G' H' := ⟨re, st.sim, (rl.next st).cpt⟩
    exact s2 xq _ _ ρ' M' σ' G' H' _ _ rl' (RelWs.ext st.ex rt) q fun ρ2 M2 σ2 G2 H2 st2 => kk _ _ _ _ _ (st.trans st2)
/-- a, b, .. = a tuple -/
def wgTup (n : Nat) (r : WGs) : WG := fun xq x ρ M Q => match x with
  | .d (.tuple ds) => ds.length = n ∧ r xq (ds.map W.d) ρ M Q
  | .r (.ref p) => (match M p with
    | some (.tup ws) => ws.length = n ∧ r xq ws ρ M Q
    | _ => False)
  | _ => False
theorem dg_tup {es : List Expr} {kk : Nat} {r : WGs} {n : Nat} {pos : Pos} (c : Cq X Wx k) (h : DGs X Wx es r) (hn : (assignEach es X.env).length = n := by rfl) (hst : (assignEach es X.env).findIdx? (·.1) = none := by rfl) : DG X Wx (.Tuple es kk pos) (wgTup n r) := by
  obtain ⟨g, p, s⟩ := h
  refine ⟨_, pg_tup c.calm p hn hst, fun xq x v ρ M σ G H Q R rl r1 h k' => ?_⟩
  cases x with
  | d d =>
    cases d <;> try (exact h.elim)
    rename_i ds
    obtain ⟨a, vs, rfl, t, _, d1⟩ := seeT_ok (ds := ds) rl.sim r1 rfl
    exact ⟨a, vs, rfl, t, by rw [dps_len d1]; exact h.1, s xq _ _ ρ M σ G H _ _ rl (dps_paired d1) h.2 k'⟩
  | r z =>
    have e : z = v := r1
    subst e
    cases z <;> try (exact h.elim)
    rename_i q
    have h' : (match M q with | some (.tup ws) => ws.length = n ∧ r xq ws ρ M Q | _ => False) := h
    cases e : M q with
    | none => rw [e] at h'; exact h'.elim
    | some mo =>
      rw [e] at h'
      cases mo <;> try (exact h'.elim)
      obtain ⟨_, ho, hh, rr⟩ := rl.sim.own q _ e
      cases ho <;> try (exact rr.elim)
      exact ⟨q, _, rfl, .inl (.inl hh), by rw [← paired_len rr]; exact h'.1, s xq _ _ ρ M σ G H _ _ rl rr h'.2 k'⟩
/-- xs[i] = .., xs an owned list -/
def setW (o i x : W) (M : MM) (Q : MM → Prop) : Prop := match o, i with
  | .r (.ref p), .d (.int j) => (match M p with
    | some (.lst ws) => (match ixN ws.length j with
      | some n => Q (mset M p (.lst (ws.set n x)))
      | none => False)
    | _ => False)
  | _, _ => False
def wgSub (wo wi : WE) : WG := fun xq x ρ M Q => wo xq ρ M fun o M1 => wi xq ρ M1 fun i M2 => setW o i x M2 fun M3 => Q ρ M3
theorem setW_ok {K : PySem.W.Frag} {G H : Hp} {M : MM} {o i x : W} {vo vi v : V} {Q : MM → Prop} {R : Hp → Prop} (s : Sim K G M H) (ro : RelW K G o vo) (ri : RelW K G i vi) (rx : RelW K G x v) (h : setW o i x M Q)
    (kk : ∀ M' H', Stp K G M H G M' H' → Q M' → R H') : rSetL vo vi v H R := by
  cases o with
  | d d => exact h.elim
  | r z =>
    have e : z = vo := ro
    subst e
    cases z <;> try (exact h.elim)
    rename_i p
    cases i with
    | r z => exact h.elim
    | d d =>
      cases d <;> try (exact h.elim)
      rename_i j
      cases ri
      have h' : (match M p with | some (.lst ws) => (match ixN ws.length j with | some n => Q (mset M p (.lst (ws.set n x))) | none => False) | _ => False) := h
      cases e : M p with
      | none => rw [e] at h'; exact h'.elim
      | some mo =>
        rw [e] at h'
        cases mo <;> try (exact h'.elim)
        rename_i ws
        have h2 : (match ixN ws.length j with | some n => Q (mset M p (.lst (ws.set n x))) | none => False) := h'
        cases e2 : ixN ws.length j with
        | none => rw [e2] at h2; exact h2.elim
        | some n =>
          rw [e2] at h2
          obtain ⟨_, ho, hh, rr⟩ := s.own p _ e
          cases ho <;> try (exact rr.elim)
          rename_i vs
          have rr' : Paired (RelW K G) ws vs := rr
          rw [paired_len rr'] at e2
          exact ⟨p, vs, j, n, rfl, rfl, hh, e2, kk _ _ (Stp.mut s e (show RelMO K G (.lst (ws.set n x)) (.lst (vs.set n v)) from paired_set rx n rr')) h2⟩
theorem sndgSub {to ti : TE} {wo wi : WE} (so : SndE X.K Wx to wo) (si : SndE X.K Wx ti wi) : SndG X.K Wx (gSub to ti rSetL) (wgSub wo wi) := fun xq x v ρ M σ G H Q R rl rx h kk =>
  so xq ρ M σ G H _ _ rl h fun vo H1 G1 M1 o s1 ro q1 => si xq ρ M1 σ G1 H1 _ _ (rl.next s1) q1 fun vi H2 G2 M2 i s2 ri q2 =>
    setW_ok s2.sim (ro.ext s2.ex) ri ((rx.ext s1.ex).ext s2.ex) q2 fun M3 H3 s3 q3 => kk _ _ _ _ _ ((s1.trans s2).trans s3) (rl.env.ext ((s1.trans s2).trans s3).ex) q3
theorem dg_sub {o i : Expr} {wo wi : WE} {pos : Pos} (ho : DE X Wx o wo) (hi : DE X Wx i wi)
    (ha : ∀ v, assign (.Subscript o i pos) X.env v = (do
      let ov ← holding [v] (eval o X.env)
      let iv ← holding [v, ov] (eval i X.env)
      standAt pos
      holding [v, ov, iv] (setItem ov iv v)
      release [v, ov, iv] []) := by intro _; rfl) : DG X Wx (.Subscript o i pos) (wgSub wo wi) := by
  obtain ⟨to, po, so⟩ := ho
  obtain ⟨ti, pi, si⟩ := hi
  exact ⟨_, pg_sub po pi set_list ha, sndgSub so si⟩

/-! ### statements -/
def wNext : WS := fun D ρ M => D.nx ρ M
def wSeq (a b : WS) : WS := fun D ρ M => a { D with nx := b D } ρ M
theorem dss_nil : DSs X Wx [] wNext := ⟨_, pss_nil, fun D ρ M σ G H E rl h o => o.nx _ _ _ _ _ rl.refl rl.env h⟩
theorem dss_cons {s : Stmt} {r : List Stmt} {a b : WS} (h1 : DS X Wx s a) (h2 : DSs X Wx r b) : DSs X Wx (s :: r) (wSeq a b) := by
  obtain ⟨t1, p1, s1⟩ := h1
  obtain ⟨t2, p2, s2⟩ := h2
  refine ⟨_, pss_cons p1 p2, fun D ρ M σ G H E rl h o => ?_⟩
  refine s1 { D with nx := b D } ρ M σ G H _ rl h ⟨fun ρ' M' σ' G' H' st re q => ?_, fun ρ' M' σ' G' H' st re q => o.bk _ _ _ _ _ st re q, fun ρ' M' σ' G' H' st re q => o.ct _ _ _ _ _ st re q, o.rt⟩
  exact s2 D ρ' M' σ' G' H' E ⟨re, st.sim, (rl.next st).cpt⟩ q (o.next st)
theorem dss_one {s : Stmt} {a : WS} (h1 : DS X Wx s a) : DSs X Wx [s] a := by
  obtain ⟨t1, p1, s1⟩ := h1
  exact ⟨_, pss_one p1, s1⟩
theorem ds_pass {pos : Pos} : DS X Wx (.Pass pos) wNext := ⟨_, ps_pass, fun D ρ M σ G H E rl h o => o.nx _ _ _ _ _ rl.refl rl.env h⟩
def wBrk : WS := fun D ρ M => D.bk ρ M
def wCnt : WS := fun D ρ M => D.ct ρ M
theorem ds_break {pos : Pos} : DS X Wx (.Break pos) wBrk := ⟨_, ps_break, fun D ρ M σ G H E rl h o => o.bk _ _ _ _ _ rl.refl rl.env h⟩
theorem ds_continue {pos : Pos} : DS X Wx (.Continue pos) wCnt := ⟨_, ps_continue, fun D ρ M σ G H E rl h o => o.ct _ _ _ _ _ rl.refl rl.env h⟩
def wDrop (w : WE) : WS := fun D ρ M => w D.xq ρ M fun _ M1 => D.nx ρ M1
theorem ds_expr {e : Expr} {w : WE} {pos : Pos} (h : DE X Wx e w) (hs : swapsWith e none pos.line X.env = pure false := by rfl) : DS X Wx (.Expr e pos) (wDrop w) := by
  obtain ⟨t, p, s⟩ := h
  exact ⟨_, ps_expr p hs, fun D ρ M σ G H E rl h o => s D.xq ρ M σ G H _ _ rl h fun v H1 G1 M1 x s1 r1 q1 => o.nx _ _ _ _ _ s1 (rl.env.ext s1.ex) q1⟩
def wRet (w : WE) : WS := fun D ρ M => w D.xq ρ M D.rt
theorem ds_ret {e : Expr} {w : WE} {pos : Pos} (h : DE X Wx e w) : DS X Wx (.Return (some e) pos) (wRet w) := by
  obtain ⟨t, p, s⟩ := h
  exact ⟨_, ps_ret p, fun D ρ M σ G H E rl h o => s D.xq ρ M σ G H _ _ rl h o.rt⟩
def wRetN : WS := fun D _ M => D.rt (.d .none) M
theorem ds_retN {pos : Pos} : DS X Wx (.Return none pos) wRetN := ⟨_, ps_retN, fun D ρ M σ G H E rl h o => o.rt _ _ _ _ _ rl.refl Dp.non h⟩
def wIf (c : WT) (a b : WS) : WS := fun D ρ M => c D.xq ρ M fun z M1 => if z = true then a D ρ M1 else b D ρ M1
theorem ds_if {c : Expr} {a b : List Stmt} {wc : WT} {wa wb : WS} {pos : Pos} (hc : DT X Wx c wc) (ha : DSs X Wx a wa) (hb : DSs X Wx b wb) : DS X Wx (.If c a b pos) (wIf wc wa wb) := by
  obtain ⟨tc, pc, sc⟩ := hc
  obtain ⟨ta, pa, sa⟩ := ha
  obtain ⟨tb, pb, sb⟩ := hb
  refine ⟨_, ps_if pc pa pb, fun D ρ M σ G H E rl h o => ?_⟩
  refine sc D.xq ρ M σ G H _ _ rl h fun z H1 G1 M1 s1 q1 => ?_
  cases z with
  | true =>
    show ta E σ H1
    exact sa D ρ M1 σ G1 H1 E (rl.next s1) q1 (o.next s1)
  | false =>
    show tb E σ H1
    exact sb D ρ M1 σ G1 H1 E (rl.next s1) q1 (o.next s1)
def wNever : WS := fun _ _ _ => False
theorem ds_never {s : Stmt} : DS X Wx s wNever := ⟨_, ps_never, fun D ρ M σ G H E rl h o => h.elim⟩
def wAsg (w : WE) (g : WG) : WS := fun D ρ M => w D.xq ρ M fun x M1 => g D.xq x ρ M1 D.nx
theorem sndAsg {te : TE} {w : WE} {g : TG} {wg : WG} (se : SndE X.K Wx te w) (sg : SndG X.K Wx g wg) : SndS X.K Wx (tAsg te g) (wAsg w wg) := fun D ρ M σ G H E rl h o =>
  se D.xq ρ M σ G H _ _ rl h fun v H1 G1 M1 x s1 r1 q1 => sg D.xq x v ρ M1 σ G1 H1 _ _ (rl.next s1) r1 q1 fun ρ' M' σ' G' H' st re q => o.nx _ _ _ _ _ (s1.trans st) re q
theorem ds_set (i : Nat) {x : Str} {e : Expr} {w : WE} {pos' pos : Pos} (c : Cq X Wx k) (h : DE X Wx e w) (hs : swapsWith e (some (.Name x pos')) pos.line X.env = pure false := by rfl) (hi : X.N[i]? = some x := by rfl) (hx : Loc X.env.scope x := by first | exact Or.inl rfl | exact Or.inr rfl)
    (hf : X.fn x = true ∨ X.env.scope.names.lookup x = some .local := by first | exact Or.inl rfl | exact Or.inr rfl) : DS X Wx (.Assign [.Name x pos'] e pos) (wAsg w (wgN i)) := by
  obtain ⟨t, p, s⟩ := h
  exact ⟨_, ps_set c.nd hi hx p hs hf, sndAsg s sndgN⟩
theorem ds_asg {tg e : Expr} {w : WE} {wg : WG} {pos : Pos} (h : DE X Wx e w) (hg : DG X Wx tg wg) (hs : swapsWithSole [tg] e pos.line X.env = pure false := by rfl) (hw : swappedStores [tg] e X.env = pure none := by rfl)
    (h1 : (assignEach [tg] X.env).map (·.2) = [assign tg X.env] := by rfl) : DS X Wx (.Assign [tg] e pos) (wAsg w wg) := by
  obtain ⟨t, p, s⟩ := h
  obtain ⟨g, pg, sg⟩ := hg
  exact ⟨_, ps_asg p pg hs hw h1, sndAsg s sg⟩
def wPar2 (i j : Nat) (wa : WA) : WS := fun D ρ M => wa D.xq ρ M fun xs M1 => match xs with
  | [x, y] => D.nx ((ρ.set i (some x)).set j (some y)) M1
  | _ => False
theorem ds_par2 (i j : Nat) {x y : Str} {a b : Expr} {wa : WA} {px py pt pos : Pos} {kt k2 pt2} (c : Cq X Wx k) (ha : DA X Wx [a, b] wa) (hi : X.N[i]? = some x := by rfl) (hj : X.N[j]? = some y := by rfl) (hij : i ≠ j := by decide)
    (hx : X.env.scope.names.lookup x = some .local := by rfl) (hy : X.env.scope.names.lookup y = some .local := by rfl)
    (hw : swappedStores [.Tuple [.Name x px, .Name y py] kt pt] (.Tuple [a, b] k2 pt2) X.env = pure (some [x, y]) := by rfl)
    (hs : swapsWithSole [.Tuple [.Name x px, .Name y py] kt pt] (.Tuple [a, b] k2 pt2) pos.line X.env = pure false := by rfl) : DS X Wx (.Assign [.Tuple [.Name x px, .Name y py] kt pt] (.Tuple [a, b] k2 pt2) pos) (wPar2 i j wa) := by
  obtain ⟨t, p, s⟩ := ha
  refine ⟨_, ps_par c.calm c.nd hi hj hij hx hy p hw hs, fun D ρ M σ G H E rl h o => ?_⟩
  refine s D.xq ρ M σ G H _ _ rl h fun vs H1 G1 M1 xs s1 r1 q1 => ?_
  match xs, q1 with
  | [x, y], q1 =>
    obtain ⟨v, u, rfl, rx, ry⟩ := paired2 r1
    exact ⟨v, u, rfl, o.nx _ _ _ _ _ s1 (((rl.env.ext s1.ex).set rx i).set ry j) q1⟩
def wPar3 (i j l : Nat) (wa : WA) : WS := fun D ρ M => wa D.xq ρ M fun xs M1 => match xs with
  | [x, y, z] => D.nx (((ρ.set i (some x)).set j (some y)).set l (some z)) M1
  | _ => False
theorem ds_par3 (i j l : Nat) {x y z : Str} {a b d : Expr} {wa : WA} {px py pz pt pos : Pos} {kt k2 pt2} (c : Cq X Wx k) (ha : DA X Wx [a, b, d] wa) (hi : X.N[i]? = some x := by rfl) (hj : X.N[j]? = some y := by rfl) (hl : X.N[l]? = some z := by rfl) (hij : i ≠ j := by decide) (hil : i ≠ l := by decide) (hjl : j ≠ l := by decide)
    (hx : X.env.scope.names.lookup x = some .local := by rfl) (hy : X.env.scope.names.lookup y = some .local := by rfl) (hz : X.env.scope.names.lookup z = some .local := by rfl)
    (hw : swappedStores [.Tuple [.Name x px, .Name y py, .Name z pz] kt pt] (.Tuple [a, b, d] k2 pt2) X.env = pure (some [x, y, z]) := by rfl)
    (hs : swapsWithSole [.Tuple [.Name x px, .Name y py, .Name z pz] kt pt] (.Tuple [a, b, d] k2 pt2) pos.line X.env = pure false := by rfl) : DS X Wx (.Assign [.Tuple [.Name x px, .Name y py, .Name z pz] kt pt] (.Tuple [a, b, d] k2 pt2) pos) (wPar3 i j l wa) := by
  obtain ⟨t, p, s⟩ := ha
  refine ⟨_, ps_par3 c.calm c.nd hi hj hl hij hil hjl hx hy hz p hw hs, fun D ρ M σ G H E rl h o => ?_⟩
  refine s D.xq ρ M σ G H _ _ rl h fun vs H1 G1 M1 xs s1 r1 q1 => ?_
  match xs, vs, r1, q1 with
  | [x, y, z], [v, u, w], .cons rx (.cons ry (.cons rz .nil)), q1 =>
    exact ⟨v, u, w, rfl, o.nx _ _ _ _ _ s1 ((((rl.env.ext s1.ex).set rx i).set ry j).set rz l) q1⟩

/-! ### methods of lists -/
abbrev WM := W → List W → MM → KW → Prop
def wMeth (f : WM) (wo : WE) (wa : WA) : WE := fun xq ρ M Q => wo xq ρ M fun o M1 => wa xq ρ M1 fun xs M2 => f o xs M2 Q
/-- xs.append(x), xs owned -/
def mAppend : WM := fun o xs M Q => match o, xs with
  | .r (.ref p), [x] => (match M p with
    | some (.lst ws) => ws.length < 16777216 ∧ Q (.d .none) (mset M p (.lst (ws ++ [x])))
    | _ => False)
  | _, _ => False
theorem own_of {K : PySem.W.Frag} {G H : Hp} {M : MM} {p : Addr} {ws : List W} (s : Sim K G M H) (e : M p = some (.lst ws)) : ∃ vs, H p = some (.lst vs) ∧ Paired (RelW K G) ws vs := by
  obtain ⟨_, ho, hh, rr⟩ := s.own p _ e
  cases ho <;> try (exact rr.elim)
  exact ⟨_, hh, rr⟩
/-- what a list's method asks of its receiver first: it is a list, also behind its arguments -/
def isLst (M : MM) (o : W) : Prop := (seeL M o).isSome = true
def wMethL (f : WM) (wo : WE) (wa : WA) : WE := fun xq ρ M Q => wo xq ρ M fun o M1 => isLst M1 o ∧ wa xq ρ M1 fun xs M2 => f o xs M2 Q
def SndM (K : PySem.W.Frag) (r : V → List V → Hp → VK → Prop) (f : WM) : Prop := ∀ M G H o xs v vs Q R, Sim K G M H → RelW K G o v → Paired (RelW K G) xs vs → f o xs M Q → KOk K G M H Q R → r v vs H R
theorem de_meth {T id : String} {name : Str} {r : V → List V → Hp → VK → Prop} {f : WM} {o e : Expr} {es : List Expr} {wo : WE} {wa : WA} {apos cpos : Pos} (pa : PlainAttrs "list") (slot : Slot "list" name id) (hty : typeOf (.builtin id) = pure (.type "method_descriptor")) (hm : MtR X id r) (hs : SndM X.K r f)
    (ho : DE X Wx o wo) (ha : DA X Wx (e :: es) wa) (hbase : attributeBase o name X.env (eval o X.env) = eval o X.env := by rfl)
    (hfew : ((backTo cpos (starEach (e :: es) X.env)).all (fun x => !x.1) && (backToKw cpos (keywordEach [] X.env)).all (fun x => x.1.isSome)
      && decide ((e :: es).length + ([] : List Keyword).length + (if ([] : List Keyword).isEmpty then 0 else 1) < 30)) = true := by rfl)
    (hline : (apos.endLine == cpos.line) = true := by rfl) (hst : starEach (e :: es) X.env = (false, eval e X.env) :: starEach es X.env := by rfl) (hplain : (backTo cpos (starEach es X.env)).any (·.1) = false := by rfl) :
    DE X Wx (.Call (.Attribute o name apos) (e :: es) [] cpos) (wMethL f wo wa) := by
  obtain ⟨to, po, so⟩ := ho
  obtain ⟨ta, pa', sa⟩ := ha
  refine ⟨_, pe_bm pa slot hty hm po pa' hbase hfew hline hst hplain, fun xq ρ M σ G H Q R rl h kk => ?_⟩
  refine so xq ρ M σ G H _ _ rl h fun v H1 G1 M1 x s1 r1 q1 => ?_
  refine ⟨?_, sa xq ρ M1 σ G1 H1 _ _ (rl.next s1) q1.2 fun vs H2 G2 M2 xs s2 r2 q2 => hs M2 G2 H2 x xs v vs _ _ s2.sim (r1.ext s2.ex) r2 q2 fun v' H' G' M' y s3 => kk v' H' G' M' y ((s1.trans s2).trans s3)⟩
  have hl := q1.1
  unfold isLst at hl
  cases e : seeL M1 x with
  | none => rw [e] at hl; cases hl
  | some ws =>
    obtain ⟨p, us, rfl, sq, _⟩ := seeL_ok s1.sim r1 e
    exact .inl ⟨rfl, us, sq⟩
theorem sm_append : SndM X.K rAppend mAppend := fun M G H o xs v vs Q R s ro r h kk => by
  cases o with
  | d d => exact h.elim
  | r z =>
    have e : z = v := ro
    subst e
    cases z <;> try (exact h.elim)
    rename_i p
    match xs, h with
    | [x], h =>
      obtain ⟨u, rfl, rx⟩ := paired1 r
      have h' : (match M p with | some (.lst ws) => ws.length < 16777216 ∧ Q (.d .none) (mset M p (.lst (ws ++ [x]))) | _ => False) := h
      cases e : M p with
      | none => rw [e] at h'; exact h'.elim
      | some mo =>
        rw [e] at h'
        cases mo <;> try (exact h'.elim)
        rename_i ws
        obtain ⟨us, hh, rr⟩ := own_of s e
        exact ⟨p, us, u, rfl, rfl, hh, by rw [sizeLine_eq, ← paired_len rr]; exact h'.1, kk _ _ _ _ _ (Stp.mut s e (show RelMO X.K G (.lst (ws ++ [x])) (.lst (us ++ [u])) from paired_app rr (.cons rx .nil))) Dp.non h'.2⟩
theorem de_append {o e : Expr} {wo : WE} {wa : WA} {apos cpos : Pos} (ho : DE X Wx o wo) (ha : DA X Wx [e] wa) (hbase : attributeBase o "append" X.env (eval o X.env) = eval o X.env := by rfl)
    (hfew : ((backTo cpos (starEach [e] X.env)).all (fun x => !x.1) && (backToKw cpos (keywordEach [] X.env)).all (fun x => x.1.isSome)
      && decide ([e].length + ([] : List Keyword).length + (if ([] : List Keyword).isEmpty then 0 else 1) < 30)) = true := by rfl)
    (hline : (apos.endLine == cpos.line) = true := by rfl) (hst : starEach [e] X.env = (false, eval e X.env) :: starEach [] X.env := by rfl) (hplain : (backTo cpos (starEach [] X.env)).any (·.1) = false := by rfl) :
    DE X Wx (.Call (.Attribute o "append" apos) [e] [] cpos) (wMethL mAppend wo wa) :=
  de_meth (T := "list") PySem.F.plainAttrs_list PySem.F.slot_list_append PySem.F.type_list_append mt_append sm_append ho ha hbase hfew hline hst hplain
/-- xs.extend(ys), both owned -/
def mExtend : WM := fun o xs M Q => match o, xs with
  | .r (.ref p), [y] => (match M p, ownL M y with
    | some (.lst ws), some us => ws.length + us.length ≤ 16777216 ∧ Q (.d .none) (mset M p (.lst (ws ++ us)))
    | _, _ => False)
  | _, _ => False
theorem sm_extend : SndM X.K rExtend mExtend := fun M G H o xs v vs Q R s ro r h kk => by
  cases o with
  | d d => exact h.elim
  | r z =>
    have e : z = v := ro
    subst e
    cases z <;> try (exact h.elim)
    rename_i p
    match xs, h with
    | [y], h =>
      obtain ⟨u, rfl, rx⟩ := paired1 r
      have h' : (match M p, ownL M y with | some (.lst ws), some us => ws.length + us.length ≤ 16777216 ∧ Q (.d .none) (mset M p (.lst (ws ++ us))) | _, _ => False) := h
      cases e : M p with
      | none => rw [e] at h'; exact h'.elim
      | some mo =>
        rw [e] at h'
        cases mo <;> try (exact h'.elim)
        rename_i ws
        cases e2 : ownL M y with
        | none => rw [e2] at h'; exact h'.elim
        | some us =>
          rw [e2] at h'
          obtain ⟨vs1, hh, rr⟩ := own_of s e
          obtain ⟨p2, vs2, rfl, rfl, _, hh2, rr2⟩ := ownL_ok s rx e2
          exact ⟨p, p2, vs1, vs2, rfl, rfl, hh, hh2, by rw [sizeLine_eq, ← paired_len rr, ← paired_len rr2]; exact h'.1, kk _ _ _ _ _ (Stp.mut s e (show RelMO X.K G (.lst (ws ++ us)) (.lst (vs1 ++ vs2)) from paired_app rr rr2)) Dp.non h'.2⟩
theorem de_extend {o e : Expr} {wo : WE} {wa : WA} {apos cpos : Pos} (ho : DE X Wx o wo) (ha : DA X Wx [e] wa) (hbase : attributeBase o "extend" X.env (eval o X.env) = eval o X.env := by rfl)
    (hfew : ((backTo cpos (starEach [e] X.env)).all (fun x => !x.1) && (backToKw cpos (keywordEach [] X.env)).all (fun x => x.1.isSome)
      && decide ([e].length + ([] : List Keyword).length + (if ([] : List Keyword).isEmpty then 0 else 1) < 30)) = true := by rfl)
    (hline : (apos.endLine == cpos.line) = true := by rfl) (hst : starEach [e] X.env = (false, eval e X.env) :: starEach [] X.env := by rfl) (hplain : (backTo cpos (starEach [] X.env)).any (·.1) = false := by rfl) :
    DE X Wx (.Call (.Attribute o "extend" apos) [e] [] cpos) (wMethL mExtend wo wa) :=
  de_meth (T := "list") PySem.F.plainAttrs_list PySem.F.slot_list_extend PySem.F.type_list_extend mt_extend sm_extend ho ha hbase hfew hline hst hplain
end
end DL
namespace DL
open PySem PySem.Spec PyProof.Rows L2
section
variable {X : Cx} {Wx : WX} {k : Nat}
/-! ### what is walked: its items, and what must stand at each turn -/
abbrev WI := XQ → Env → MM → (List W → (MM → Prop) → MM → Prop) → Prop
def JOk (K : PySem.W.Frag) (G : Hp) (J : It) (items : List W) (st : MM → Prop) : Prop := ∀ (i : Nat) G' M' H', Ex G G' → Sim K G' M' H' → st M' →
  (i < items.length → J.go i H' ∧ ∀ x H2, J.yld i H' x H2 → ∃ G2 w, Stp K G' M' H' G2 M' H2 ∧ items[i]? = some w ∧ RelW K G2 w x) ∧ (items.length ≤ i → J.stop i H')
structure DI (X : Cx) (Wx : WX) (tg iter : Expr) (w : WI) : Prop where
  ex : ∃ wi, PI X tg iter wi ∧ ∀ xq ρ M σ G H (Q : List W → (MM → Prop) → MM → Prop) (R : It → Hp → Prop), Rl X.K Wx xq ρ M σ G H → w xq ρ M Q →
    (∀ J H' G' M' items st, Stp X.K G M H G' M' H' → JOk X.K G' J items st → Q items st M' → R J H') → wi σ H R
/-- a list -/
def stL (x : W) (ws : List W) : MM → Prop := match x with
  | .d _ => fun _ => True
  | .r (.ref p) => fun M => M p = some (.lst ws)
  | _ => fun _ => False
def iL (w : WE) : WI := fun xq ρ M Q => w xq ρ M fun x M1 => match seeL M1 x with
  | some ws => Q ws (stL x ws) M1
  | none => False
theorem see_st {M M' : MM} {x : W} {ws : List W} (h : seeL M x = some ws) (st : stL x ws M') : seeL M' x = some ws := by
  cases x with
  | d d => cases d <;> first | exact h | cases h
  | r z =>
    cases z <;> try (cases h)
    have e : M' _ = some (.lst ws) := st
    unfold seeL
    simp only [e]
theorem jok_list {K : PySem.W.Frag} {G H : Hp} {M : MM} {x : W} {v : V} {ws : List W} {p : Addr} (r : RelW K G x (.ref p)) (h : seeL M x = some ws) : JOk K G (Itl K p) ws (stL x ws) := fun i G' M' H' e s st => by
  obtain ⟨p', vs, ep, sq, pr⟩ := seeL_ok s (r.ext e) (see_st h st)
  have ep' : p = p' := V.ref.inj ep
  subst ep'
  have hl := paired_len pr
  refine ⟨fun hi => ⟨?_, fun x2 H2 hy => ?_⟩, fun hi => ⟨vs, sq, by rw [← hl]; exact hi⟩⟩
  · have hi' : i < vs.length := by rw [← hl]; exact hi
    exact ⟨vs, vs[i], sq, List.getElem?_eq_getElem hi'⟩
  · obtain ⟨rfl, hy⟩ := hy
    have e1 := hy vs sq
    obtain ⟨y, e2, rr⟩ := paired_at pr (List.getElem?_eq_getElem hi)
    rw [e1] at e2
    cases e2
    exact ⟨G', _, Stp.refl s, List.getElem?_eq_getElem hi, rr⟩
theorem di_list {tg e : Expr} {w : WE} (h : DE X Wx e w) : DI X Wx tg e (iL w) := by
  obtain ⟨t, p, s⟩ := h
  refine ⟨_, pi_list p, fun xq ρ M σ G H Q R rl h kk => ?_⟩
  refine s xq ρ M σ G H _ _ rl h fun v H1 G1 M1 x s1 r1 q1 => ?_
  cases e : seeL M1 x with
  | none => rw [e] at q1; exact q1.elim
  | some ws =>
    rw [e] at q1
    obtain ⟨a, vs, rfl, sq, pr⟩ := seeL_ok s1.sim r1 e
    exact ⟨a, rfl, ⟨vs, sq⟩, kk _ _ _ _ _ _ s1 (jok_list (H := H1) (v := .ref a) r1 e) q1⟩
/-- a tuple -/
def iT (w : WE) : WI := fun xq ρ M Q => w xq ρ M fun x M1 => match x with
  | .d (.tuple ds) => Q (ds.map W.d) (fun _ => True) M1
  | _ => False
theorem jok_tup {K : PySem.W.Frag} {G : Hp} {ds : List PyData} {p : Addr} (r : Dp K G (.ref p) (.tuple ds)) : JOk K G (Itt K p) (ds.map W.d) (fun _ => True) := fun i G' M' H' e s st => by
  obtain ⟨p', vs, ep, sq, _, dd⟩ := seeT_ok (x := .d (.tuple ds)) (ds := ds) s (e.dp r) rfl
  have ep' : p = p' := V.ref.inj ep
  subst ep'
  have pr := dps_paired dd
  have hl := paired_len pr
  refine ⟨fun hi => ⟨?_, fun x2 H2 hy => ?_⟩, fun hi => ⟨vs, sq, by rw [← hl]; exact hi⟩⟩
  · have hi' : i < vs.length := by rw [← hl]; exact hi
    exact ⟨vs, vs[i], sq, List.getElem?_eq_getElem hi'⟩
  · obtain ⟨rfl, hy⟩ := hy
    have e1 := hy vs sq
    obtain ⟨y, e2, rr⟩ := paired_at pr (List.getElem?_eq_getElem hi)
    rw [e1] at e2
    cases e2
    exact ⟨G', _, Stp.refl s, List.getElem?_eq_getElem hi, rr⟩
theorem di_tup {tg e : Expr} {w : WE} (h : DE X Wx e w) : DI X Wx tg e (iT w) := by
  obtain ⟨t, p, s⟩ := h
  refine ⟨_, pi_tup p, fun xq ρ M σ G H Q R rl h kk => ?_⟩
  refine s xq ρ M σ G H _ _ rl h fun v H1 G1 M1 x s1 r1 q1 => ?_
  cases x with
  | r z => exact q1.elim
  | d d =>
    cases d <;> try (exact q1.elim)
    rename_i ds
    obtain ⟨a, vs, rfl, sq, _, dd⟩ := seeT_ok (ds := ds) s1.sim r1 rfl
    exact ⟨a, rfl, ⟨vs, sq⟩, kk _ _ _ _ _ _ s1 (jok_tup r1) q1⟩
/-- a range -/
def rgW (lo : Int) (n : Nat) : List W := (List.range n).map fun i => .d (.int (lo + (i : Nat)))
theorem jok_range {K : PySem.W.Frag} {G : Hp} {lo : Int} {n : Nat} : JOk K G (Itr lo n) (rgW lo n) (fun _ => True) := fun i G' M' H' e s st => by
  have hl : (rgW lo n).length = n := by unfold rgW; rw [List.length_map, List.length_range]
  rw [hl]
  refine ⟨fun hi => ⟨hi, fun x H2 hy => ?_⟩, fun hi => hi⟩
  obtain ⟨rfl, rfl⟩ := hy
  refine ⟨G', .d (.int (lo + i)), Stp.refl s, ?_, Dp.int _⟩
  unfold rgW
  rw [List.getElem?_map, List.getElem?_range hi]; rfl
def iR1 (wa : WA) : WI := fun xq ρ M Q => wa xq ρ M fun xs M1 => match xs with
  | [.d (.int j)] => (-(2 ^ 62) ≤ j ∧ j < 2 ^ 62) ∧ Q (rgW 0 j.toNat) (fun _ => True) M1
  | _ => False
theorem di_range1 {tg a : Expr} {wa : WA} {p pos : Pos} (hm : X.mg "range" = none) (ha : DA X Wx [a] wa) (hg : Gl X "range" := by rfl) (hs : starEach [a] X.env = [(false, eval a X.env)] := by rfl) : DI X Wx tg (.Call (.Name "range" p) [a] [] pos) (iR1 wa) := by
  obtain ⟨t, p, s⟩ := ha
  refine ⟨_, pi_range1 hg hm p hs, fun xq ρ M σ G H Q R rl h kk => ?_⟩
  refine s xq ρ M σ G H _ _ rl h fun vs H1 G1 M1 xs s1 r1 q1 => ?_
  match xs, q1 with
  | [.d (.int j)], q1 =>
    obtain ⟨v, rfl, rx⟩ := paired1 r1
    cases rx
    exact ⟨j, rfl, q1.1.1, q1.1.2, kk _ _ _ _ _ _ s1 jok_range q1.2⟩
def iR2 (wa : WA) : WI := fun xq ρ M Q => wa xq ρ M fun xs M1 => match xs with
  | [.d (.int i), .d (.int j)] => (-(2 ^ 62) ≤ i ∧ i < 2 ^ 62 ∧ -(2 ^ 62) ≤ j ∧ j < 2 ^ 62) ∧ Q (rgW i (j - i).toNat) (fun _ => True) M1
  | _ => False
theorem di_range2 {tg a b : Expr} {wa : WA} {p pos : Pos} (hm : X.mg "range" = none) (ha : DA X Wx [a, b] wa) (hg : Gl X "range" := by rfl) (hs : starEach [a, b] X.env = [(false, eval a X.env), (false, eval b X.env)] := by rfl) (hs2 : starEach [b] X.env = [(false, eval b X.env)] := by rfl) :
    DI X Wx tg (.Call (.Name "range" p) [a, b] [] pos) (iR2 wa) := by
  obtain ⟨t, p, s⟩ := ha
  refine ⟨_, pi_range2 hg hm p hs hs2, fun xq ρ M σ G H Q R rl h kk => ?_⟩
  refine s xq ρ M σ G H _ _ rl h fun vs H1 G1 M1 xs s1 r1 q1 => ?_
  match xs, q1 with
  | [.d (.int i), .d (.int j)], q1 =>
    obtain ⟨v, u, rfl, rx, ry⟩ := paired2 r1
    cases rx; cases ry
    exact ⟨i, j, rfl, q1.1, kk _ _ _ _ _ _ s1 jok_range q1.2⟩
/-- enumerate of a list -/
def enW : Nat → List PyData → List W
  | _, [] => []
  | n, d :: r => .d (.tuple [.int (n : Nat), d]) :: enW (n + 1) r
theorem enW_at : ∀ (ds : List PyData) (n i : Nat), (enW n ds)[i]? = (ds[i]?).map fun d => .d (.tuple [.int ((n + i : Nat)), d])
  | [], _, _ => rfl
  | d :: r, n, 0 => rfl
  | d :: r, n, i + 1 => by
    show (enW (n + 1) r)[i]? = _
    rw [enW_at r (n + 1) i, List.getElem?_cons_succ]
    congr 1
    funext z
    rw [show n + 1 + i = n + (i + 1) by omega]
theorem enW_len : ∀ (ds : List PyData) (n : Nat), (enW n ds).length = ds.length
  | [], _ => rfl
  | _ :: r, n => by show (enW (n + 1) r).length + 1 = _; rw [enW_len r]; rfl
def iE (wa : WA) : WI := fun xq ρ M Q => wa xq ρ M fun xs M1 => match xs with
  | [x] => (match (seeL M1 x).bind allD with
    | some ds => Q (enW 0 ds) (stL x (ds.map W.d)) M1
    | none => False)
  | _ => False
theorem jok_enum {K : PySem.W.Frag} {G H : Hp} {M : MM} {x : W} {v : V} {ds : List PyData} {p : Addr} (r : RelW K G x (.ref p)) (h : seeL M x = some (ds.map W.d)) : JOk K G (Ite K p) (enW 0 ds) (stL x (ds.map W.d)) := fun i G' M' H' e s st => by
  obtain ⟨p', vs, ep, sq, pr⟩ := seeL_ok s (r.ext e) (see_st h st)
  have ep' : p = p' := V.ref.inj ep
  subst ep'
  have hl := paired_len pr
  rw [List.length_map] at hl
  rw [enW_len]
  refine ⟨fun hi => ⟨?_, fun x2 H2 hy => ?_⟩, fun hi => ⟨vs, sq, by rw [← hl]; exact hi⟩⟩
  · have hi' : i < vs.length := by rw [← hl]; exact hi
    exact ⟨vs, vs[i], sq, List.getElem?_eq_getElem hi'⟩
  · obtain ⟨T, y, rfl, hT, rfl, hy⟩ := hy
    have e1 := hy vs sq
    have ed : (ds.map W.d)[i]? = some (.d ds[i]) := by rw [List.getElem?_map, List.getElem?_eq_getElem hi]; rfl
    obtain ⟨y', e2, rr⟩ := paired_at pr ed
    rw [e1] at e2
    cases e2
    refine ⟨_, .d (.tuple [.int ((0 + i : Nat)), ds[i]]), Stp.dat s hT, ?_, ?_⟩
    · rw [enW_at, List.getElem?_eq_getElem hi]; rfl
    · rw [Nat.zero_add]
      exact .tup (.inl (.inl upd_same)) (.cons (.int _) (.cons ((Ex.new (s.free hT).2).dp rr) .nil))
theorem di_enum {e : Expr} {wa : WA} {p pos tpos : Pos} {elts : List Expr} {kk : Nat} (hm : X.mg "enumerate" = none) (ha : DA X Wx [e] wa) (hg : Gl X "enumerate" := by rfl) (hs : starEach [e] X.env = [(false, eval e X.env)] := by rfl) :
    DI X Wx (.Tuple elts kk tpos) (.Call (.Name "enumerate" p) [e] [] pos) (iE wa) := by
  obtain ⟨t, p, s⟩ := ha
  refine ⟨_, pi_enum hg hm p hs, fun xq ρ M σ G H Q R rl h kk => ?_⟩
  refine s xq ρ M σ G H _ _ rl h fun vs H1 G1 M1 xs s1 r1 q1 => ?_
  match xs, q1 with
  | [x], q1 =>
    obtain ⟨v, rfl, rx⟩ := paired1 r1
    have q1' : (match (seeL M1 x).bind allD with | some ds => Q (enW 0 ds) (stL x (ds.map W.d)) M1 | none => False) := q1
    cases e1 : seeL M1 x with
    | none => rw [e1] at q1'; exact q1'.elim
    | some ws =>
      rw [e1] at q1'
      have q2 : (match allD ws with | some ds => Q (enW 0 ds) (stL x (ds.map W.d)) M1 | none => False) := q1'
      cases e2 : allD ws with
      | none => rw [e2] at q2; exact q2.elim
      | some ds =>
        rw [e2] at q2
        rw [allD_eq e2] at e1
        obtain ⟨a, vs, rfl, sq, pr⟩ := seeL_ok s1.sim rx e1
        exact ⟨a, vs, rfl, sq, kk _ _ _ _ _ _ s1 (jok_enum (H := H1) (v := .ref a) rx e1) q2⟩
/-- zip of two lists -/
def zpW : List PyData → List PyData → List W
  | a :: r, b :: q => .d (.tuple [a, b]) :: zpW r q
  | _, _ => []
theorem zpW_at : ∀ (as bs : List PyData) (i : Nat) (a b : PyData), as[i]? = some a → bs[i]? = some b → (zpW as bs)[i]? = some (.d (.tuple [a, b]))
  | [], _, _, _, _, h, _ => by simp at h
  | _ :: _, [], _, _, _, _, h => by simp at h
  | x :: r, y :: q, 0, a, b, h, h' => by
    cases (Option.some.inj h : x = a); cases (Option.some.inj h' : y = b); rfl
  | x :: r, y :: q, i + 1, a, b, h, h' => zpW_at r q i a b h h'
theorem zpW_len : ∀ (as bs : List PyData), (zpW as bs).length = min as.length bs.length
  | [], _ => by simp [zpW]
  | _ :: _, [] => by simp [zpW]
  | _ :: r, _ :: q => by
    show (zpW r q).length + 1 = _
    rw [zpW_len r q, List.length_cons, List.length_cons]; omega
def iZ (wa : WA) : WI := fun xq ρ M Q => wa xq ρ M fun xs M1 => match xs with
  | [x, y] => (match (seeL M1 x).bind allD, (seeL M1 y).bind allD with
    | some ds, some es => Q (zpW ds es) (fun M => stL x (ds.map W.d) M ∧ stL y (es.map W.d) M) M1
    | _, _ => False)
  | _ => False
theorem jok_zip {K : PySem.W.Frag} {G : Hp} {M : MM} {x y : W} {ds es : List PyData} {p q : Addr} (r : RelW K G x (.ref p)) (r' : RelW K G y (.ref q)) (h : seeL M x = some (ds.map W.d)) (h' : seeL M y = some (es.map W.d)) :
    JOk K G (Itz K p q) (zpW ds es) (fun M => stL x (ds.map W.d) M ∧ stL y (es.map W.d) M) := fun i G' M' H' e s st => by
  obtain ⟨p', vs, ep, sq, pr⟩ := seeL_ok s (r.ext e) (see_st h st.1)
  have ep' : p = p' := V.ref.inj ep
  subst ep'
  obtain ⟨q', us, eq, sq', pr'⟩ := seeL_ok s (r'.ext e) (see_st h' st.2)
  have eq' : q = q' := V.ref.inj eq
  subst eq'
  have hl := paired_len pr
  have hl' := paired_len pr'
  rw [List.length_map] at hl hl'
  rw [zpW_len]
  refine ⟨fun hi => ?_, fun hi => ?_⟩
  · have h1 : i < ds.length := by omega
    have h2 : i < es.length := by omega
    refine ⟨⟨vs, us, _, _, sq, sq', List.getElem?_eq_getElem (by omega), List.getElem?_eq_getElem (by omega)⟩, fun z H2 hy => ?_⟩
    obtain ⟨T, y1, y2, rfl, hT, rfl, f1, f2⟩ := hy
    have e1 := f1 vs sq
    have e2 := f2 us sq'
    have ed : (ds.map W.d)[i]? = some (.d ds[i]) := by rw [List.getElem?_map, List.getElem?_eq_getElem h1]; rfl
    have ee : (es.map W.d)[i]? = some (.d es[i]) := by rw [List.getElem?_map, List.getElem?_eq_getElem h2]; rfl
    obtain ⟨z1, g1, rr1⟩ := paired_at pr ed
    obtain ⟨z2, g2, rr2⟩ := paired_at pr' ee
    rw [e1] at g1; cases g1
    rw [e2] at g2; cases g2
    refine ⟨_, .d (.tuple [ds[i], es[i]]), Stp.dat s hT, zpW_at _ _ _ _ _ (List.getElem?_eq_getElem h1) (List.getElem?_eq_getElem h2), ?_⟩
    exact .tup (.inl (.inl upd_same)) (.cons ((Ex.new (s.free hT).2).dp rr1) (.cons ((Ex.new (s.free hT).2).dp rr2) .nil))
  · exact ⟨vs, us, sq, sq', by omega⟩
theorem di_zip {e e2 : Expr} {wa : WA} {p pos tpos : Pos} {elts : List Expr} {kk : Nat} (hm : X.mg "zip" = none) (ha : DA X Wx [e, e2] wa) (hg : Gl X "zip" := by rfl)
    (hs : starEach [e, e2] X.env = (false, eval e X.env) :: starEach [e2] X.env := by rfl) (hpl : (backTo pos (starEach [e2] X.env)).any (·.1) = false := by rfl) :
    DI X Wx (.Tuple elts kk tpos) (.Call (.Name "zip" p) [e, e2] [] pos) (iZ wa) := by
  obtain ⟨t, p, s⟩ := ha
  refine ⟨_, pi_zip hg hm p hs hpl, fun xq ρ M σ G H Q R rl h kk => ?_⟩
  refine s xq ρ M σ G H _ _ rl h fun vs H1 G1 M1 xs s1 r1 q1 => ?_
  match xs, q1 with
  | [x, y], q1 =>
    obtain ⟨v, u, rfl, rx, ry⟩ := paired2 r1
    have q1' : (match (seeL M1 x).bind allD, (seeL M1 y).bind allD with | some ds, some es => Q (zpW ds es) (fun M => stL x (ds.map W.d) M ∧ stL y (es.map W.d) M) M1 | _, _ => False) := q1
    cases e1 : (seeL M1 x).bind allD with
    | none => rw [e1] at q1'; exact q1'.elim
    | some ds =>
      cases e2 : (seeL M1 y).bind allD with
      | none => rw [e1, e2] at q1'; exact q1'.elim
      | some es =>
        rw [e1, e2] at q1'
        obtain ⟨ws, h1, h2⟩ := Option.bind_eq_some_iff.mp e1
        obtain ⟨ws', h1', h2'⟩ := Option.bind_eq_some_iff.mp e2
        rw [allD_eq h2] at h1
        rw [allD_eq h2'] at h1'
        obtain ⟨a, vs, rfl, sq, pr⟩ := seeL_ok s1.sim rx h1
        obtain ⟨b, us, rfl, sq', pr'⟩ := seeL_ok s1.sim ry h1'
        exact ⟨a, b, vs, us, rfl, sq, sq', kk _ _ _ _ _ _ s1 (jok_zip rx ry h1 h1') q1'⟩

/-! ### for -/
def wIter (g : WG) (b : WS) (st : MM → Prop) : List W → WS
  | [], D, ρ, M => st M ∧ D.nx ρ M
  | x :: xs, D, ρ, M => st M ∧ g D.xq x ρ M fun ρ' M' => b { D with nx := wIter g b st xs D, ct := wIter g b st xs D, bk := D.nx } ρ' M'
def wFor (wi : WI) (g : WG) (b : WS) : WS := fun D ρ M => wi D.xq ρ M fun items st M1 => wIter g b st items D ρ M1
theorem ds_for {tg iter : Expr} {body : List Stmt} {wi : WI} {g : WG} {b : WS} {pos : Pos} (c : Cq X Wx k) (hp : PassesOwn (model X.prog X.w) X.A X.env X.xe) (hi : DI X Wx tg iter wi) (hg : DG X Wx tg g) (hb : DSs X Wx body b)
    (hs : ∀ x, foldedSetIterable iter X.env x = pure x := by intro _; rfl) : DS X Wx (.For tg iter body [] pos) (wFor wi g b) := by
  obtain ⟨ti, pi, si⟩ := hi
  obtain ⟨tg', pg, sg⟩ := hg
  obtain ⟨tb, pb, sb⟩ := hb
  refine ⟨_, ps_for hp c.calm pi pg pb hs, fun D ρ M σ G H E rl h o => ?_⟩
  refine si D.xq ρ M σ G H _ _ rl h fun J H1 G1 M1 items st s1 jo q1 => ?_
  refine ⟨fun i m σ' H' => m = items.length - i ∧ i ≤ items.length ∧ ∃ ρ' M' G', Stp X.K G1 M1 H1 G' M' H' ∧ RelEnv X.K G' ρ' σ' ∧ wIter g b st (items.drop i) D ρ' M',
    ⟨items.length, by omega, Nat.zero_le _, ρ, M1, G1, Stp.refl s1.sim, rl.env.ext s1.ex, by rw [List.drop_zero]; exact q1⟩, ?_⟩
  rintro i m σ' H' ⟨rfl, hi, ρ', M', G', s2, re, q2⟩
  by_cases hlt : i < items.length
  · rw [List.drop_eq_getElem_cons hlt] at q2
    obtain ⟨hst, q3⟩ := q2
    obtain ⟨jgo, _⟩ := jo i G' M' H' s2.ex s2.sim hst
    obtain ⟨hgo, hy⟩ := jgo hlt
    refine .inr ⟨hgo, fun σ'' H'' => ∃ ρ'' M'' G'', Stp X.K G1 M1 H1 G'' M'' H'' ∧ RelEnv X.K G'' ρ'' σ'' ∧ wIter g b st (items.drop (i + 1)) D ρ'' M'', fun σ'' H'' hn => ⟨items.length - (i + 1), by omega, rfl, by omega, hn⟩, fun x H2 hyy => ?_⟩
    obtain ⟨G2, w, s3, ew, rw'⟩ := hy x H2 hyy
    rw [List.getElem?_eq_getElem hlt] at ew
    cases ew
    have st3 := s2.trans s3
    have rl3 : Rl X.K Wx D.xq ρ' M' σ' G2 H2 := ⟨re.ext s3.ex, s3.sim, ((rl.next s1).next st3).cpt⟩
    refine sg D.xq _ x ρ' M' σ' G2 H2 _ _ rl3 rw' q3 fun ρ4 M4 σ4 G4 H4 s4 re4 q4 => ?_
    have st4 := st3.trans s4
    have rl4 : Rl X.K Wx D.xq ρ4 M4 σ4 G4 H4 := ⟨re4, s4.sim, ((rl.next s1).next st4).cpt⟩
    refine sb { D with nx := wIter g b st (items.drop (i + 1)) D, ct := wIter g b st (items.drop (i + 1)) D, bk := D.nx } ρ4 M4 σ4 G4 H4 _ rl4 q4 ⟨fun ρ5 M5 σ5 G5 H5 s5 re5 q5 => ?_, fun ρ5 M5 σ5 G5 H5 s5 re5 q5 => ?_, fun ρ5 M5 σ5 G5 H5 s5 re5 q5 => ?_, ?_⟩
    · exact ⟨ρ5, M5, G5, st4.trans s5, re5, q5⟩
    · exact o.nx _ _ _ _ _ (s1.trans (st4.trans s5)) re5 q5
    · exact ⟨ρ5, M5, G5, st4.trans s5, re5, q5⟩
    · exact fun v H5 G5 M5 y s5 => o.rt v H5 G5 M5 y (s1.trans (st4.trans s5))
  · have e : i = items.length := by omega
    subst e
    rw [List.drop_length] at q2
    obtain ⟨hst, q3⟩ := q2
    exact .inl ⟨(jo _ G' M' H' s2.ex s2.sim hst).2 (Nat.le_refl _), o.nx _ _ _ _ _ (s1.trans s2) re q3⟩

/-! ### while -/
def wWhN (t : WT) (b : WS) : Nat → WS
  | 0, _, _, _ => False
  | n + 1, D, ρ, M => t D.xq ρ M fun c M1 => if c = true then b { D with nx := wWhN t b n D, ct := wWhN t b n D, bk := D.nx } ρ M1 else D.nx ρ M1
def wWhile (t : WT) (b : WS) : WS := fun D ρ M => ∃ n, wWhN t b n D ρ M
theorem ds_while {c : Expr} {body : List Stmt} {t : WT} {b : WS} {pos : Pos} (hp : PassesOwn (model X.prog X.w) X.A X.env X.xe) (hc : DT X Wx c t) (hb : DSs X Wx body b) : DS X Wx (.While c body [] pos) (wWhile t b) := by
  obtain ⟨tc, pc, sc⟩ := hc
  obtain ⟨tb, pb, sb⟩ := hb
  refine ⟨_, ps_while hp pc pb, fun D ρ M σ G H E rl h o => ?_⟩
  obtain ⟨n, hn⟩ := h
  refine ⟨fun m σ' H' => ∃ ρ' M' G', Stp X.K G M H G' M' H' ∧ RelEnv X.K G' ρ' σ' ∧ wWhN t b m D ρ' M', ⟨n, ρ, M, G, rl.refl, rl.env, hn⟩, ?_⟩
  rintro m σ' H' ⟨ρ', M', G', s1, re, q⟩
  cases m with
  | zero => exact q.elim
  | succ m =>
    have rl1 : Rl X.K Wx D.xq ρ' M' σ' G' H' := ⟨re, s1.sim, (rl.next s1).cpt⟩
    refine sc D.xq ρ' M' σ' G' H' _ _ rl1 q fun z H2 G2 M2 s2 q2 => ?_
    cases z with
    | true =>
      refine ⟨fun σ'' H'' => ∃ ρ'' M'' G'', Stp X.K G M H G'' M'' H'' ∧ RelEnv X.K G'' ρ'' σ'' ∧ wWhN t b m D ρ'' M'', fun σ'' H'' hh => ⟨m, Nat.lt_succ_self _, hh⟩, ?_⟩
      have st := s1.trans s2
      refine sb { D with nx := wWhN t b m D, ct := wWhN t b m D, bk := D.nx } ρ' M2 σ' G2 H2 _ (rl1.next s2) q2 ⟨fun ρ5 M5 σ5 G5 H5 s5 re5 q5 => ⟨ρ5, M5, G5, st.trans s5, re5, q5⟩, fun ρ5 M5 σ5 G5 H5 s5 re5 q5 => o.nx _ _ _ _ _ (st.trans s5) re5 q5,
        fun ρ5 M5 σ5 G5 H5 s5 re5 q5 => ⟨ρ5, M5, G5, st.trans s5, re5, q5⟩, fun v H5 G5 M5 y s5 => o.rt v H5 G5 M5 y (st.trans s5)⟩
    | false => exact o.nx _ _ _ _ _ (s1.trans s2) (re.ext s2.ex) q2
end
end DL
namespace DL
open PySem PySem.Spec PyProof.Rows L2

/-! ### the weakest reading of a wish -/
def teOf (K : PySem.W.Frag) (Wx : WX) (w : WE) : TE := fun σ H R => ∃ xq ρ M G Q, Rl K Wx xq ρ M σ G H ∧ w xq ρ M Q ∧ KOk K G M H Q R
def ttOf (K : PySem.W.Frag) (Wx : WX) (w : WT) : TT := fun σ H R => ∃ xq ρ M G, ∃ Q : Bool → MM → Prop, Rl K Wx xq ρ M σ G H ∧ w xq ρ M Q ∧ ∀ b H' G' M', Stp K G M H G' M' H' → Q b M' → R b H'
theorem DE.can {X : Cx} {Wx : WX} {e : Expr} {w : WE} (h : DE X Wx e w) : PE X e (teOf X.K Wx w) := by
  obtain ⟨te, p, s⟩ := h
  refine ⟨fun pins st σ H Q I hw => p.run pins st σ H Q I ?_⟩
  obtain ⟨xq, ρ, M, G, Q', rl, hw, kk⟩ := hw
  exact s xq ρ M σ G H Q' Q rl hw kk
theorem DT.can {X : Cx} {Wx : WX} {e : Expr} {w : WT} (h : DT X Wx e w) : PT X e (ttOf X.K Wx w) := by
  obtain ⟨te, p, s⟩ := h
  refine ⟨fun pins st σ H Q I hw => p.run pins st σ H Q I ?_⟩
  obtain ⟨xq, ρ, M, G, Q', rl, hw, kk⟩ := hw
  exact s xq ρ M σ G H Q' Q rl hw kk

section
variable {X : Cx} {Wx : WX} {k : Nat}
/-! ### what is made beside -/
theorem Stp.side {K : PySem.W.Frag} {G M H G' M' H'} {D : Addr} {o : HO} (s : Stp K G M H G' M' H') (h : H D = none) (hm : M' D = none) (hg : G' D = none) : Stp K G M H G' M' (upd H' D o) := by
  refine ⟨s.ex, fun a u e m => ?_, fun a u e => ?_, fun a mo e => ?_⟩
  · obtain ⟨h1, h2⟩ := s.fr a u e m
    exact ⟨by rw [upd_ne (ne_of_none e h)]; exact h1, h2⟩
  · have ne : a ≠ D := fun z => by subst z; rw [hg] at e; cases e
    rw [upd_ne ne]; exact s.sim.ex a u e
  · have ne : a ≠ D := fun z => by subst z; rw [hm] at e; cases e
    obtain ⟨g, ho, q, r⟩ := s.sim.own a mo e
    exact ⟨g, ho, by rw [upd_ne ne]; exact q, r⟩
theorem mkL_adopt {K : PySem.W.Frag} {G M H G' M' H'} {D : Addr} {ws : List W} {vs : List V} {o : Bool} {Q : KW} {R : VK} (s : Stp K G M H G' M' H') (h : H D = none) (hm : M' D = none) (hg : G' D = none) (hh : H' D = some (.lst vs))
    (r : Paired (RelW K G') ws vs) (q : mkL o ws M' Q) (kk : KOk K G M H Q R) : R (.ref D) H' := by
  cases o with
  | true =>
    have q' : ∀ p, M' p = none → Q (.r (.ref p)) (mset M' p (.lst ws)) := q
    refine kk _ _ G' _ _ ⟨s.ex, fun a u e m => ?_, s.sim.ex, fun a mo e => ?_⟩ rfl (q' D hm)
    · obtain ⟨h1, h2, h3⟩ := s.fr a u e m
      exact ⟨h1, by rw [mset_ne (ne_of_none e h)]; exact h2, h3⟩
    · by_cases z : a = D
      · subst z
        rw [mset_same] at e; cases e
        exact ⟨hg, _, hh, r⟩
      · rw [mset_ne z] at e
        exact s.sim.own a mo e
  | false =>
    unfold mkL at q
    simp only [Bool.false_eq_true, if_false] at q
    cases e : allD ws with
    | none => rw [e] at q; exact q.elim
    | some ds =>
      rw [e] at q
      have r2 := r
      rw [allD_eq e] at r2
      refine kk _ _ (upd G' D (.lst vs)) _ (.d (.list ds)) ⟨s.ex.trans (Ex.new hg), fun a u e m => ?_, fun a u e => ?_, fun a mo e => ?_⟩ (Dp.lst (.inl (.inl upd_same)) ((Ex.new hg).dps (paired_dps r2))) q
      · obtain ⟨h1, h2, h3⟩ := s.fr a u e m
        exact ⟨h1, h2, fun z => by rw [upd_ne (ne_of_none e h)]; exact h3 z⟩
      · by_cases z : a = D
        · subst z; rw [upd_same] at e; cases e; exact hh
        · rw [upd_ne z] at e; exact s.sim.ex a u e
      · have ne : a ≠ D := fun z => by subst z; rw [hm] at e; cases e
        obtain ⟨g, ho, q2, r3⟩ := s.sim.own a mo e
        exact ⟨by rw [upd_ne ne]; exact g, ho, q2, r3.ext (Ex.new hg)⟩

/-! ### targets of a comprehension -/
def GWp (vs : List Nat) (g : TG) : Prop := ∀ v σ H Q, g v (wipe σ vs) H Q → g v (wipe σ vs) H fun σ2 H2 => wipe σ2 vs = wipe σ vs ∧ Q σ2 H2
def GsWp (vs : List Nat) (g : TGs) : Prop := ∀ v σ' σ H Q, wipe σ' vs = wipe σ vs → g v σ' H Q → g v σ' H fun σ2 H2 => wipe σ2 vs = wipe σ vs ∧ Q σ2 H2
theorem set_comm {α : Type} (l : List α) (i j : Nat) (a b : α) (h : i ≠ j) : (l.set i a).set j b = (l.set j b).set i a := List.set_comm a b h
theorem wipe_set {σ : L2.St} {i : Nat} {o : Option V} : ∀ {vs : List Nat}, i ∈ vs → wipe (σ.set i o) vs = wipe σ vs
  | [], h => by simp at h
  | j :: vs, h => by
    by_cases hi : i ∈ vs
    · show (wipe (σ.set i o) vs).set j none = (wipe σ vs).set j none
      rw [wipe_set hi]
    · have e : i = j := by simpa [hi] using h
      subst e
      have aux : ∀ us : List Nat, i ∉ us → wipe (σ.set i o) us = (wipe σ us).set i o := by
        intro us
        induction us with
        | nil => intro _; rfl
        | cons a us ih =>
          intro hn
          have h1 : i ∉ us := fun z => hn (List.mem_cons_of_mem _ z)
          have h2 : i ≠ a := fun z => hn (by rw [z]; exact List.mem_cons_self)
          show (wipe (σ.set i o) us).set a none = ((wipe σ us).set a none).set i o
          rw [ih h1]
          exact List.set_comm o none h2
      show (wipe (σ.set i o) vs).set i none = (wipe σ vs).set i none
      rw [aux vs hi, List.set_set]
theorem wipe_idem {σ : L2.St} (vs : List Nat) : wipe (wipe σ vs) vs = wipe σ vs := by
  have aux : ∀ us ws : List Nat, (∀ i ∈ us, i ∈ ws) → wipe (wipe σ us) ws = wipe σ ws := by
    intro us
    induction us with
    | nil => intro ws _; rfl
    | cons a us ih =>
      intro ws h
      show wipe ((wipe σ us).set a none) ws = wipe σ ws
      rw [wipe_set (h a List.mem_cons_self)]
      exact ih ws fun i hi => h i (List.mem_cons_of_mem _ hi)
  exact aux vs vs fun _ h => h
structure GOk (vs : List Nat) {α : Type} (g : α → L2.St → Hp → (L2.St → Hp → Prop) → Prop) : Prop where
  mono : ∀ v σ H P Q, (∀ a b, P a b → Q a b) → g v σ H P → g v σ H Q
  wp : ∀ v σ' σ H Q, wipe σ' vs = wipe σ vs → g v σ' H Q → g v σ' H fun σ2 H2 => wipe σ2 vs = wipe σ vs ∧ Q σ2 H2
structure DGW (X : Cx) (scope : Scope) (vs : List Nat) (t : Expr) (w : WG) : Prop where
  ex : ∃ g, (∀ (s : Shared) (H : Hp) (C : Addr) (cl : List (Str × Addr)) (fp : List Addr), PG (X.blk s H scope (compEnvC scope cl C X.env) fp) t g) ∧ SndG X.K W0 g w ∧ GOk vs g
structure DGWs (X : Cx) (scope : Scope) (vs : List Nat) (t : List Expr) (w : WGs) : Prop where
  ex : ∃ g, (∀ (s : Shared) (H : Hp) (C : Addr) (cl : List (Str × Addr)) (fp : List Addr), PGs (X.blk s H scope (compEnvC scope cl C X.env) fp) t g) ∧
    (∀ xq xs us ρ M σ G H Q R, Rl X.K W0 xq ρ M σ G H → Paired (RelW X.K G) xs us → w xq xs ρ M Q → (∀ ρ' M' σ' G' H', Stp X.K G M H G' M' H' → RelEnv X.K G' ρ' σ' → Q ρ' M' → R σ' H') → g us σ H R) ∧ GOk vs g
theorem dgw_name (i : Nat) {scope : Scope} {vs : List Nat} {x : Str} {pos : Pos} (c : Cq X Wx k) (hm : i ∈ vs := by simp) (hi : X.N[i]? = some x := by rfl)
    (hx : ∀ (C : Addr) (cl : List (Str × Addr)), Loc (compEnvC scope cl C X.env).scope x := by first | exact fun _ _ => Or.inl rfl | exact fun _ _ => Or.inr rfl)
    (hf : ∀ (C : Addr) (cl : List (Str × Addr)), (scope.names.lookup x == some .cell) = true ∨ (compEnvC scope cl C X.env).scope.names.lookup x = some .local := by first | exact fun _ _ => Or.inr rfl | exact fun _ _ => Or.inl rfl) : DGW X scope vs (.Name x pos) (wgN i) :=
  ⟨gName i, fun s H C cl fp => pg_name (X := X.blk s H scope (compEnvC scope cl C X.env) fp) (i := i) c.nd hi (hx C cl) (hf C cl), sndgN, fun _ _ _ _ _ f h => f _ _ h, fun v σ' σ H Q e h => ⟨by rw [wipe_set hm]; exact e, h⟩⟩
theorem dgws_nil {scope : Scope} {vs : List Nat} : DGWs X scope vs [] wgNil := ⟨gNil, fun s H C cl fp => pgs_nil, fun xq xs us ρ M σ G H Q R rl r h kk => by
  obtain ⟨rfl, q⟩ := h
  cases r
  exact ⟨rfl, kk _ _ _ _ _ rl.refl rl.env q⟩, fun v σ H P Q f h => ⟨h.1, f _ _ h.2⟩, fun v σ' σ H Q e h => ⟨h.1, e, h.2⟩⟩
theorem dgws_cons {scope : Scope} {vs : List Nat} {e : Expr} {es : List Expr} {a : WG} {r : WGs} (h1 : DGW X scope vs e a) (h2 : DGWs X scope vs es r)
    (hs : ∀ env : PySem.Env, (assignEach (e :: es) env).map (·.2) = assign e env :: (assignEach es env).map (·.2) := by intro _; rfl) : DGWs X scope vs (e :: es) (wgCons a r) := by
  obtain ⟨g1, p1, s1, w1⟩ := h1
  obtain ⟨g2, p2, s2, w2⟩ := h2
  refine ⟨gCons g1 g2, fun s H C cl fp => pgs_cons (p1 s H C cl fp) (p2 s H C cl fp) (hs _), fun xq xs us ρ M σ G H Q R rl rr h kk => ?_, fun v σ H P Q f h => ?_, fun v σ' σ H Q e h => ?_⟩
  · cases rr with
    | nil => exact h.elim
    | cons ra rt =>
      refine ⟨_, _, rfl, ?_⟩
      refine s1 xq _ _ ρ M σ G H _ _ rl ra h fun ρ' M' σ' G' H' st re q => ?_
      have rl' : Rl X.K W0 xq ρ' M' σ' G' H' := ⟨re, st.sim, (rl.next st).cpt⟩
      exact s2 xq _ _ ρ' M' σ' G' H' _ _ rl' (RelWs.ext st.ex rt) q fun ρ2 M2 σ2 G2 H2 st2 => kk _ _ _ _ _ (st.trans st2)
  · obtain ⟨x, xs, rfl, h⟩ := h
    exact ⟨x, xs, rfl, w1.mono _ _ _ _ _ (fun a b q => w2.mono _ _ _ _ _ f q) h⟩
  · obtain ⟨x, xs, rfl, h⟩ := h
    exact ⟨x, xs, rfl, w1.mono _ _ _ _ _ (fun a b q => w2.wp _ _ _ _ _ q.1 q.2) (w1.wp _ _ _ _ _ e h)⟩
theorem dgw_tup {scope : Scope} {vs : List Nat} {es : List Expr} {kk n : Nat} {r : WGs} {pos : Pos} (c : Cq X Wx k) (h : DGWs X scope vs es r) (hn : ∀ env : PySem.Env, (assignEach es env).length = n := by intro _; rfl) (hst : ∀ env : PySem.Env, (assignEach es env).findIdx? (·.1) = none := by intro _; rfl) :
    DGW X scope vs (.Tuple es kk pos) (wgTup n r) := by
  obtain ⟨g, p, s, w⟩ := h
  refine ⟨gTup X.K n g, fun s H C cl fp => pg_tup (X := X.blk s H scope (compEnvC scope cl C X.env) fp) c.calm (p s H C cl fp) (hn _) (hst _), fun xq x v ρ M σ G H Q R rl r1 h k' => ?_, fun v σ H P Q f h => ?_, fun v σ' σ H Q e h => ?_⟩
  · cases x with
    | d d =>
      cases d <;> try (exact h.elim)
      rename_i ds
      obtain ⟨a, vs, rfl, t, _, d1⟩ := seeT_ok (ds := ds) rl.sim r1 rfl
      exact ⟨a, vs, rfl, t, by rw [dps_len d1]; exact h.1, s xq _ _ ρ M σ G H _ _ rl (dps_paired d1) h.2 k'⟩
    | r z =>
      have e : z = v := r1
      subst e
      cases z <;> try (exact h.elim)
      rename_i q
      have h' : (match M q with | some (.tup ws) => ws.length = n ∧ r xq ws ρ M Q | _ => False) := h
      cases e : M q with
      | none => rw [e] at h'; exact h'.elim
      | some mo =>
        rw [e] at h'
        cases mo <;> try (exact h'.elim)
        obtain ⟨_, ho, hh, rr⟩ := rl.sim.own q _ e
        cases ho <;> try (exact rr.elim)
        exact ⟨q, _, rfl, .inl (.inl hh), by rw [← paired_len rr]; exact h'.1, s xq _ _ ρ M σ G H _ _ rl rr h'.2 k'⟩
  · obtain ⟨a, xs, e1, e2, e3, h⟩ := h
    exact ⟨a, xs, e1, e2, e3, w.mono _ _ _ _ _ f h⟩
  · obtain ⟨a, xs, e1, e2, e3, h⟩ := h
    exact ⟨a, xs, e1, e2, e3, w.wp _ _ _ _ _ e h⟩

/-! ### a comprehension -/
def xq0 : XQ := fun _ _ _ _ => False
def wipeW (ρ : Env) : List Nat → Env
  | [] => ρ
  | v :: vs => (wipeW ρ vs).set v none
theorem wipeW_ok {K : PySem.W.Frag} {G : Hp} {ρ : Env} {σ : L2.St} (h : RelEnv K G ρ σ) : ∀ vs : List Nat, RelEnv K G (wipeW ρ vs) (wipe σ vs)
  | [] => h
  | v :: vs => (wipeW_ok h vs).setN v none
def wYes : WT := fun _ _ M Q => Q true M
def wLcI (g : WG) (t : WT) (e : WE) (st : MM → Prop) (ρ : Env) : List W → List W → MM → (List W → MM → Prop) → Prop
  | [], acc, M, K => st M ∧ K acc M
  | x :: xs, acc, M, K => st M ∧ g xq0 x ρ M fun ρ' M1 => t xq0 ρ' M1 fun b M2 => if b = true then e xq0 ρ' M2 fun y M3 => acc.length < 16777216 ∧ wLcI g t e st ρ xs (acc ++ [y]) M3 K else wLcI g t e st ρ xs acc M2 K
def wLc (o : Bool) (wi : WI) (g : WG) (t : WT) (e : WE) (vs : List Nat) : WE := fun xq ρ M Q => wi xq ρ M fun items st M1 => wLcI g t e st (wipeW ρ vs) items [] M1 fun ws M2 => mkL o ws M2 Q
structure DTs (X : Cx) (Wx : WX) (ifs : List Expr) (w : WT) : Prop where
  ex : PTs X ifs (ttOf X.K Wx w)
theorem dts_nil : DTs X Wx [] wYes := ⟨⟨fun pins st σ H Q I h => by
  obtain ⟨xq, ρ, M, G, Q', rl, hw, kk⟩ := h
  exact pts_nil.run pins st σ H Q I (kk true H G M rl.refl hw)⟩⟩
theorem dts_one {c : Expr} {w : WT} (h : DT X Wx c w) : DTs X Wx [c] w := ⟨pts_one h.can⟩
theorem sndLc {o : Bool} {ti : TI} {wi : WI} {g : TG} {wg : WG} {wt : WT} {we : WE} {vs : List Nat} (si : ∀ xq ρ M σ G H (Q : List W → (MM → Prop) → MM → Prop) (R : It → Hp → Prop), Rl X.K Wx xq ρ M σ G H → wi xq ρ M Q →
      (∀ J H' G' M' items st, Stp X.K G M H G' M' H' → JOk X.K G' J items st → Q items st M' → R J H') → ti σ H R)
    (sg : SndG X.K W0 g wg) (ok : GOk vs g) : SndE X.K Wx (tLc ti g (ttOf X.K W0 wt) (teOf X.K W0 we) vs) (wLc o wi wg wt we vs) := fun xq ρ M σ G H Q R rl h kk => by
  refine si xq ρ M σ G H _ _ rl h fun J H1 G1 M1 items st s1 jo q1 => ?_
  intro D hD
  obtain ⟨mD, gD⟩ := s1.sim.free hD
  refine ⟨fun i m H' => m = items.length - i ∧ i ≤ items.length ∧ ∃ M' G' acc avs, Stp X.K G1 M1 H1 G' M' H' ∧ H' D = some (.lst avs) ∧ M' D = none ∧ G' D = none ∧ Paired (RelW X.K G') acc avs ∧ wLcI wg wt we st (wipeW ρ vs) (items.drop i) acc M' fun ws M2 => mkL o ws M2 Q,
    ⟨items.length, by omega, Nat.zero_le _, M1, G1, [], [], (Stp.refl s1.sim).side hD mD gD, upd_same, mD, gD, .nil, by rw [List.drop_zero]; exact q1⟩, ?_⟩
  rintro i m H' ⟨rfl, hi, M', G', acc, avs, s2, hHD, hMD, hGD, pr, q2⟩
  have fin : ∀ {M4 G4 H4}, Stp X.K G' M' H' G4 M4 H4 → H4 D = some (.lst avs) ∧ M4 D = none ∧ G4 D = none := fun s => by
    obtain ⟨a, b, c⟩ := s.fr D _ hHD hMD
    exact ⟨a, b, c hGD⟩
  by_cases hlt : i < items.length
  · rw [List.drop_eq_getElem_cons hlt] at q2
    obtain ⟨hst, q3⟩ := q2
    obtain ⟨jgo, _⟩ := jo i G' M' H' s2.ex s2.sim hst
    obtain ⟨hgo, hy⟩ := jgo hlt
    refine .inr ⟨hgo, fun H'' => ∃ M'' G'' acc' avs', Stp X.K G1 M1 H1 G'' M'' H'' ∧ H'' D = some (.lst avs') ∧ M'' D = none ∧ G'' D = none ∧ Paired (RelW X.K G'') acc' avs' ∧ wLcI wg wt we st (wipeW ρ vs) (items.drop (i + 1)) acc' M'' fun ws M2 => mkL o ws M2 Q,
      fun H'' hn => ⟨items.length - (i + 1), by omega, rfl, by omega, hn⟩, fun x H2 hyy => ?_⟩
    obtain ⟨G2, w, s3, ew, rw'⟩ := hy x H2 hyy
    rw [List.getElem?_eq_getElem hlt] at ew
    cases ew
    have rl2 : Rl X.K W0 xq0 (wipeW ρ vs) M' (wipe σ vs) G2 H2 := ⟨wipeW_ok (((rl.env.ext s1.ex).ext s2.ex).ext s3.ex) vs, s3.sim, fun _ _ _ _ _ _ _ _ _ z => z.elim⟩
    refine ok.mono _ _ _ _ _ (fun a b z => ⟨z.1.trans (wipe_idem vs), z.2⟩) (ok.wp x (wipe σ vs) (wipe σ vs) H2 _ rfl ?_)
    refine sg xq0 _ x (wipeW ρ vs) M' (wipe σ vs) G2 H2 _ _ rl2 rw' q3 fun ρ4 M4 σ4 G4 H4 s4 re4 q4 => ?_
    have rl4 : Rl X.K W0 xq0 ρ4 M4 σ4 G4 H4 := ⟨re4, s4.sim, fun _ _ _ _ _ _ _ _ _ z => z.elim⟩
    refine ⟨xq0, ρ4, M4, G4, _, rl4, q4, fun b H5 G5 M5 s5 q5 => ?_⟩
    have st5 := (s3.trans s4).trans s5
    obtain ⟨f1, f2, f3⟩ := fin st5
    cases b with
    | true =>
      refine ⟨xq0, ρ4, M5, G5, _, rl4.next s5, q5, fun y H6 G6 M6 z s6 rz q6 => ?_⟩
      have st6 := st5.trans s6
      obtain ⟨g1, g2, g3⟩ := fin st6
      refine ⟨avs, g1, ?_, M6, G6, acc ++ [z], avs ++ [y], (s2.trans st6).side hD g2 g3, upd_same, g2, g3, paired_app (RelWs.ext st6.ex pr) (.cons rz .nil), q6.2⟩
      rw [sizeLine_eq, ← paired_len pr]; exact q6.1
    | false => exact ⟨M5, G5, acc, avs, s2.trans st5, f1, f2, f3, RelWs.ext st5.ex pr, q5⟩
  · have e : i = items.length := by omega
    subst e
    rw [List.drop_length] at q2
    obtain ⟨hst, q3⟩ := q2
    refine .inl ⟨(jo _ G' M' H' s2.ex s2.sim hst).2 (Nat.le_refl _), ?_⟩
    exact mkL_adopt s2 hD hMD hGD hHD pr q3 fun v H9 G9 M9 y s9 => kk v H9 G9 M9 y (s1.trans s9)
theorem de_lc (o : Bool) {elt tg iter : Expr} {ifs : List Expr} {scope : Scope} {own : List (Str × Nat)} {pos : Pos} {wi : WI} {wg : WG} {wt : WT} {we : WE} (c : Cq X Wx k) (hi : DI X Wx tg iter wi) (ok : BlkOk X.N X.env.scope scope own)
    (hg : DGW X scope (own.map (·.2)) tg wg)
    (ht : ∀ (s : Shared) (H : Hp) (C : Addr) (cl : List (Str × Addr)) (fp : List Addr), Cq (X.blk s H scope (compEnvC scope cl C X.env) fp) W0 k → DTs (X.blk s H scope (compEnvC scope cl C X.env) fp) W0 ifs wt)
    (he : ∀ (s : Shared) (H : Hp) (C : Addr) (cl : List (Str × Addr)) (fp : List Addr), Cq (X.blk s H scope (compEnvC scope cl C X.env) fp) W0 k → DE (X.blk s H scope (compEnvC scope cl C X.env) fp) W0 elt we)
    (hs : ∀ x, foldedSetIterable iter X.env x = pure x := by intro _; rfl) : DE X Wx (.ListComp elt [⟨tg, iter, ifs, 0⟩] scope pos) (wLc o wi wg wt we (own.map (·.2))) := by
  obtain ⟨ti, pi, si⟩ := hi
  obtain ⟨g, pg, sg, gok⟩ := hg
  exact ⟨_, pe_lc c.calm c.nd pi ok pg (fun s H C cl fp => (ht s H C cl fp (c.blk _ _ _ _ _)).ex) (fun s H C cl fp => (he s H C cl fp (c.blk _ _ _ _ _)).can) hs, sndLc si sg gok⟩
theorem ds_setLc (o : Bool) (i : Nat) {y : Str} {py : Pos} {elt tg iter : Expr} {ifs : List Expr} {scope : Scope} {own : List (Str × Nat)} {pos spos : Pos} {wi : WI} {wg : WG} {wt : WT} {we : WE} (c : Cq X Wx k) (hi : DI X Wx tg iter wi) (ok : BlkOk X.N X.env.scope scope own)
    (hg : DGW X scope (own.map (·.2)) tg wg)
    (ht : ∀ (s : Shared) (H : Hp) (C : Addr) (cl : List (Str × Addr)) (fp : List Addr), Cq (X.blk s H scope (compEnvC scope cl C X.env) fp) W0 k → DTs (X.blk s H scope (compEnvC scope cl C X.env) fp) W0 ifs wt)
    (he : ∀ (s : Shared) (H : Hp) (C : Addr) (cl : List (Str × Addr)) (fp : List Addr), Cq (X.blk s H scope (compEnvC scope cl C X.env) fp) W0 k → DE (X.blk s H scope (compEnvC scope cl C X.env) fp) W0 elt we)
    (hk : X.env.scope.kind = .function := by rfl) (hyl : X.env.scope.names.lookup y = some .local := by rfl) (hl : (py.line == pos.line) = true := by rfl) (ha : (scope.names.any fun (n, k) => n == y && (k == .local || k == .cell)) = false := by decide +kernel)
    (hy : X.N[i]? = some y := by rfl) (hs : ∀ x, foldedSetIterable iter X.env x = pure x := by intro _; rfl) :
    DS X Wx (.Assign [.Name y py] (.ListComp elt [⟨tg, iter, ifs, 0⟩] scope pos) spos) (wAsg (wLc o wi wg wt we (own.map (·.2))) (wgN i)) := by
  obtain ⟨ti, pi, si⟩ := hi
  obtain ⟨g, pg, sg, gok⟩ := hg
  exact ⟨_, ps_setLc c.calm c.nd hy hyl (sw_true hk hyl hl ha) pi ok pg (fun s H C cl fp => (ht s H C cl fp (c.blk _ _ _ _ _)).ex) (fun s H C cl fp => (he s H C cl fp (c.blk _ _ _ _ _)).can) hs, sndAsg (sndLc si sg gok) sndgN⟩
end

/-! ### a def -/
def startD (N : List Str) (ws : List W) : Env := ws.map some ++ List.replicate (N.length - ws.length) none
def fin (x : W) (M : MM) (R : KW) : Prop := ∃ M', Sub M' M ∧ R x M'
def dEnds (R : KW) (xr : XR) : DEnds where
  nx := fun _ M => fin (.d .none) M R
  rt := fun x M => fin x M R
  bk := fun _ _ => False
  ct := fun _ _ => False
  xq := fun cls d _ M => ∃ M', Sub M' M ∧ xr cls d M'
theorem start_ok {K : PySem.W.Frag} {G : Hp} {N : List Str} {ws : List W} {vs : List V} (h : Paired (RelW K G) ws vs) : RelEnv K G (startD N ws) (L2.start N vs) := by
  have hl := paired_len h
  refine ⟨by unfold startD L2.start; rw [List.length_append, List.length_append, List.length_map, List.length_map, List.length_replicate, List.length_replicate, hl], fun i x e => ?_⟩
  unfold startD at e
  by_cases hi : i < ws.length
  · rw [List.getElem?_append_left (by rw [List.length_map]; exact hi), List.getElem?_map, List.getElem?_eq_getElem hi] at e
    have e' : ws[i] = x := by simpa using e
    obtain ⟨v, ev, rv⟩ := paired_at h (List.getElem?_eq_getElem hi)
    rw [e'] at rv
    refine ⟨v, ?_, rv⟩
    unfold L2.start
    rw [List.getElem?_append_left (by rw [List.length_map, ← hl]; exact hi), List.getElem?_map, ev]; rfl
  · rw [List.getElem?_append_right (by rw [List.length_map]; omega), List.getElem?_replicate] at e
    split at e <;> cases e
section
variable {P : Program} {w : World} {K : PySem.W.Frag} {mg : Str → Option Value} {base : Heap}
theorem fnD_of {x qual : Str} {st : Stmt} {f : Addr} {fd : FuncData} {N ps : List Str} {k : Nat} {sp : Sp} (F : Fun K x qual st f fd) (S : FnScope N ps (defScope st)) (len : ∀ vs H Q E, sp vs H Q E → vs.length = ps.length)
    (hbody : ∀ (cdv : Value) (A : Around) (outer : List PySem.Env) (s : Shared) (H : Hp) (vs : List V) (Q : VK) (E : XK), RoomG k (A.deeper (envOfC qual (defScope st) s.heap.objs.size f cdv)) → sp vs H Q E →
      ∃ t, PSs (cxOf (L2.CX P w) P w K mg base N qual (defScope st) f cdv A outer s H E) (defBody st) t ∧ t { nx := fun _ H' => Q .non H', rt := Q } (L2.start N vs) H) : FnD P w K mg base (k + 1) f fd ps sp := by
  obtain ⟨oc, od, kV, doc, pm, an, cdv, ct, osl, rfl, lk, hcd⟩ := F.ex
  constructor
  · exact len
  intro A outer s H args us vs Q E hr e0 hb r hsp
  have KX : K.In s.heap := e0.mod.kin.keeps (fun b o e => (e0.bs b o e).1)
  have lim : s.heap.NoLimit := e0.mod.nolimit.keeps (fun b o e => (e0.bs b o e).1)
  have hkind : ∀ y ∈ ps.zip us, (defScope st).names.lookup y.1 = some .local ∨ ((defScope st).names.lookup y.1 = some .cell ∧ ((cellsFrom (s.heap.objs.size + 1) (defScope st).names []).lookup y.1).isSome = true) := by
    intro ⟨n, v⟩ hy
    cases S.par n (List.of_mem_zip hy).1 with
    | inl q => exact .inl q
    | inr q => exact .inr ⟨q, PySem.W.cellsFrom_some _ _ _ (.inl q)⟩
  apply codeAny_call_function hr.room.depth (KX _ _ lk) rfl S.co S.gen rfl (PySem.W.codeRec_of KX hcd)
  apply hb
  refine wpAny_newFunctionEnv_cells S.kind hkind fun env he s1 y => ?_
  subst he
  refine ⟨lim.keeps y.toInCall.keep, codeAny_func ?_⟩
  obtain ⟨t, ht, hq⟩ := hbody cdv A outer s H vs Q E ⟨hr.room.deeper _, hr.gd⟩ hsp
  have I : Inv (cxOf (L2.CX P w) P w K mg base N qual (defScope st) f cdv A outer s H E) [] (L2.start N vs) H s1 := inv_start S hr.room.hd e0 (len _ _ _ _ hsp) r y
  refine wpAny_mono (ht.run [] s1 (L2.start N vs) H _ I hq) (fun fl s' hs => ?_) (fun e s' hs => hs)
  match fl, hs with
  | .ret u, ⟨v, σ', H', J, rv, q⟩ => exact ⟨v, H', J.os, J.bare, J.base, J.hok, rv, q⟩
  | .next, ⟨σ', H', J, q⟩ => exact ⟨V.non, H', J.os, J.bare, J.base, J.hok, rfl, q⟩
  | .brk, ⟨_, _, _, q⟩ => exact False.elim q
  | .cont, ⟨_, _, _, q⟩ => exact False.elim q
theorem fnD_ok {x qual : Str} {st : Stmt} {f : Addr} {fd : FuncData} {N ps : List Str} {k : Nat} {ds : DSp} (F : Fun K x qual st f fd) (S : FnScope N ps (defScope st)) (len : ∀ ws M R xr, ds ws M R xr → ws.length = ps.length) (wb : WS)
    (hbody : ∀ (cdv : Value) (A : Around) (outer : List PySem.Env) (s : Shared) (H : Hp) (E : XK), Cq (cxOf (L2.CX P w) P w K mg base N qual (defScope st) f cdv A outer s H E) (fun cls d _ H => E cls d H) k →
      PassesOwn (model P w) (A.deeper (envOfC qual (defScope st) s.heap.objs.size f cdv)) (envOfC qual (defScope st) s.heap.objs.size f cdv) (cxOf (L2.CX P w) P w K mg base N qual (defScope st) f cdv A outer s H E).xe →
      DSs (cxOf (L2.CX P w) P w K mg base N qual (defScope st) f cdv A outer s H E) (fun cls d _ H => E cls d H) (defBody st) wb)
    (pure : ∀ ws M R xr, ds ws M R xr → wb (dEnds R xr) (startD N ws) M) : FnD P w K mg base (k + 1) f fd ps (lift K ds) := by
  refine fnD_of F S (fun vs H Q E h => ?_) fun cdv A outer s H vs Q E hr h => ?_
  · obtain ⟨ws, M, G, R, xr, _, r, h1, _⟩ := h
    rw [← paired_len r]; exact len ws M R xr h1
  · obtain ⟨ws, M, G, R, xr, sm, r, h1, h2, h3⟩ := h
    obtain ⟨t, pt, st⟩ := hbody cdv A outer s H E ⟨S.nd, rfl, takes_of rfl rfl rfl rfl, hr⟩ (passes_of (X := cxOf (L2.CX P w) P w K mg base N qual (defScope st) f cdv A outer s H E) rfl)
    refine ⟨t, pt, st (dEnds R xr) (startD N ws) M (L2.start N vs) G H _ ⟨start_ok r, sm, fun cls d ρ' M' σ' G' H' s' re q => ?_⟩ (pure ws M R xr h1) ⟨fun ρ' M' σ' G' H' s' re q => ?_, fun _ _ _ _ _ _ _ q => q.elim, fun _ _ _ _ _ _ _ q => q.elim, fun v H' G' M' y s' ry q => ?_⟩⟩
    · obtain ⟨M2, sb, q⟩ := q
      exact h3 cls d H' G' M2 (s'.trans (Stp.sub s'.sim sb)) q
    · obtain ⟨M2, sb, q⟩ := q
      exact h2 .non H' G' M2 _ (s'.trans (Stp.sub s'.sim sb)) Dp.non q
    · obtain ⟨M2, sb, q⟩ := q
      exact h2 v H' G' M2 y (s'.trans (Stp.sub s'.sim sb)) ry q
end
end DL
namespace DL
open PySem PySem.Spec PyProof.Rows L2
/-! ### the law's end: its def is entered from the claim's caller, where no guard runs -/
section
variable {P : Program} {w : World} {K : PySem.W.Frag} {mg mb : Str → Option Value} {k : Nat} {fa a : Addr} {fd : FuncData} {x : Str} {sp : Sp} {s1 : Shared} {vs : List Value} {ns : List Int}
theorem end_core {H : Hp} (KX : K.In s1.heap) (hns : s1.heap.Ns mainGlobals mg) (hb : s1.heap.Ns builtinsNs mb) (hbb : ∀ x : Str, x ≠ "__name__" → mb x = bootBuiltins x) (hlim : s1.heap.NoLimit) (hg : s1.gens = #[])
    (ha : s1.heap.get? a = some { cls := .type "list", data := .seq vs.toArray }) (hr : RoomG k callerA)
    (F : ∀ base : Heap, K.In base → base.Ns mainGlobals mg → FnD P w K mg base k fa fd [x] sp) (hbind : ∀ (s : Shared) (u : Value), BindsTo s fd ⟨[u], []⟩ [(x, u)])
    (hO : Only H) (hok : HOk P w H s1.heap) (hA : ∀ b, H b ≠ none → b = a) (hK : H a ≠ none → K.lookup a = none) (hsp : sp [.ref a] H (fun v _ => v = .bl true) fun _ _ _ => False) :
    codeAny (model P w) callerA (.call (.ref fa) ⟨[.ref a], []⟩) (fun r s' => r = .ok (.ret (.bool true)) ∧ OldK s1.heap s'.heap ∧ s'.os = s1.os ∧ AllBare s'.gens) s1 := by
  have isA : ∀ {b : Addr} {u : HO}, H b = some u → b = a := fun {b u} q => hA b (by rw [q]; exact fun z => nomatch z)
  have dictNone : ∀ {b : Addr} {o : Obj} {es : Array DictEntry} {ep : Nat}, s1.heap.get? b = some o → o.data = .dict es ep → H b = none := fun {b o es ep} e d => by
    cases q : H b with
    | none => rfl
    | some u =>
      have eb := isA q
      rw [eb, ha] at e
      cases e
      cases (show Data.seq vs.toArray _ = Data.dict es ep from d)
  have nsH : ∀ {b : Addr} {m : Str → Option Value}, s1.heap.Ns b m → (hidT s1.heap H).Ns b m := fun {b m} h => by
    obtain ⟨o, es, ep, e, d, r⟩ := h
    exact ⟨o, es, ep, hidT_get e (dictNone e d), d, r⟩
  have inH : K.In (hidT s1.heap H) := fun b o e => by
    refine hidT_get (KX b o e) ?_
    cases q : H b with
    | none => rfl
    | some u =>
      have eb := isA q
      rw [eb] at e
      rw [hK (by rw [← eb, q]; exact fun z => nomatch z)] at e
      cases e
  have modH : Mod K mg (hidT s1.heap H) := by
    obtain ⟨mc, h1, h2⟩ := hlim
    exact ⟨inH, nsH hns, ⟨mb, nsH hb, hbb⟩, mc, nsH h1, h2⟩
  have e0 : Env0 P w K mg (hidT s1.heap H) callerA [] s1 H := {
    frames := rfl, mod := modH, bs := fun b o e => of_hidT e, bsz := Nat.le_of_eq (hidT_size _ _), funs := trivial
    frf := fun b hb => absurd (show b ∈ ([] : List Addr) from hb) List.not_mem_nil
    hok := hok, bare := .of_eq hg }
  refine codeAny_mono ((F _ inH (nsH hns)).run callerA [] s1 H ⟨[.ref a], []⟩ [.ref a] [.ref a] _ (fun _ _ _ => False) hr e0 (hbind s1 (.ref a)) (.cons rfl .nil) hsp) fun res s' h => ?_
  match res, h with
  | .error er, h =>
    obtain ⟨_, _, _, _, _, _, _, _, _, _, _, _, z⟩ := (show L2.CX P w [] H s1 (fun _ _ _ => False) er s' from h)
    exact z.elim
  | .ok .next, h => exact False.elim h
  | .ok .brk, h => exact False.elim h
  | .ok .cont, h => exact False.elim h
  | .ok (.ret u), h =>
    obtain ⟨v, H', os, bare, un, hok', r', q⟩ := h
    cases (show v = .bl true from q)
    cases (show u = Value.bool true from r')
    refine ⟨rfl, OldK.of_keep (fun b o e => ?_), os, bare⟩
    cases q : H b with
    | none => exact un.keep b o e q (fun z => absurd (show b ∈ ([] : List Addr) from z) List.not_mem_nil) List.not_mem_nil
    | some u =>
      cases hO b with
      | inl z => rw [q] at z; cases z
      | inr z =>
        obtain ⟨ob, xs, z⟩ := z
        obtain ⟨e1, _⟩ := hok b _ z
        obtain ⟨e2, _⟩ := hok' b _ (un.frzs b ob _ z)
        rw [e] at e1
        cases e1
        exact e2
theorem law_end (KX : K.In s1.heap) (hns : s1.heap.Ns mainGlobals mg) (hb : s1.heap.Ns builtinsNs mb) (hbb : ∀ x : Str, x ≠ "__name__" → mb x = bootBuiltins x) (hlim : s1.heap.NoLimit) (hg : s1.gens = #[])
    (ha : s1.heap.get? a = some { cls := .type "list", data := .seq vs.toArray }) (hi : IntsAre vs ns) (hl : ns.length ≤ sizeLine) (hr : RoomG k callerA)
    (F : ∀ base : Heap, K.In base → base.Ns mainGlobals mg → FnD P w K mg base k fa fd [x] sp) (hbind : ∀ (s : Shared) (u : Value), BindsTo s fd ⟨[u], []⟩ [(x, u)])
    (hsp : ∀ H : Hp, SqL K H a (ns.map V.int) → sp [.ref a] H (fun v _ => v = .bl true) fun _ _ _ => False) :
    codeAny (model P w) callerA (.call (.ref fa) ⟨[.ref a], []⟩) (fun r s' => r = .ok (.ret (.bool true)) ∧ OldK s1.heap s'.heap ∧ s'.os = s1.os ∧ AllBare s'.gens) s1 := by
  have rv := vals_ints hi
  cases hk : K.lookup a with
  | some o =>
    have e := KX a o hk
    rw [ha] at e
    cases e
    refine end_core (H := fun _ => none) KX hns hb hbb hlim hg ha hr F hbind (fun _ => .inl rfl) (fun b u z => nomatch z) (fun b z => absurd rfl z) (fun z => absurd rfl z) (hsp _ (.inr ?_))
    exact ⟨_, vs.toArray, _, hk, rfl, rfl, rfl, by rw [List.size_toArray, hi.length]; exact hl, rv⟩
  | none =>
    have hat : ∀ b, b ≠ a → (fun b => if b = a then some (HO.frz { cls := .type "list", data := .seq vs.toArray } (.lst (ns.map V.int))) else none : Hp) b = none := fun b q => if_neg q
    refine end_core (H := fun b => if b = a then some (HO.frz { cls := .type "list", data := .seq vs.toArray } (.lst (ns.map V.int))) else none) KX hns hb hbb hlim hg ha hr F hbind (fun b => ?_) (fun b u z => ?_) (fun b z => ?_) (fun _ => hk) (hsp _ (.inl (.inr ⟨_, if_pos rfl⟩)))
    · by_cases q : b = a
      · exact .inr ⟨_, _, if_pos q⟩
      · exact .inl (hat b q)
    · by_cases q : b = a
      · subst q
        have z' := (if_pos rfl).symm.trans z
        cases z'
        exact ⟨ha, by rw [List.length_map]; exact hl, vs, _, rv, ha⟩
      · have z' := (hat b q).symm.trans z
        cases z'
    · by_cases q : b = a
      · exact q
      · exact absurd (hat b q) z
end
/-- what a law promises -/
def spLawD (n : Nat) : DSp := fun ws M R xr => ∃ ns : List Int, ws = [.d (.list (ns.map .int))] ∧ ns.length ≤ n ∧ ∀ M', R (.d (.bool true)) M'
theorem dps_ints {K : PySem.W.Frag} {G : Hp} : ∀ ns : List Int, DpAll K G (ns.map V.int) (ns.map PyData.int)
  | [] => .nil
  | n :: ns => .cons (.int n) (dps_ints ns)
theorem walk_ofD {l : PySem.W.OpenLaw} {n k : Nat} {q : Program} {loose : List Str} {XP : (Str → Option Value) → Heap → Prop} {YP : World → Heap → Prop} {d : DefRec} {x : Str}
    (hn : l.most = some n) (hn2 : n ≤ sizeLine) (hdf : d.params.defaults = []) (hr : RoomG k callerA)
    (F : ∀ (w : World) (mg : Str → Option Value) (fa : Addr) (h : Heap), YP w h → h.Ns mainGlobals mg → mg d.name = some (.ref fa) →
      ∃ (K : PySem.W.Frag) (fd : FuncData), K.In h ∧ (∀ (s : Shared) (u : Value), BindsTo s fd ⟨[u], []⟩ [(x, u)]) ∧
        ∀ base : Heap, K.In base → base.Ns mainGlobals mg → FnD l.prog w K mg base k fa fd [x] (lift K (spLawD n))) :
    PySem.W.WalkO q loose XP YP l.row.toRowW d [] (fun f vs => PySem.call f vs) := by
  refine Att.attach_call hn hdf ?_
  intro w s0 s1 mg mb fa o pm cd doc a vs ns G Y ho hd hcd hmg hobj hints hlen hg
  obtain ⟨K, fd, KX, hb, hF⟩ := F w mg fa _ Y G.T.g hmg
  refine law_end KX G.T.g G.T.b G.T.builtins G.T.nolimit hg hobj hints (Nat.le_trans hlen hn2) hr hF hb fun H hS => ?_
  refine ⟨[.d (.list (ns.map .int))], fun _ => none, H, fun y _ => y = .d (.bool true), fun _ _ _ => False, ⟨Ex.refl H, fun a mo z => nomatch z⟩, .cons (show Dp K H (.ref a) (.list (ns.map .int)) from .lst hS (dps_ints ns)) .nil, ⟨ns, rfl, hlen, fun _ => rfl⟩, fun v H' G' M' y s r e => ?_, fun _ _ _ _ _ _ z => z⟩
  subst e
  cases r
  rfl
end DL
namespace DL
open PySem PySem.Spec PyProof.Rows L2
section
variable {X : Cx} {Wx : WX} {k : Nat}
/-! ### a list or a tuple, walked -/
def iSeqT (K : PySem.W.Frag) (tl : TE) : TI := fun σ H R => tl σ H fun x H1 => (∃ a, x = .ref a ∧ (∃ xs, SqL K H1 a xs) ∧ R (Itl K a) H1) ∨ (∃ a, x = .ref a ∧ (∃ xs, SqT K H1 a xs) ∧ R (Itt K a) H1)
theorem pi_seq {tg l : Expr} {tl : TE} (hl : PE X l tl) : PI X tg l (iSeqT X.K tl) := by
  constructor
  intro pins s σ H R I h
  refine thn (hl.run pins s σ H _ I h) ?_
  rintro v s1 ⟨x, H1, I1, r1, q1⟩
  have fp : ∀ {tk : Nat}, ∀ b ∈ [s1.heap.objs.size], FpOk X pins H1 b := fun {tk} b hb => by
    cases (List.mem_singleton.mp hb)
    exact I1.fpOk (Nat.le_refl _) (I1.hok.fresh (Nat.le_refl _))
  rcases q1 with ⟨a, e, ⟨xs, hq⟩, q⟩ | ⟨a, e, ⟨xs, hq⟩, q⟩
  · cases e
    cases r1
    obtain ⟨its, rv, p, hz⟩ := I1.list hq
    apply wpAny_pyIter_list p.isList
    exact ⟨s1.heap.objs.size, [s1.heap.objs.size], _, _, H1, rfl, I1.kept (t' := s1.toks) (fun b o e => Heap.get?_push_of_some _ e), turn_list a _, ⟨_, Heap.get?_push_size _ rfl, rfl, rfl⟩, fp (tk := 0), q⟩
  · cases e
    cases r1
    obtain ⟨its, rv, p, hz⟩ := I1.tuple hq
    apply wpAny_pyIter_tuple (show s1.heap.IsTuple a its.toArray from p)
    exact ⟨s1.heap.objs.size, [s1.heap.objs.size], _, _, H1, rfl, I1.kept (t' := s1.toks) (fun b o e => Heap.get?_push_of_some _ e), turn_tuple a _, ⟨_, Heap.get?_push_size _ rfl, rfl, rfl⟩, fp (tk := 0), q⟩
def iS (w : WE) : WI := fun xq ρ M Q => w xq ρ M fun x M1 => match x with
  | .d (.tuple ds) => Q (ds.map W.d) (fun _ => True) M1
  | x => match seeL M1 x with
    | some ws => Q ws (stL x ws) M1
    | none => False
theorem di_seq {tg e : Expr} {w : WE} (h : DE X Wx e w) : DI X Wx tg e (iS w) := by
  obtain ⟨t, p, s⟩ := h
  refine ⟨_, pi_seq p, fun xq ρ M σ G H Q R rl h kk => ?_⟩
  refine s xq ρ M σ G H _ _ rl h fun v H1 G1 M1 x s1 r1 q1 => ?_
  have hl : (match seeL M1 x with | some ws => Q ws (stL x ws) M1 | none => False) → ∃ a, v = .ref a ∧ (∃ xs, SqL X.K H1 a xs) ∧ R (Itl X.K a) H1 := fun q1 => by
    cases e : seeL M1 x with
    | none => rw [e] at q1; exact q1.elim
    | some ws =>
      rw [e] at q1
      obtain ⟨a, vs, rfl, sq, pr⟩ := seeL_ok s1.sim r1 e
      exact ⟨a, rfl, ⟨vs, sq⟩, kk _ _ _ _ _ _ s1 (jok_list (H := H1) (v := .ref a) r1 e) q1⟩
  cases x with
  | r z => exact .inl (hl q1)
  | d d =>
    cases d <;> try (exact .inl (hl q1))
    rename_i ds
    obtain ⟨a, vs, rfl, sq, _, dd⟩ := seeT_ok (ds := ds) s1.sim r1 rfl
    exact .inr ⟨a, rfl, ⟨vs, sq⟩, kk _ _ _ _ _ _ s1 (jok_tup r1) q1⟩
/-! ### in: flat things, or data in a list -/
def oInD (neg : Bool) : WO := fun x y M Q => match seeD M x, seeD M y with
  | some d, some (.list ds) => SeqAt.shaped d = true ∧ SeqAt.shaped (.list ds) = true ∧ Q (.d (.bool (if neg then !(ds.any fun z => PyData.eqv z d) else ds.any fun z => PyData.eqv z d))) M
  | _, _ => False
theorem so_inD : SndO X.K (rInD X.K) (oInD false) := fun M G H x y v u Q R s r1 r2 h kk => by
  unfold oInD at h
  cases e1 : seeD M x with
  | none => rw [e1] at h; exact h.elim
  | some d =>
    cases e2 : seeD M y with
    | none => rw [e1, e2] at h; exact h.elim
    | some e =>
      rw [e1, e2] at h
      cases e <;> try (exact h.elim)
      obtain ⟨c1, c2, q⟩ := h
      exact ⟨d, _, seeD_ok s r1 e1, seeD_ok s r2 e2, c1, c2, kk _ _ _ _ _ (Stp.refl s) (Dp.bl _) q⟩
theorem so_notInD : SndO X.K (rNotInD X.K) (oInD true) := fun M G H x y v u Q R s r1 r2 h kk => by
  unfold oInD at h
  cases e1 : seeD M x with
  | none => rw [e1] at h; exact h.elim
  | some d =>
    cases e2 : seeD M y with
    | none => rw [e1, e2] at h; exact h.elim
    | some e =>
      rw [e1, e2] at h
      cases e <;> try (exact h.elim)
      obtain ⟨c1, c2, q⟩ := h
      exact ⟨d, _, seeD_ok s r1 e1, seeD_ok s r2 e2, c1, c2, kk _ _ _ _ _ (Stp.refl s) (Dp.bl _) q⟩
/-! ### a chain of comparisons -/
def wChain (f g : WO) (wa wb wc : WE) : WE := fun xq ρ M Q => wa xq ρ M fun x M1 => wb xq ρ M1 fun y M2 => f x y M2 fun z M3 => match z with
  | .d (.bool b) => if b = true then wc xq ρ M3 fun u M4 => g y u M4 Q else Q (.d (.bool false)) M3
  | _ => False
theorem sndChain {r r' : R2} {f g : WO} {ta tb tc : TE} {wa wb wc : WE} (ho : SndO X.K r f) (ho' : SndO X.K r' g) (sa : SndE X.K Wx ta wa) (sb : SndE X.K Wx tb wb) (sc : SndE X.K Wx tc wc) : SndE X.K Wx (tChain r r' ta tb tc) (wChain f g wa wb wc) := fun xq ρ M σ G H Q R rl h kk => by
  refine sa xq ρ M σ G H _ _ rl h fun v H1 G1 M1 x s1 r1 q1 => sb xq ρ M1 σ G1 H1 _ _ (rl.next s1) q1 fun u H2 G2 M2 y s2 r2 q2 => ?_
  refine ho M2 G2 H2 x y v u _ _ s2.sim (r1.ext s2.ex) r2 q2 fun v3 H3 G3 M3 z s3 r3 q3 => ?_
  have st := (s1.trans s2).trans s3
  cases z with
  | r z => exact q3.elim
  | d d =>
    cases d <;> try (exact q3.elim)
    rename_i bb
    cases r3
    refine ⟨bb, rfl, ?_⟩
    cases bb with
    | false =>
      show R (.bl false) H3
      exact kk _ _ _ _ _ st (Dp.bl _) q3
    | true =>
      show tc σ H3 fun z' H4 => r' u z' H4 R
      exact sc xq ρ M3 σ G3 H3 _ _ (rl.next st) q3 fun v4 H4 G4 M4 w s4 r4 q4 => ho' M4 G4 H4 y w u v4 _ _ s4.sim ((r2.ext s3.ex).ext s4.ex) r4 q4 fun v5 H5 G5 M5 w5 s5 => kk v5 H5 G5 M5 w5 ((st.trans s4).trans s5)
theorem de_chain {op op' : CmpOp} {r r' : R2} {f g : WO} {a b c : Expr} {wa wb wc : WE} {pos : Pos} (hr : OpR X (compareOp op) r) (hr' : OpR X (compareOp op') r') (ho : SndO X.K r f) (ho' : SndO X.K r' g) (ha : DE X Wx a wa) (hb : DE X Wx b wb) (hc : DE X Wx c wc)
    (h1 : lastMarks [op, op'] [b, c] = false := by rfl) : DE X Wx (.Compare a [op, op'] [b, c] pos) (wChain f g wa wb wc) := by
  obtain ⟨ta, pa, sa⟩ := ha
  obtain ⟨tb, pb, sb⟩ := hb
  obtain ⟨tc, pc, sc⟩ := hc
  exact ⟨_, pe_chain hr hr' pa pb pc h1, sndChain ho ho' sa sb sc⟩
theorem dt_chain {op op' : CmpOp} {r r' : R2} {f g : WO} {a b c : Expr} {wa wb wc : WE} {pos : Pos} (hr : OpR X (compareOp op) r) (hr' : OpR X (compareOp op') r') (ho : SndO X.K r f) (ho' : SndO X.K r' g) (ha : DE X Wx a wa) (hb : DE X Wx b wb) (hc : DE X Wx c wc)
    (h1 : lastMarks [op, op'] [b, c] = false := by rfl) : DT X Wx (.Compare a [op, op'] [b, c] pos) (wTest (wChain f g wa wb wc)) := by
  obtain ⟨ta, pa, sa⟩ := ha
  obtain ⟨tb, pb, sb⟩ := hb
  obtain ⟨tc, pc, sc⟩ := hc
  exact ⟨_, pt_chain hr hr' pa pb pc h1, sndTest (sndChain ho ho' sa sb sc)⟩
end
/-! ### what the top holds of a def -/
structure Def (K : PySem.W.Frag) (mg : Str → Option Value) (x : Str) (st : Stmt) (ps : List Str) : Prop where
  ex : ∃ f fd, mg x = some (.ref f) ∧ Fun K x x st f fd ∧ ∀ us : List Value, us.length = ps.length → bindArgs fd ⟨us, []⟩ = pure (ps.zip us)
structure HasF (P : Program) (w : World) (K : PySem.W.Frag) (mg : Str → Option Value) (base : Heap) (k : Nat) (x : Str) (ps : List Str) (ds : DSp) : Prop where
  ex : ∃ f fd, mg x = some (.ref f) ∧ PySem.W.keepIn K (.ref f) = true ∧ (∀ us : List Value, us.length = ps.length → bindArgs fd ⟨us, []⟩ = pure (ps.zip us)) ∧ (∃ oc od osl, K.lookup f = some ⟨oc, od, .func fd, osl⟩) ∧ FnD P w K mg base k f fd ps (lift K ds)
theorem HasF.mono {P : Program} {w : World} {K : PySem.W.Frag} {mg : Str → Option Value} {base : Heap} {j k : Nat} {x : Str} {ps : List Str} {ds : DSp} (h : HasF P w K mg base j x ps ds) (hk : j ≤ k) : HasF P w K mg base k x ps ds := by
  obtain ⟨f, fd, a, b, c, l, d⟩ := h
  exact ⟨f, fd, a, b, c, l, d.mono hk⟩
theorem HasF.imp {P : Program} {w : World} {K : PySem.W.Frag} {mg : Str → Option Value} {base : Heap} {k : Nat} {x : Str} {ps : List Str} {ds ds' : DSp} (h : HasF P w K mg base k x ps ds) (hi : ∀ ws M R xr, ds' ws M R xr → ds ws M R xr) : HasF P w K mg base k x ps ds' := by
  obtain ⟨f, fd, a, b, c, l, d⟩ := h
  refine ⟨f, fd, a, b, c, l, d.imp fun vs H Q E q => ?_⟩
  obtain ⟨ws, M, G, R, xr, s, r, h1, h2⟩ := q
  exact ⟨ws, M, G, R, xr, s, r, hi _ _ _ _ h1, h2⟩
theorem de_callH {X : Cx} {Wx : WX} {k j : Nat} {x : Str} {ps : List Str} {ds : DSp} {wa : WA} {e : Expr} {es : List Expr} {p pos : Pos} (h : HasF X.prog X.w X.K X.mg X.base j x ps ds) (c : Cq X Wx k) (ha : DA X Wx (e :: es) wa) (hj : j ≤ k := by omega) (hg : Gl X x := by rfl)
    (hdb : (x == ("__debug__" : Str)) = false := by decide) (he : starEach (e :: es) X.env = (false, eval e X.env) :: starEach es X.env := by rfl) (hpl : (backTo pos (starEach es X.env)).any (·.1) = false := by rfl) :
    DE X Wx (.Call (.Name x p) (e :: es) [] pos) (wCall ds wa) := by
  obtain ⟨f, fd, hm, hk, hb, _, F⟩ := h
  exact de_call (F.mono hj) c hm hk (.all hb) ha hg hdb he hpl
/-- a def holds its promise -/
theorem hasF_ok {P : Program} {w : World} {K : PySem.W.Frag} {mg : Str → Option Value} {base : Heap} {x : Str} {st : Stmt} {N ps : List Str} {k : Nat} {ds : DSp} (D : Def K mg x st ps) (S : FnScope N ps (defScope st)) (len : ∀ ws M R xr, ds ws M R xr → ws.length = ps.length) (wb : WS)
    (hbody : ∀ (f : Addr) (cdv : Value) (A : Around) (outer : List PySem.Env) (s : Shared) (H : Hp) (E : XK), Cq (cxOf (L2.CX P w) P w K mg base N x (defScope st) f cdv A outer s H E) (fun cls d _ H => E cls d H) k →
      PassesOwn (model P w) (A.deeper (envOfC x (defScope st) s.heap.objs.size f cdv)) (envOfC x (defScope st) s.heap.objs.size f cdv) (cxOf (L2.CX P w) P w K mg base N x (defScope st) f cdv A outer s H E).xe →
      DSs (cxOf (L2.CX P w) P w K mg base N x (defScope st) f cdv A outer s H E) (fun cls d _ H => E cls d H) (defBody st) wb)
    (pure : ∀ ws M R xr, ds ws M R xr → wb (dEnds R xr) (startD N ws) M) : HasF P w K mg base (k + 1) x ps ds := by
  obtain ⟨f, fd, hm, F, hb⟩ := D.ex
  have lk : ∃ oc od osl, K.lookup f = some ⟨oc, od, .func fd, osl⟩ := by
    obtain ⟨oc, od, kV, doc, pm, an, cdv, ct, osl, _, lk, _⟩ := F.ex
    exact ⟨oc, od, osl, lk⟩
  exact ⟨f, fd, hm, F.kp, hb, lk, fnD_ok F S len wb (fun cdv A outer s H E c hp => hbody f cdv A outer s H E c hp) pure⟩
/-- of nothing all is promised -/
theorem hasF_false {P : Program} {w : World} {K : PySem.W.Frag} {mg : Str → Option Value} {base : Heap} {x : Str} {st : Stmt} {ps : List Str} {k : Nat} (D : Def K mg x st ps) : HasF P w K mg base k x ps (fun _ _ _ _ => False) := by
  obtain ⟨f, fd, hm, F, hb⟩ := D.ex
  have lk : ∃ oc od osl, K.lookup f = some ⟨oc, od, .func fd, osl⟩ := by
    obtain ⟨oc, od, kV, doc, pm, an, cdv, ct, osl, _, lk, _⟩ := F.ex
    exact ⟨oc, od, osl, lk⟩
  have no : ∀ {vs H Q E}, lift K (fun _ _ _ _ => False) vs H Q E → False := fun h => by
    obtain ⟨_, _, _, _, _, _, _, z, _⟩ := h
    exact z
  exact ⟨f, fd, hm, F.kp, hb, lk, fun _ _ _ _ h => (no h).elim, fun _ _ _ _ _ _ _ _ _ _ _ _ _ h => (no h).elim⟩
end DL
namespace DL
open PySem PySem.Spec PyProof.Rows L2
/-! ### t[::-1] of a tuple -/
section
variable {prog : Program} {w : World} {A : Around} {E : Value → Shared → Prop} {s : Shared}
theorem rev_adjust (n : Nat) : Builtin.Slice.sliceAdjust none none (-1) (n : Int) = ((n : Int) - 1, -1) := rfl
theorem rev_places (n : Nat) : Builtin.Slice.slicePlaces ((n : Int) - 1) (-1) (-1) = n := by
  unfold Builtin.Slice.slicePlaces
  rw [if_neg (by decide)]
  by_cases h : (n : Int) - 1 > -1
  · rw [if_pos h, show (-(-1) : Int) = 1 by decide, Int.ediv_one]
    omega
  · rw [if_neg h]
    have : n = 0 := by omega
    subst this
    rfl
theorem rev_pick (xs : List Value) : ((List.range xs.length).filterMap fun (k : Nat) => xs.toArray[(((xs.length : Int) - 1) + (k : Int) * (-1)).toNat]?) = xs.reverse := by
  have e1 : ∀ k ∈ List.range xs.length, xs.toArray[(((xs.length : Int) - 1) + (k : Int) * (-1)).toNat]? = xs.reverse[k]? := fun k hk => by
    have hk' := List.mem_range.mp hk
    rw [List.getElem?_toArray, List.getElem?_reverse hk']
    congr 1
    omega
  have e0 : ∀ (l : List Nat) (f g : Nat → Option Value), (∀ k ∈ l, f k = g k) → l.filterMap f = l.filterMap g := by
    intro l f g h
    induction l with
    | nil => rfl
    | cons x r ih => rw [List.filterMap_cons, List.filterMap_cons, h x List.mem_cons_self, ih fun k hk => h k (List.mem_cons_of_mem _ hk)]
  rw [e0 _ _ _ e1]
  have e2 : ∀ l : List Value, (List.range l.length).filterMap (fun k => l[k]?) = l := by
    intro l
    induction l with
    | nil => rfl
    | cons x r ih =>
      rw [List.length_cons, List.range_succ_eq_map, List.filterMap_cons]
      simp only [List.getElem?_cons_zero, List.filterMap_map]
      congr 1
  have e3 := e2 xs.reverse
  rw [List.length_reverse] at e3
  exact e3
theorem sliceApplied_rev {sl : Addr} {its : List Value} {vs : Value} {R : Int × Int × Nat → Shared → Prop} (hs : s.heap.IsSliceOf sl .none .none vs) (ps : IsPart vs (some (-1))) (hR : R ((its.length : Int) - 1, -1, its.length) s) :
    wpAny (model prog w) A (Builtin.Slice.sliceApplied (.ref sl) (pure ((its.toArray.size : Nat) : Int))) R E s := by
  obtain ⟨os, hos, hcs, hds⟩ := id hs
  unfold Builtin.Slice.sliceApplied Builtin.Slice.sliceFields
  refine wpAny_bind (wpAny_bind (wpAny_field hos hds (x := .none) rfl (wpAny_bind (wpAny_field hos hds (x := .none) rfl (wpAny_bind (wpAny_field hos hds (x := vs) rfl (wpAny_pure ?_)))))))
  refine wpAny_bind (HT.slicePart_ ps ?_)
  show wpAny _ _ (if ((-1 : Int) == 0) = true then _ else _) _ _ s
  rw [if_neg (by decide)]
  refine wpAny_bind (slicePart_none (wpAny_bind (slicePart_none (wpAny_bind (wpAny_pure ?_)))))
  show wpAny _ _ (match Builtin.Slice.sliceAdjust none none (-1) ((its.toArray.size : Nat) : Int) with | (lo, hi) => pure (lo, (-1 : Int), Builtin.Slice.slicePlaces lo hi (-1))) _ _ s
  rw [List.size_toArray, rev_adjust]
  show wpAny _ _ (pure ((its.length : Int) - 1, (-1 : Int), Builtin.Slice.slicePlaces ((its.length : Int) - 1) (-1) (-1))) _ _ s
  rw [rev_places]
  exact wpAny_pure hR
theorem getItem_tuple_rev {t sl : Addr} {its : List Value} {vs : Value} {Q : Value → Shared → Prop} (ht : IsTup s.heap t its.toArray) (hs : s.heap.IsSliceOf sl .none .none vs) (ps : IsPart vs (some (-1)))
    (h : Q (.ref s.heap.objs.size) { s with heap := s.heap.push { cls := .type "tuple", data := .seq its.reverse.toArray } }) (hsz : its.length ≤ sizeLine) : wpAny (model prog w) A (getItem (.ref t) (.ref sl)) Q E s := by
  obtain ⟨os, hos, hcs, hds⟩ := id hs
  have hTs : s.TypeIs (.ref sl) "slice" := ⟨os, hos, hcs⟩
  have htake : sizeOk (.seq its.reverse.toArray) := by
    show its.reverse.toArray.size ≤ sizeLine
    rw [List.size_toArray, List.length_reverse]; exact hsz
  unfold getItem
  try with_reducible refine wpAny_holding ?_
  first | refine wpAny_bind (wpAny_pure ?_) | skip
  refine wpAny_bind (wpAny_sequenceKey ht.typeIs (by decide) ?_)
  refine wpAny_bind (wpAny_callSpecial?_slot (name := Str.ofString "__getitem__") ht.typeIs PyProof.Rows.slot_tuple_getitem (wpAny_call_entry PyProof.Rows.slot_tuple_getitem ht.typeIs entry_tuple_getitem ?_ (args_tuple_getitem _ _)))
  show wpAny _ _ (Builtin.Tuple.tupleItemsOf (.ref t) >>= _) _ _ s
  refine wpAny_bind (tupleItemsOf_ ht ?_)
  refine wpAny_bind (wpAny_typeOf hTs ?_)
  rw [if_pos (by decide)]
  refine wpAny_bind (sliceApplied_rev hs ps ?_)
  have hno : ¬ ((((its.length : Int) - 1) == 0 && (-1 : Int) == 1 && its.length == its.toArray.size) = true) := by
    intro q
    rw [Bool.and_eq_true, Bool.and_eq_true] at q
    exact absurd q.1.2 (by decide)
  show wpAny _ _ (if ((((its.length : Int) - 1) == 0 && (-1 : Int) == 1 && its.length == its.toArray.size) = true) then _ else _) _ _ s
  rw [if_neg hno]
  show wpAny _ _ (do return ← ret (← Builtin.Tuple.tupleExact ((List.range its.length).filterMap fun (k : Nat) => its.toArray[(((its.length : Int) - 1) + (k : Int) * (-1)).toNat]?).toArray)) _ _ s
  rw [rev_pick]
  first
    | exact wpAny_bind (m := Builtin.Tuple.tupleExact _) (wpAny_newObj_type (wpAny_pure ⟨_, rfl, wpAny_pure h⟩) htake)
    | exact wpAny_bind (m := Builtin.Tuple.tupleExact _) (wpAny_newObj_type (wpAny_bind (wpAny_pure (wpAny_pure ⟨_, rfl, wpAny_pure h⟩))) htake)
    | exact wpAny_bind (wpAny_bind (m := Builtin.Tuple.tupleExact _) (wpAny_newObj_type (wpAny_pure (wpAny_pure ⟨_, rfl, wpAny_pure h⟩)) htake))
    | exact wpAny_bind (wpAny_bind (m := Builtin.Tuple.tupleExact _) (wpAny_newObj_type (wpAny_pure ⟨_, rfl, wpAny_pure h⟩) htake))
end
section
variable {X : Cx} {Wx : WX} {k : Nat}
def tRev (K : PySem.W.Frag) (te : TE) : TE := fun σ H Q => te σ H fun x H1 => ∃ a xs, x = .ref a ∧ ((SqL K H1 a xs ∧ ∀ p, H1 p = none → Q (.ref p) (upd H1 p (.lst xs.reverse))) ∨ (SqT K H1 a xs ∧ ∀ p, H1 p = none → Q (.ref p) (upd H1 p (.tup xs.reverse))))
theorem pe_rev {e : Expr} {te : TE} {j : Nat} {p1 p2 p3 pos : Pos} (he : PE X e te) : PE X (.Subscript e (.Slice none none (some (.UnaryOp .USub (.Constant (.int 1) j p1) p2)) p3) pos) (tRev X.K te) := by
  constructor
  intro pins s σ H Q I h
  apply Subscript_
  refine thn (he.run pins s σ H _ I h) ?_
  rintro v s1 ⟨x, H1, I1, r1, a, xs, rfl, q⟩
  cases r1
  have hst : PO X (some (.UnaryOp .USub (.Constant (.int 1) j p1) p2)) (tPart (tUn (rU fun i => .int (-i)) (tC (.int 1)))) := po_some (pe_un un_neg pe_int)
  apply wpAny_Slice
  refine thn (po_none.run pins s1 σ H1 (fun o H2 => o = none ∧ H2 = H1) I1 ⟨rfl, rfl⟩) ?_
  rintro vl s2 ⟨l, H2, I2, pl, rfl, rfl⟩
  refine thn (po_none.run pins s2 σ H2 (fun o H3 => o = none ∧ H3 = H2) I2 ⟨rfl, rfl⟩) ?_
  rintro vu s3 ⟨u, H3, I3, pu, rfl, rfl⟩
  refine thn (hst.run pins s3 σ H3 (fun o H4 => o = some (-1) ∧ H4 = H3) I3 ⟨1, rfl, -1, rfl, rfl, rfl⟩) ?_
  rintro vs s4 ⟨o, H4, I4, ps, rfl, rfl⟩
  have I5 : Inv X pins σ H4 { s4 with heap := s4.heap.push { cls := .type "slice", data := .fields #[vl, vu, vs] } } := I4.kept (t' := s4.toks) (fun b ob q => Heap.get?_push_of_some _ q)
  show wpAny (model X.prog X.w) X.A (subscriptTail e (.Slice none none (some (.UnaryOp .USub (.Constant (.int 1) j p1) p2)) p3) (.ref a) (.ref s4.heap.objs.size)) (EP X pins σ Q) X.xe { s4 with heap := s4.heap.push { cls := .type "slice", data := .fields #[vl, vu, vs] } }
  rcases q with ⟨hx, q⟩ | ⟨hx, q⟩
  · obtain ⟨its, r, ht, hz⟩ := I5.list hx
    have hlen := r.length
    refine tail_any (ops := [.ref a, .ref s4.heap.objs.size]) ht.isList.typeIs (PySem.slot_list_getitem.lookup) ?_ (by with_unfolding_all rfl)
    refine wpAny_getItem_list_slice ht.isList (Heap.IsSliceOf.new _ vl vu vs) pl pu ps (by decide) ?_ (by rw [List.size_toArray]; omega)
    rw [PySem.W.krv_pick]
    refine ⟨.ref _, _, I5.laid (t' := s4.toks) (o := .lst xs.reverse) (fun b ob q => Heap.get?_push_of_some _ q) (Nat.le_refl _) ?_, rfl, q _ (I5.hok.fresh (Nat.le_refl _))⟩
    exact ⟨by rw [List.length_reverse]; exact hz, _, 0, paired_rev r, Heap.get?_push_size _ rfl⟩
  · obtain ⟨its, r, ht, hz⟩ := I5.tuple hx
    have hlen := r.length
    cases pl
    cases pu
    refine tail_any (ops := [.ref a, .ref s4.heap.objs.size]) ht.typeIs (PyProof.Rows.slot_tuple_getitem.lookup) ?_ (by with_unfolding_all rfl)
    refine getItem_tuple_rev ht (Heap.IsSliceOf.new _ .none .none vs) ps ?_ (by rw [← hlen]; exact hz)
    refine ⟨.ref _, _, I5.laid (t' := s4.toks) (o := .tup xs.reverse) (fun b ob q => Heap.get?_push_of_some _ q) (Nat.le_refl _) ?_, rfl, q _ (I5.hok.fresh (Nat.le_refl _))⟩
    exact ⟨by rw [List.length_reverse]; exact hz, its.reverse, paired_rev r, ⟨_, Heap.get?_push_size _ rfl, rfl, _, rfl⟩⟩
def wRev (o : Bool) (w : WE) : WE := fun xq ρ M Q => w xq ρ M fun x M1 => match x with
  | .d (.tuple ds) => Q (.d (.tuple ds.reverse)) M1
  | x => match seeL M1 x with
    | some ws => mkL o ws.reverse M1 Q
    | none => False
theorem de_rev (o : Bool) {e : Expr} {w : WE} {j : Nat} {p1 p2 p3 pos : Pos} (he : DE X Wx e w) : DE X Wx (.Subscript e (.Slice none none (some (.UnaryOp .USub (.Constant (.int 1) j p1) p2)) p3) pos) (wRev o w) := by
  obtain ⟨t, p, s⟩ := he
  refine ⟨_, pe_rev p, fun xq ρ M σ G H Q R rl h kk => ?_⟩
  refine s xq ρ M σ G H _ _ rl h fun v H1 G1 M1 x s1 r1 q1 => ?_
  have hl : (match seeL M1 x with | some ws => mkL o ws.reverse M1 Q | none => False) → ∃ a xs, v = .ref a ∧ ((SqL X.K H1 a xs ∧ ∀ p, H1 p = none → R (.ref p) (upd H1 p (.lst xs.reverse))) ∨ (SqT X.K H1 a xs ∧ ∀ p, H1 p = none → R (.ref p) (upd H1 p (.tup xs.reverse)))) := fun q1 => by
    cases e : seeL M1 x with
    | none => rw [e] at q1; exact q1.elim
    | some ws =>
      rw [e] at q1
      obtain ⟨a, vs, rfl, sq, pr⟩ := seeL_ok s1.sim r1 e
      exact ⟨a, vs, rfl, .inl ⟨sq, mkL_ok s1.sim (paired_rev pr) q1 fun v' H' G' M' y s2 => kk v' H' G' M' y (s1.trans s2)⟩⟩
  cases x with
  | r z => exact hl q1
  | d d =>
    cases d <;> try (exact hl q1)
    rename_i ds
    obtain ⟨a, vs, rfl, sq, _, dd⟩ := seeT_ok (ds := ds) s1.sim r1 rfl
    refine ⟨a, vs, rfl, .inr ⟨sq, fun q hq => ?_⟩⟩
    refine kk _ _ _ _ _ (s1.trans (Stp.dat s1.sim hq)) ?_ q1
    have pr : Paired (RelW X.K G1) (ds.reverse.map W.d) vs.reverse := by rw [List.map_reverse]; exact paired_rev (dps_paired dd)
    exact .tup (.inl (.inl upd_same)) ((Ex.new (s1.sim.free hq).2).dps (paired_dps pr))
/-! ### i in range(a, b) -/
theorem op_notIn_rng : OpR X (compareOp .NotIn) (fun x y H Q => ∃ i a lo hi, x = V.int i ∧ y = V.ref a ∧ H a = some (.rng lo hi) ∧ Q (.bl (!decide (lo ≤ i ∧ i < hi))) H) := by
  intro pins s σ H x y v u Q I rx ry h
  obtain ⟨i, a, lo, hi, rfl, rfl, ha, q⟩ := h
  obtain ⟨kk, rfl⟩ := rx
  obtain rfl : u = Value.ref a := ry
  obtain ⟨t1, t2, t3, ho⟩ := I.hok a _ ha
  show wpAny _ _ (do return Value.bool (!(← contains (Value.ref a) (Value.int i kk)))) _ _ s
  apply wpAny_bind
  refine wpAny_contains_slot (T := "range") ⟨_, ho, rfl⟩ F.slot_range_contains (call_meets F.slot_range_contains ⟨_, ho, rfl⟩ F.entry_range_contains (F.args_range_contains_2 _ _) (q_contains a lo hi i t1 t2 t3 kk)
    ⟨ho, wpAny_truthy_bool (wpAny_pure ⟨.bl _, H, I, rfl, ?_⟩)⟩)
  rw [place1]
  exact q
def wInR (neg : Bool) (w : WE) (wa : WA) : WE := fun xq ρ M Q => w xq ρ M fun x M1 => wa xq ρ M1 fun xs M2 => match x, xs with
  | .d (.int i), [.d (.int a), .d (.int b)] => Q (.d (.bool (if neg then !decide (a ≤ i ∧ i < b) else decide (a ≤ i ∧ i < b)))) M2
  | _, _ => False
theorem sndInR {g : Int → Int → Int → Bool} {t : TE} {ta : TA} {w : WE} {wa : WA} (st : SndE X.K Wx t w) (sa : SndA X.K Wx ta wa) :
    SndE X.K Wx (tOp (fun x y H Q => ∃ i a lo hi, x = V.int i ∧ y = V.ref a ∧ H a = some (.rng lo hi) ∧ Q (.bl (g i lo hi)) H) t (tCB (fun vs H Q => ∃ i j, vs = [V.int i, V.int j] ∧ ∀ p, H p = none → Q (.ref p) (upd H p (.rng i j))) ta))
      (fun xq ρ M Q => w xq ρ M fun x M1 => wa xq ρ M1 fun xs M2 => match x, xs with | .d (.int i), [.d (.int a), .d (.int b)] => Q (.d (.bool (g i a b))) M2 | _, _ => False) := fun xq ρ M σ G H Q R rl h kk => by
  refine st xq ρ M σ G H _ _ rl h fun v H1 G1 M1 x s1 r1 q1 => ?_
  refine sa xq ρ M1 σ G1 H1 _ _ (rl.next s1) q1 fun vs H2 G2 M2 xs s2 r2 q2 => ?_
  cases x with
  | r z => exact q2.elim
  | d d =>
    cases d <;> try (exact q2.elim)
    match xs, q2 with
    | [.d (.int a'), .d (.int b')], q2 =>
      obtain ⟨v2, u2, rfl, rx, ry⟩ := paired2 r2
      cases rx; cases ry; cases r1
      refine ⟨a', b', rfl, fun p' hp' => ⟨_, p', a', b', rfl, rfl, upd_same, ?_⟩⟩
      exact kk _ _ _ _ _ ((s1.trans s2).trans (Stp.dat s2.sim hp')) (Dp.bl _) q2
theorem de_inR (neg : Bool) {e a b : Expr} {w : WE} {wa : WA} {p q pos : Pos} (hm : X.mg "range" = none) (he : DE X Wx e w) (ha : DA X Wx [a, b] wa) (hg : Gl X "range" := by rfl) (hv : bootBuiltins "range" = some (.type "range") := by decide +kernel)
    (hs : starEach [a, b] X.env = (false, eval a X.env) :: starEach [b] X.env := by rfl) (hpl : (backTo q (starEach [b] X.env)).any (·.1) = false := by rfl) : DE X Wx (.Compare e [if neg then .NotIn else .In] [.Call (.Name "range" p) [a, b] [] q] pos) (wInR neg w wa) := by
  obtain ⟨t, pt, st⟩ := he
  obtain ⟨ta, pa, sa⟩ := ha
  have pr := pe_callTy (X := X) cr_range2 hg hm hv pa (p := p) (pos := q) (he := hs) (hpl := hpl)
  cases neg with
  | true => exact ⟨_, pe_cmpR op_notIn_rng pt pr rfl, sndInR (g := fun i a b => !decide (a ≤ i ∧ i < b)) st sa⟩
  | false => exact ⟨_, pe_cmpR op_in_rng pt pr rfl, sndInR (g := fun i a b => decide (a ≤ i ∧ i < b)) st sa⟩
theorem dt_inR (neg : Bool) {e a b : Expr} {w : WE} {wa : WA} {p q pos : Pos} (hm : X.mg "range" = none) (he : DE X Wx e w) (ha : DA X Wx [a, b] wa) (hg : Gl X "range" := by rfl) (hv : bootBuiltins "range" = some (.type "range") := by decide +kernel)
    (hs : starEach [a, b] X.env = (false, eval a X.env) :: starEach [b] X.env := by rfl) (hpl : (backTo q (starEach [b] X.env)).any (·.1) = false := by rfl) : DT X Wx (.Compare e [if neg then .NotIn else .In] [.Call (.Name "range" p) [a, b] [] q] pos) (wTest (wInR neg w wa)) := by
  obtain ⟨t, pt, st⟩ := he
  obtain ⟨ta, pa, sa⟩ := ha
  have pr := pe_callTy (X := X) cr_range2 hg hm hv pa (p := p) (pos := q) (he := hs) (hpl := hpl)
  cases neg with
  | true => exact ⟨_, pt_cmpR op_notIn_rng pt pr rfl, sndTest (sndInR (g := fun i a b => !decide (a ≤ i ∧ i < b)) st sa)⟩
  | false => exact ⟨_, pt_cmpR op_in_rng pt pr rfl, sndTest (sndInR (g := fun i a b => decide (a ≤ i ∧ i < b)) st sa)⟩
/-! ### len(set(xs)) of ints -/
def dedup (ns : List Int) : List Int := PyProof.Rows.firstMet (fun i => ns.getD i 0) ns.length
def tLenSet (K : PySem.W.Frag) (ta : TE) : TE := fun σ H Q => ta σ H fun x H1 => ∃ (l : Addr) (ns : List Int), x = .ref l ∧ SqL K H1 l (ns.map V.int) ∧ ns.length ≤ 4000 ∧ (dedup ns).length ≤ 4000 ∧ Q (.int ((dedup ns).length : Nat)) H1
theorem pe_lenSet {a : Expr} {ta : TE} {p p2 q pos : Pos} (hm : X.mg "len" = none) (hm2 : X.mg "set" = none) (ha : PE X a ta) (hc : X.calm = true) (hg : Gl X "len") (hg2 : Gl X "set")
    (na : starEach [a] X.env = (false, eval a X.env) :: starEach [] X.env) : PE X (.Call (.Name "len" p) [.Call (.Name "set" p2) [a] [] q] [] pos) (tLenSet X.K ta) := by
  constructor
  intro pins s σ H Q I h
  refine Call_ (ld_blt I hg hm boot_len ?_)
  refine PyProof.Rows.callWith_builtin1 (PyProof.Rows.args_cons ?_ rfl) rfl rfl
  refine Call_ (ld_blt I hg2 hm2 boot_set ?_)
  refine PyProof.Rows.callWith_type1 (PyProof.Rows.args_cons (thn (ha.run pins s σ H _ I h) ?_) na) na rfl
  rintro v s1 ⟨x, H1, I1, r1, l, ns, rfl, hq, hl, hl2, q1⟩
  apply PyProof.Rows.args_nil
  cases r1
  obtain ⟨its, r, pl, hz⟩ := I1.list hq
  have hlen : its.toArray.size = ns.length := by rw [List.size_toArray, ← r.length, List.length_map]
  refine call_set_list (I1.ok.hd hc) pl.isList (by simpa using RZ.intsAre_vals r) (by rw [hlen]; unfold scanBound; omega) fun h' tk hS hk => ?_
  apply PyProof.Rows.args_nil
  rw [hlen] at hS
  have hl3 : (PyProof.Rows.firstMet (fun i => ns.getD i 0) ns.length).length ≤ 4000 := hl2
  obtain ⟨o, es, ep, t, ho, hex, hd, _, _, _, hf, hn⟩ := hS
  have I2 : Inv X pins σ H1 { s1 with heap := h', toks := tk } := I1.kept (fun b o e => hk b o (Heap.lt_size e) e)
  exact call_len_set ho hex hd hf (by rw [hn]; omega) ⟨.int ((dedup ns).length : Nat), H1, I2.tok _, ⟨_, by rw [hn]; rfl⟩, q1⟩
def wLenSet (wa : WA) : WE := fun xq ρ M Q => wa xq ρ M fun xs M1 => match xs with
  | [x] => (match (seeL M1 x).bind intsD with
    | some ns => (ns.length ≤ 4000 ∧ (dedup ns).length ≤ 4000) ∧ Q (.d (.int ((dedup ns).length : Nat))) M1
    | none => False)
  | _ => False
theorem de_lenSet {a : Expr} {wa : WE} {p p2 q pos : Pos} (hm : X.mg "len" = none) (hm2 : X.mg "set" = none) (c : Cq X Wx k) (ha' : DE X Wx a wa) (hg : Gl X "len" := by rfl) (hg2 : Gl X "set" := by rfl)
    (na : starEach [a] X.env = (false, eval a X.env) :: starEach [] X.env := by rfl) : DE X Wx (.Call (.Name "len" p) [.Call (.Name "set" p2) [a] [] q] [] pos) (wLenSet (wCons wa wNil)) := by
  obtain ⟨t, pt, st⟩ := ha'
  refine ⟨_, pe_lenSet hm hm2 pt c.calm hg hg2 na, fun xq ρ M σ G H Q R rl h kk => ?_⟩
  refine st xq ρ M σ G H _ _ rl h fun v H1 G1 M1 x s1 r1 q1 => ?_
  have q' : (match (seeL M1 x).bind intsD with | some ns => (ns.length ≤ 4000 ∧ (dedup ns).length ≤ 4000) ∧ Q (.d (.int ((dedup ns).length : Nat))) M1 | none => False) := q1
  cases e : (seeL M1 x).bind intsD with
  | none => rw [e] at q'; exact q'.elim
  | some ns =>
    rw [e] at q'
    obtain ⟨ws, h1, h2⟩ := Option.bind_eq_some_iff.mp e
    obtain ⟨l, vs, rfl, sq, pr⟩ := seeL_ok s1.sim r1 h1
    rw [intsD_ok pr h2] at sq
    exact ⟨l, ns, rfl, sq, q'.1.1, q'.1.2, kk _ _ _ _ _ s1 (Dp.int _) q'.2⟩
/-! ### constants of the module; str(n); max, min of two -/
structure KI (mg : Str → Option Value) (x : Str) (i : Int) : Prop where
  ex : ∃ t, mg x = some (.int i t)
theorem de_globI {x : Str} {i : Int} {pos : Pos} (h : KI X.mg x i) (hg : Gl X x := by rfl) (hd : (x == ("__debug__" : Str)) = false := by decide) : DE X Wx (.Name x pos) (wC (.d (.int i))) := by
  obtain ⟨t, h⟩ := h
  exact de_glob (v := .int i) h ⟨t, rfl⟩ (fun G => Dp.int i) hg hd
structure KC (K : PySem.W.Frag) (mg : Str → Option Value) (x : Str) (d : PyData) : Prop where
  ex : ∃ u v, mg x = some u ∧ RelV v u ∧ ∀ G, Dp K G v d
theorem de_globC {x : Str} {d : PyData} {pos : Pos} (h : KC X.K X.mg x d) (hg : Gl X x := by rfl) (hd : (x == ("__debug__" : Str)) = false := by decide) : DE X Wx (.Name x pos) (wC (.d d)) := by
  obtain ⟨u, v, h, r, f⟩ := h
  exact de_glob h r f hg hd
def bStr : WCl := fun xs M Q => match xs with
  | [.d (.int i)] => i.natAbs.log2 < 1920 ∧ Q (.d (.str (toString i))) M
  | _ => False
theorem sc_str : SndC X.K (fun xs H Q => ∃ i, xs = [.int i] ∧ i.natAbs.log2 < 1920 ∧ Q (.str (toString i)) H) bStr := fun M G H xs vs Q R s r h kk => by
  match xs, h with
  | [.d (.int i)], h =>
    obtain ⟨v, rfl, rx⟩ := paired1 r
    cases rx
    exact ⟨i, rfl, h.1, kk _ _ _ _ _ (Stp.refl s) (Dp.str _) h.2⟩
def bMax2 : WCl := fun xs M Q => match xs with
  | [.d (.int i), .d (.int j)] => Q (.d (.int (if j > i then j else i))) M
  | _ => False
def bMin2 : WCl := fun xs M Q => match xs with
  | [.d (.int i), .d (.int j)] => Q (.d (.int (if j < i then j else i))) M
  | _ => False
theorem sc_max2 : SndC X.K (fun xs H Q => ∃ i j, xs = [.int i, .int j] ∧ Q (.int (if j > i then j else i)) H) bMax2 := fun M G H xs vs Q R s r h kk => by
  match xs, h with
  | [.d (.int i), .d (.int j)], h =>
    obtain ⟨v, u, rfl, rx, ry⟩ := paired2 r
    cases rx; cases ry
    exact ⟨i, j, rfl, kk _ _ _ _ _ (Stp.refl s) (Dp.int _) h⟩
theorem sc_min2 : SndC X.K (fun xs H Q => ∃ i j, xs = [.int i, .int j] ∧ Q (.int (if j < i then j else i)) H) bMin2 := fun M G H xs vs Q R s r h kk => by
  match xs, h with
  | [.d (.int i), .d (.int j)], h =>
    obtain ⟨v, u, rfl, rx, ry⟩ := paired2 r
    cases rx; cases ry
    exact ⟨i, j, rfl, kk _ _ _ _ _ (Stp.refl s) (Dp.int _) h⟩
end
end DL
namespace DL
open PySem PySem.Spec PyProof.Rows L2
/-! ### enumerate of a tuple -/
theorem meets_enumT (l : Addr) (items : Array Value) (n : Nat) (dct : Option Addr) (sl : Array (Option Value)) :
    Meets (Builtin.«enumerate.__new__» ⟨[.type "enumerate", .ref l], []⟩) (fun _ R s => s.heap.get? l = some { cls := .type "tuple", dict := dct, data := .seq items n, slots := sl } ∧
      R (.ok (.ret (.ref (s.heap.push { cls := .type "tuple_iterator", data := .fields #[.ref l, .int 0 0] }).objs.size)))
        { s with heap := (s.heap.push { cls := .type "tuple_iterator", data := .fields #[.ref l, .int 0 0] }).push { cls := .type "enumerate", data := .fields #[.none, .bool false, .ref s.heap.objs.size, rawInt 0, .none, .none] } }) :=
  .of_wp fun prog w A R s h => by
    obtain ⟨hp, g, d, tk, os⟩ := s; obtain ⟨hl, h⟩ := h
    have hsub := sub_enumerate
    have hL : Heap.IsTuple (Shared.heap ⟨hp, g, d, tk, os⟩) l items := ⟨_, hl, rfl, n, rfl⟩
    wp_walk using AutoSeq1.wpAny_loadPart' hl
    refine wpAny_stack_any fun st => wpAny_pure ?_
    split
    · rename_i c _ _ _ _ _
      cases (c == Value.type "enumerate")
      · wp_walk using AutoSeq1.wpAny_loadPart' hl, wpAny_pyIter_tuple hL
        exact ⟨_, rfl, h⟩
      · wp_walk using AutoSeq1.wpAny_loadPart' hl, wpAny_pyIter_tuple hL
        exact ⟨_, rfl, h⟩
    · wp_walk using AutoSeq1.wpAny_loadPart' hl, wpAny_pyIter_tuple hL
      exact ⟨_, rfl, h⟩
theorem call_enumT {prog : Program} {w : World} {A : Around} {E : Value → Shared → Prop} {s : Shared} {l : Addr} {items : Array Value} {Q : Value → Shared → Prop} (hL : s.heap.IsTuple l items)
    (h : ∀ h', IsEnum h' (s.heap.objs.size + 1) s.heap.objs.size 0 .none → h'.IsTupleIter s.heap.objs.size l 0 → h'.objs.size = s.heap.objs.size + 2 →
      (∀ b o, s.heap.get? b = some o → h'.get? b = some o) → Q (.ref (s.heap.objs.size + 1)) { s with heap := h' }) :
    wpAny (model prog w) A (call (.type "enumerate") [.ref l]) Q E s := by
  obtain ⟨⟨c, dct, dt, sl⟩, hl, hc, n, hd⟩ := hL
  replace hc : c = .type "tuple" := hc
  replace hd : dt = .seq items n := hd
  subst hc hd
  refine callType_new F.called_enumerate (by decide) (F.typeCall_enumerate_1 _) (F.newCall_enumerate_1 _) (fun obj => F.args_object_init_2 obj _) F.entry_enumerate_new
    (meets_enumT l items n dct sl) ⟨hl, ?_⟩
  have hz : (s.heap.push { cls := .type "tuple_iterator", data := .fields #[.ref l, .int 0 0] }).objs.size = s.heap.objs.size + 1 := Heap.size_push ..
  show _ ∧ _
  rw [hz]
  have he : IsEnum ((s.heap.push { cls := .type "tuple_iterator", data := .fields #[.ref l, .int 0 0] }).push
      { cls := .type "enumerate", data := .fields #[.none, .bool false, .ref s.heap.objs.size, rawInt 0, .none, .none] }) (s.heap.objs.size + 1) s.heap.objs.size 0 .none := by
    have := Heap.get?_push_size (s.heap.push { cls := .type "tuple_iterator", data := .fields #[.ref l, .int 0 0] })
      (o := { cls := .type "enumerate", data := .fields #[.none, .bool false, .ref s.heap.objs.size, rawInt 0, .none, .none] }) rfl
    rw [hz] at this; exact this
  refine ⟨⟨_, he, rfl⟩, h _ he ⟨_, Heap.get?_push_of_some _ (Heap.get?_push_size _ rfl), rfl, rfl⟩ (by rw [Heap.size_push, hz]) fun b o x => Heap.get?_push_of_some _ (Heap.get?_push_of_some _ x)⟩
theorem enumT_end {prog : Program} {w : World} {A : Around} {E : Value → Shared → Prop} {s : Shared} {e it a : Addr} {c : Int} {i : Nat} {items : Array Value} {old : Value} {Q : Option Value → Shared → Prop} (hh : A.in1.handled = none)
    (he : IsEnum s.heap e it c old) (hit : s.heap.IsTupleIter it a i) (hp : s.heap.IsTuple a items) (hi : items[i]? = none)
    (hQ : ∀ h', Heap.ExtBut it s.heap h' → Q none { s with heap := h' }) : wpAny (model prog w) A (pyNext (.ref e)) Q E s := by
  have hT : s.TypeIs (.ref e) "enumerate" := ⟨_, he, rfl⟩
  unfold pyNext
  refine wpAny_bind (wpAny_attempt (wpAny_callSpecial?_slot (name := Str.ofString "__next__") hT F.slot_enumerate_next
    (wpAny_call_entry F.slot_enumerate_next hT F.entry_enumerate_next ?_ (F.args_enumerate_next_1 _))))
  show wpAny _ _ (field (.ref e) 2 >>= _) _ _ _
  refine wpAny_bind (wpAny_field he rfl (x := .ref it) rfl ?_)
  refine wpAny_bind (wpAny_nextOf_tuple_end hh hit hp hi fun h' x he' hx' => ?_)
  obtain ⟨o, ho, hc⟩ := hx'
  refine wpAny_bind (wpAny_isInstance (T := "StopIteration") (b := true) ⟨o, ho, hc⟩ isSubtype_stop ?_)
  exact wpAny_pure (hQ _ he')
def IteT (K : PySem.W.Frag) (a : Addr) : It :=
  ⟨fun i H => ∃ (xs : List V) (x : V), SqT K H a xs ∧ xs[i]? = some x, fun i H v H' => ∃ T x, v = .ref T ∧ H T = none ∧ H' = upd H T (.tup [.int (i : Nat), x]) ∧ ∀ xs, SqT K H a xs → xs[i]? = some x, fun i H => ∃ xs : List V, SqT K H a xs ∧ xs.length ≤ i⟩
theorem tup_ne {h : Heap} {it a b : Addr} {i : Nat} {items : Array Value} (x : h.IsTupleIter it a i) (y : h.IsTuple b items) : b ≠ it := fun z => by
  subst z
  obtain ⟨o, e, c, _⟩ := x
  obtain ⟨o', e', c', _⟩ := y
  rw [e] at e'; cases e'
  rw [c] at c'
  injection c' with z
  exact absurd z (by decide)
theorem turn_enumT {P : Program} {w : World} {K : PySem.W.Frag} {elts : List Expr} {kk : Nat} {tpos : Pos} (a e it : Addr) :
    Turn P w K (.Tuple elts kk tpos) (IteT K a) [e, it] e (fun i h => (∃ old, IsEnum h e it ((i : Nat) : Int) old) ∧ h.IsTupleIter it a i ∧ e ≠ it) where
  mem := by simp
  obj := fun i h st b hb => by
    obtain ⟨⟨old, he⟩, ⟨o, ho, hc, hd⟩, _⟩ := st
    have e' : b = e ∨ b = it := by simpa using hb
    rcases e' with z | z
    · rw [z]; exact ⟨_, he, fun v q => nomatch q⟩
    · rw [z]; exact ⟨o, ho, fun v q => by rw [hd] at q; cases q⟩
  keep := fun i h h' st k => let ⟨⟨old, he⟩, hi, hne⟩ := st; ⟨⟨old, k e (by simp) _ he⟩, hi.at fun o q => k it (by simp) o q, hne⟩
  item := by
    intro X hP hw hK hc i pins s σ H E I hf st hg
    subst hP hw hK
    obtain ⟨⟨old, he⟩, hit, hne⟩ := st
    obtain ⟨xs, x, hq, hx⟩ := hg
    obtain ⟨its, rv, p, hz⟩ := I.tuple hq
    obtain ⟨u, hu, ru⟩ := rv.get hx
    have hel : e < s.heap.objs.size := Heap.lt_size he
    have hil : it < s.heap.objs.size := by obtain ⟨_, q, _⟩ := hit; exact Heap.lt_size q
    have p' : s.heap.IsTuple a its.toArray := p
    have hai := tup_ne hit p'
    have hae : a ≠ e := fun z => by
      subst z
      obtain ⟨o', e', c', _⟩ := p'
      rw [he] at e'; cases e'
      injection c' with z
      exact absurd z (by decide)
    have hlt : i < its.toArray.size := by
      have := (List.getElem?_eq_some_iff.mp hu).1
      simpa using this
    refine wpAny_pyNext_enum_itemD (Draws.tuple (prog := X.prog) (w := X.w) (A := X.A.in1) (I.ok.hd hc) it a hai its.toArray) he ⟨hit, p'⟩ hlt hne (by simp [hne, hae.symm]) fun u' h' tk hu' ho hst' hT hsz hk => ?_
    have huu : u' = u := by
      have e1 : its.toArray[i]? = some u := by simpa using hu
      rw [e1] at hu'
      exact (Option.some.inj hu').symm
    subst huu
    obtain ⟨hit', hp'⟩ := hst'
    refine ⟨_, rfl, wpAny_letOwnedTupleGo_enum (s := { s with heap := h', toks := tk + 1 }) ho fun h'' he' sb => ?_⟩
    have hT2 : h''.get? s.heap.objs.size = some { cls := .type "tuple", data := .seq #[.int i tk, u'] } := (sb.2 _ (Nat.ne_of_gt hel)).trans hT
    have new : ObjOk X.prog X.w (upd H s.heap.objs.size (.tup [.int (i : Nat), x])) h'' s.heap.objs.size (.tup [.int (i : Nat), x]) :=
      ⟨by show 2 ≤ sizeLine; decide, [.int i tk, u'], .cons ⟨_, rfl⟩ (.cons ru .nil), ⟨_, hT2, rfl, _, rfl⟩⟩
    have I1 : Inv X pins σ (upd H s.heap.objs.size (.tup [.int (i : Nat), x])) { s with heap := h'', toks := tk + 1 } :=
      I.turnedNew (ch := [e, it]) (fun b ob hb q => (sb.2 b (fun z => hb (by simp [z]))).trans (hk b ob (fun z => hb (by simp [z])) (fun z => hb (by simp [z])) q)) hf (Nat.le_refl _) new
    refine ⟨.ref s.heap.objs.size, _, I1, rfl, ⟨_, x, rfl, I.hok.fresh (Nat.le_refl _), rfl, fun ys hy => by rw [I.tuple_inj hy hq]; exact hx⟩, ⟨⟨u', ?_⟩, hit'.at fun o q => (sb.2 it (Ne.symm hne)).trans q, hne⟩, fun b hb => ?_⟩
    · have e1 : ((i + 1 : Nat) : Int) = (i : Int) + 1 := by omega
      rw [e1]; exact he'
    · have hb' : b < s.heap.objs.size := by
        have e' : b = e ∨ b = it := by simpa using hb
        rcases e' with z | z
        · rw [z]; exact hel
        · rw [z]; exact hil
      rw [upd_ne (Nat.ne_of_lt hb')]
      exact (hf b hb).1
  done := by
    intro X hP hw hK hc i pins s σ H E I hf st hg
    subst hP hw hK
    obtain ⟨⟨old, he⟩, hit, hne⟩ := st
    obtain ⟨xs, hq, hx⟩ := hg
    obtain ⟨its, rv, p, hz⟩ := I.tuple hq
    obtain ⟨f0, f1, f2, f3, f4, f5⟩ := hf it (by simp)
    have hl := rv.length
    have p' : s.heap.IsTuple a its.toArray := p
    have hai := tup_ne hit p'
    have hn : its.toArray[i]? = none := by
      have : its[i]? = none := List.getElem?_eq_none (by omega)
      simpa using this
    exact enumT_end (I.ok.hd hc) he hit p' hn fun h' eb => ⟨rfl, I.turned (t' := s.toks) (fun b o hb q => eb b o hb q) f0 f1 f3 f4 f5⟩
  self := fun A i s Q E st h => let ⟨⟨_, he⟩, _⟩ := st; wpAny_pyIter_enum he h
/-- enumerate of a list or a tuple -/
def iEnumB (K : PySem.W.Frag) (ta : TA) : TI := fun σ H R => ta σ H fun vs H1 => ∃ a xs, vs = [.ref a] ∧ ((SqL K H1 a xs ∧ R (Ite K a) H1) ∨ (SqT K H1 a xs ∧ R (IteT K a) H1))
theorem pi_enumB {X : Cx} {e : Expr} {ta : TA} {p pos tpos : Pos} {elts : List Expr} {kk : Nat} (hg : Gl X "enumerate") (hm : X.mg "enumerate" = none) (ha : PA X [e] ta) (hs : starEach [e] X.env = [(false, eval e X.env)] := by rfl) :
    PI X (.Tuple elts kk tpos) (.Call (.Name "enumerate" p) [e] [] pos) (iEnumB X.K ta) := by
  refine ⟨fun pins s σ H R I h => ?_⟩
  refine Call_ (ld_blt I hg hm boot_enumerate (PyProof.Rows.callWith_type1 (thn (ha.run pos pins s σ H _ I h) fun us s1 ⟨vs, H1, I1, r1, q1⟩ => ?_) hs rfl))
  obtain ⟨a, xs, ex, q1⟩ := q1
  subst ex
  cases r1 with
  | cons r rr =>
    cases rr
    cases r
    have fin : ∀ b ∈ [s1.heap.objs.size + 1, s1.heap.objs.size], FpOk X pins H1 b := fun b hb => by
      have e' : b = s1.heap.objs.size + 1 ∨ b = s1.heap.objs.size := by simpa using hb
      have hle : s1.heap.objs.size ≤ b := by
        rcases e' with z | z
        · rw [z]; exact Nat.le_add_right _ _
        · rw [z]; exact Nat.le_refl _
      exact I1.fpOk hle (I1.hok.fresh hle)
    rcases q1 with ⟨hq, q⟩ | ⟨hq, q⟩
    · obtain ⟨its, rv, p', hz⟩ := I1.list hq
      refine call_enumerate_list p'.isList fun h' he hit hsz hk => wpAny_pyIter_enum he ?_
      have I2 : Inv X pins σ H1 { s1 with heap := h' } := I1.kept (t' := s1.toks) hk
      exact ⟨s1.heap.objs.size + 1, [s1.heap.objs.size + 1, s1.heap.objs.size], _, _, H1, rfl, I2, turn_enum a (s1.heap.objs.size + 1) s1.heap.objs.size, ⟨⟨.none, he⟩, hit, Nat.succ_ne_self _⟩, fin, q⟩
    · obtain ⟨its, rv, p', hz⟩ := I1.tuple hq
      refine call_enumT (items := its.toArray) p' fun h' he hit hsz hk => wpAny_pyIter_enum he ?_
      have I2 : Inv X pins σ H1 { s1 with heap := h' } := I1.kept (t' := s1.toks) hk
      exact ⟨s1.heap.objs.size + 1, [s1.heap.objs.size + 1, s1.heap.objs.size], _, _, H1, rfl, I2, turn_enumT a (s1.heap.objs.size + 1) s1.heap.objs.size, ⟨⟨.none, he⟩, hit, Nat.succ_ne_self _⟩, fin, q⟩
section
variable {X : Cx} {Wx : WX} {k : Nat}
def iEB (wa : WA) : WI := fun xq ρ M Q => wa xq ρ M fun xs M1 => match xs with
  | [x] => (match x with
    | .d (.tuple ds) => Q (enW 0 ds) (fun _ => True) M1
    | x => (match (seeL M1 x).bind allD with
      | some ds => Q (enW 0 ds) (stL x (ds.map W.d)) M1
      | none => False))
  | _ => False
theorem jok_enumT {K : PySem.W.Frag} {G : Hp} {ds : List PyData} {p : Addr} (r : Dp K G (.ref p) (.tuple ds)) : JOk K G (IteT K p) (enW 0 ds) (fun _ => True) := fun i G' M' H' e s st => by
  obtain ⟨p', vs, ep, sq, _, dd⟩ := seeT_ok (x := .d (.tuple ds)) (ds := ds) s (e.dp r) rfl
  have ep' : p = p' := V.ref.inj ep
  subst ep'
  have pr := dps_paired dd
  have hl := paired_len pr
  rw [List.length_map] at hl
  rw [enW_len]
  refine ⟨fun hi => ⟨?_, fun x2 H2 hy => ?_⟩, fun hi => ⟨vs, sq, by rw [← hl]; exact hi⟩⟩
  · have hi' : i < vs.length := by rw [← hl]; exact hi
    exact ⟨vs, vs[i], sq, List.getElem?_eq_getElem hi'⟩
  · obtain ⟨T, y, rfl, hT, rfl, hy⟩ := hy
    have e1 := hy vs sq
    have ed : (ds.map W.d)[i]? = some (.d ds[i]) := by rw [List.getElem?_map, List.getElem?_eq_getElem hi]; rfl
    obtain ⟨y', e2, rr⟩ := paired_at pr ed
    rw [e1] at e2
    cases e2
    refine ⟨_, .d (.tuple [.int ((0 + i : Nat)), ds[i]]), Stp.dat s hT, ?_, ?_⟩
    · rw [enW_at, List.getElem?_eq_getElem hi]; rfl
    · rw [Nat.zero_add]
      exact .tup (.inl (.inl upd_same)) (.cons (.int _) (.cons ((Ex.new (s.free hT).2).dp rr) .nil))
theorem di_enumB {e : Expr} {wa : WA} {p pos tpos : Pos} {elts : List Expr} {kk : Nat} (hm : X.mg "enumerate" = none) (ha : DA X Wx [e] wa) (hg : Gl X "enumerate" := by rfl) (hs : starEach [e] X.env = [(false, eval e X.env)] := by rfl) :
    DI X Wx (.Tuple elts kk tpos) (.Call (.Name "enumerate" p) [e] [] pos) (iEB wa) := by
  obtain ⟨t, p, s⟩ := ha
  refine ⟨_, pi_enumB hg hm p hs, fun xq ρ M σ G H Q R rl h kk => ?_⟩
  refine s xq ρ M σ G H _ _ rl h fun vs H1 G1 M1 xs s1 r1 q1 => ?_
  match xs, q1 with
  | [x], q1 =>
    obtain ⟨v, rfl, rx⟩ := paired1 r1
    have onl : (match (seeL M1 x).bind allD with | some ds => Q (enW 0 ds) (stL x (ds.map W.d)) M1 | none => False) → ∃ a xs, [v] = [V.ref a] ∧ ((SqL X.K H1 a xs ∧ R (Ite X.K a) H1) ∨ (SqT X.K H1 a xs ∧ R (IteT X.K a) H1)) := fun q1' => by
      cases e1 : seeL M1 x with
      | none => rw [e1] at q1'; exact q1'.elim
      | some ws =>
        rw [e1] at q1'
        have q2 : (match allD ws with | some ds => Q (enW 0 ds) (stL x (ds.map W.d)) M1 | none => False) := q1'
        cases e2 : allD ws with
        | none => rw [e2] at q2; exact q2.elim
        | some ds =>
          rw [e2] at q2
          rw [allD_eq e2] at e1
          obtain ⟨a, vs, rfl, sq, pr⟩ := seeL_ok s1.sim rx e1
          exact ⟨a, vs, rfl, .inl ⟨sq, kk _ _ _ _ _ _ s1 (jok_enum (H := H1) (v := .ref a) rx e1) q2⟩⟩
    cases x with
    | r z => exact onl q1
    | d d =>
      cases d <;> try (exact onl q1)
      rename_i ds
      obtain ⟨a, vs, rfl, sq, _, dd⟩ := seeT_ok (ds := ds) s1.sim rx rfl
      exact ⟨a, vs, rfl, .inr ⟨sq, kk _ _ _ _ _ _ s1 (jok_enumT rx) q1⟩⟩
/-! ### an owned list becomes data ahead of a statement -/
def wFz (i : Nat) (w : WS) : WS := fun D ρ M => match ρ[i]? with
  | some (some x) => frz x M fun y M1 => w D (ρ.set i (some y)) M1
  | _ => False
theorem set_self {α : Type} : ∀ (xs : List α) (i : Nat) (x : α), xs[i]? = some x → xs.set i x = xs
  | [], _, _, h => by simp at h
  | a :: r, 0, x, h => by
    cases (Option.some.inj h : a = x); rfl
  | a :: r, i + 1, x, h => by
    show a :: r.set i x = a :: r
    rw [set_self r i x h]
theorem ds_fz (i : Nat) {s : Stmt} {w : WS} (h : DS X Wx s w) : DS X Wx s (wFz i w) := by
  obtain ⟨t, p, sd⟩ := h
  refine ⟨t, p, fun D ρ M σ G H E rl hw o => ?_⟩
  unfold wFz at hw
  cases e : ρ[i]? with
  | none => rw [e] at hw; exact hw.elim
  | some ox =>
    cases ox with
    | none => rw [e] at hw; exact hw.elim
    | some x =>
      rw [e] at hw
      obtain ⟨v, hv, rv⟩ := rl.env.2 i x e
      have key := frz_ok (R := fun v' H' => σ[i]? = some (some v') → t E σ H') rl.sim rv hw fun v' H' G' M' y s1 ry q hv' => by
        have en : RelEnv X.K G' (ρ.set i (some y)) (σ.set i (some v')) := (rl.env.ext s1.ex).set ry i
        rw [set_self σ i _ hv'] at en
        exact sd D _ M' σ G' H' E ⟨en, s1.sim, (rl.next s1).cpt⟩ q (o.next s1)
      exact key hv
end
end DL
namespace DL
open PySem PySem.Spec PyProof.Rows L2
/-! ### sorted -/
section
variable {prog : Program} {w : World} {A : Around} {E : Value → Shared → Prop} {s : Shared}
theorem collectA {l : Addr} {vs : List Value} {Q : List Value → Shared → Prop} (hl : s.heap.IsList l vs.toArray ∨ s.heap.IsTuple l vs.toArray) (hz : vs.length ≤ sizeLine)
    (h : Q vs { s with heap := (s.heap.push (seqObj "list" #[] 0)).update s.heap.objs.size (Obj.mapSeq (· ++ vs.toArray)) }) : wpAny (model prog w) A (collect (.ref l)) Q E s := by
  rcases hl with hl | hl
  · exact collect_list hl h hz
  obtain ⟨o, ho, hc, n, hd⟩ := id hl
  unfold collect
  have k1 : ∀ {z : Obj}, (s.heap.push z).get? l = some o := Heap.get?_push_of_some _ ho
  refine wpAny_bind (wpAny_runValue (codeAny_builtin entry_proto_collect' ?_)); show wpAny _ _ (do again (.builtin "list.__iadd__" ⟨[← newList [], .ref l], []⟩)) _ _ s
  refine wpAny_bind (wpAny_newList (wpAny_pure ⟨Code.quiet_builtin _ (by decide +kernel), codeAny_builtin entry_list_iadd' ?_⟩)); show wpAny _ _ (Builtin.List.listExtendWith (.ref s.heap.objs.size) (.ref l) (.ref s.heap.objs.size)) _ _ { s with heap := s.heap.push (seqObj "list" #[] 0) }
  unfold Builtin.List.listExtendWith
  refine wpAny_bind (wpAny_typeOf (T := "tuple") ⟨o, k1, hc⟩ ?_)
  have h1 : (Value.type "tuple" == Value.type "list") = false := by decide +kernel
  have h2 : (Value.type "tuple" == Value.type "tuple") = true := by decide +kernel
  rw [if_pos (by rw [h1, h2]; simp)]
  refine wpAny_bind (listItems_at k1 hd (wpAny_bind (listItems_at (xs := #[]) (n := 0) (Heap.get?_push_size _ rfl) rfl ?_)))
  rw [if_neg (by simp)]
  refine wpAny_bind (listUpdate_at (xs := #[]) (n := 0) (Heap.get?_push_size _ rfl) rfl (wpAny_pure ?_) (Nat.zero_le _) (by show (#[] ++ vs.toArray).size ≤ sizeLine + 1; simp only [Array.size_append, List.size_toArray, List.length_nil]; omega))
  show wpAny (model prog w) A (do let o ← load s.heap.objs.size; match o.data with | .seq xs _ => pure xs.toList | _ => unsupported "internal:collect") Q E { s with heap := (s.heap.push (seqObj "list" #[] 0)).update s.heap.objs.size (Obj.mapSeq (· ++ vs.toArray)) }
  refine wpAny_bind (wpAny_load (get?_update_seq (Heap.get?_push_size _ rfl) _) ?_); show wpAny _ _ (pure ((#[] : Array Value) ++ vs.toArray).toList) Q E _
  rw [show ((#[] : Array Value) ++ vs.toArray).toList = vs by simp]; exact wpAny_pure h
theorem sortedA {l : Addr} {vs : List Value} {kw : List (Str × Value)} {Q : Value → Shared → Prop} (hl : s.heap.IsList l vs.toArray ∨ s.heap.IsTuple l vs.toArray) (hL : vs.length ≤ sizeLine) (h1 : argsOk "sorted" ⟨[.ref l], kw⟩) (h2 : ∀ x, argsOk "list.sort" ⟨[.ref x], kw⟩)
    (body : ∀ E' : Value → Shared → Prop, wpAny (model prog w) A.in1.in1 (Builtin.«list.sort» ⟨[.ref (s.heap.objs.size + 1)], kw⟩) (fun f s' => f = .done (.ret .none) ∧ Q (.ref (s.heap.objs.size + 1)) s') E' { s with heap := PySem.W.copyHeap s.heap vs }) :
    wpAny (model prog w) A (call (.builtin "sorted") [.ref l] kw) Q E s := by
  refine PyProof.Rows.call_function_entry_kw kind_sorted plain_sorted entry_sorted h1 ?_
  unfold Builtin.«sorted»
  refine wpAny_bind (m := checkCount "sorted" 1 1 _) (wpAny_pure (wpAny_bind (collectA hl hL (wpAny_bind (wpAny_newList ?_ hL)))))
  have hsz : ((s.heap.push (seqObj "list" #[] 0)).update s.heap.objs.size (Obj.mapSeq (· ++ vs.toArray))).objs.size = s.heap.objs.size + 1 := by rw [Heap.size_update]; exact Heap.size_push _ _
  show wpAny _ _ _ _ _ { s with heap := PySem.W.copyHeap s.heap vs }; rw [hsz]
  refine wpAny_bind (wpAny_holding (wpAny_call_entry_kw slot_list_sort ⟨_, PySem.W.copyHeap_at s.heap vs, rfl⟩ entry_list_sort ?body (h2 _)))
  case body =>
    refine wpAny_mono (body _) (fun f s' hf => ?_) fun _ _ e => e
    obtain ⟨rfl, hq⟩ := hf; exact ⟨_, rfl, wpAny_pure ⟨_, rfl, hq⟩⟩
end
theorem vals_each {F : PyData → V → Prop} : ∀ {xs : List V} {its : List Value} {ds : List PyData}, Vals xs its → Paired F ds xs → PySem.W.EachIs (fun v d => ∃ x, RelV x v ∧ F d x) its ds
  | _, _, _, .nil, .nil => .nil
  | _, _, _, .cons r t, .cons f g => .cons ⟨_, r, f⟩ (vals_each t g)
theorem each_vals {F : PyData → V → Prop} : ∀ {its : List Value} {ds : List PyData}, PySem.W.EachIs (fun v d => ∃ x, RelV x v ∧ F d x) its ds → ∃ ys, Vals ys its ∧ Paired F ds ys
  | _, _, .nil => ⟨[], .nil, .nil⟩
  | _, _, .cons ⟨x, r, f⟩ t => let ⟨ys, a, b⟩ := each_vals t; ⟨x :: ys, .cons r a, .cons f b⟩
theorem dp_paired {K : PySem.W.Frag} {H : Hp} : ∀ {xs : List V} {ds : List PyData}, DpAll K H xs ds → Paired (fun d v => Dp K H v d) ds xs
  | _, _, .nil => .nil
  | _, _, .cons h t => .cons h (dp_paired t)
abbrev sortD (ds : List PyData) : List PyData := ds.mergeSort (PySem.W.dataLe false id)
/-- data that can be sorted -/
structure SrtOk (ds : List PyData) : Prop where
  al : PySem.W.AllAlike ds
  so : PySem.W.Sortable ds
  dp : ∀ d ∈ ds, d.depth ≤ 60
def rSortD (K : PySem.W.Frag) : List V → Hp → VK → Prop := fun vs H Q => ∃ (a : Addr) (xs : List V) (ds : List PyData) (F : PyData → V → Prop), vs = [V.ref a] ∧ (SqL K H a xs ∨ SqT K H a xs) ∧ DpAll K H xs ds ∧ Paired F ds xs ∧ SrtOk ds ∧
  ∀ ys p, Paired F (sortD ds) ys → H p = none → Q (.ref p) (upd H p (.lst ys))
section
variable {X : Cx} {Wx : WX} {k : Nat}
theorem seq_any {pins : List (Addr × Obj)} {s : Shared} {σ : L2.St} {H : Hp} {a : Addr} {xs : List V} (I : Inv X pins σ H s) (h : SqL X.K H a xs ∨ SqT X.K H a xs) : ∃ its : List Value, Vals xs its ∧ (s.heap.IsList a its.toArray ∨ s.heap.IsTuple a its.toArray) ∧ xs.length ≤ sizeLine := by
  rcases h with h | h
  · obtain ⟨its, r, p, z⟩ := I.list h
    exact ⟨its, r, .inl p.isList, z⟩
  · obtain ⟨its, r, p, z⟩ := I.tuple h
    exact ⟨its, r, .inr p, z⟩
theorem cr_sorted (c : Cq X Wx k) : CallR X (.builtin "sorted") (rSortD X.K) := by
  intro pins s σ H vs us Q I r h
  obtain ⟨a, xs, ds, F, rfl, hs, hd, hF, ⟨hal, hk, hdp⟩, q⟩ := h
  obtain ⟨its, rv, hl, hz⟩ := seq_any I hs
  obtain ⟨u, rfl, ru⟩ := vals1 r
  obtain rfl : u = Value.ref a := ru
  have hu := c.rm.room.un
  have e := vals_each rv hF
  have er : PySem.W.EachIs (fun v d => ∃ as, Reads s.heap v (id d) as) its ds := (vals_each rv (dp_paired hd)).mono fun v d ⟨x, rx, hx⟩ => Dp.reads I d x v hx rx
  have hzi : its.length ≤ sizeLine := by rw [← rv.length]; exact hz
  have er' : PySem.W.EachIs (fun v d => ∃ as, Reads (PySem.W.sortingHeap (PySem.W.copyHeap s.heap its) (s.heap.objs.size + 1) its) v d as) its ds := er.mono fun _ _ ⟨as, z⟩ => ⟨as, PyProof.Rows.Reads.keeps (fun _ _ => PySem.W.sorting_copy_old) z⟩
  have S : PySem.W.SortsAt X.prog X.w X.A.in1.in1 { s with heap := PySem.W.sortingHeap (PySem.W.copyHeap s.heap its) (s.heap.objs.size + 1) its } _ its :=
    PySem.W.SortsAt.data (s := { s with heap := PySem.W.sortingHeap (PySem.W.copyHeap s.heap its) (s.heap.objs.size + 1) its }) er' hal hk (fun d hd' => by have := hdp d hd'; show X.A.units + 1 + 1 + d.depth < cLine; omega)
  refine sortedA hl hzi (args_sorted1 _) (fun _ => args_list_sort _) fun _ => PySem.W.list_sort_vals (s := { s with heap := PySem.W.copyHeap s.heap its }) (PySem.W.copyHeap_at s.heap its) S hzi ⟨rfl, ?_⟩
  have eo := PySem.W.sortVals_data (h' := PySem.W.sortingHeap (PySem.W.copyHeap s.heap its) (s.heap.objs.size + 1) its) (enc := id) false e er' (by rw [List.map_id]; exact hal)
  rw [List.map_id] at eo
  obtain ⟨ys, hy1, hy2⟩ := each_vals eo
  obtain ⟨n, hn⟩ := sortedAll_at s.heap its (List.toArray (PySem.W.sortVals (PySem.W.dataKind (PySem.W.sortingHeap (PySem.W.copyHeap s.heap its) (s.heap.objs.size + 1) its) ds) false its its))
  have hlen : ys.length ≤ sizeLine := by
    have h1 := hy1.length
    rw [PySem.W.sortVals_length false rfl] at h1
    rw [h1]; exact hzi
  exact ⟨.ref _, upd H (s.heap.objs.size + 1) (.lst ys), I.laid (t' := s.toks) (fun b o e => sortedAll_old e) (Nat.le_succ _) ⟨hlen, _, n, hy1, hn⟩, rfl, q ys _ hy2 (I.hok.fresh (Nat.le_succ _))⟩
end

/-! ### sorted, with a def of the module as its key -/
section
variable {X : Cx} {Wx : WX} {k j : Nat}
theorem turn_key {f : Addr} {fd : FuncData} {ps : List Str} {dsp : DSp} {pins : List (Addr × Obj)} {σ : L2.St} {H G : Hp} {M : MM} {s : Shared} {x : V} {v : Value} {d y : PyData} (c : Cq X Wx k) (F : FnD X.prog X.w X.K X.mg X.base j f fd ps (lift X.K dsp)) (hj : j + 2 ≤ k) (hb : Binds X.K fd ps [])
    (I : Inv X pins σ H s) (sim : Sim X.K G M H) (rx : RelW X.K G (.d d) x) (r : RelV x v) (h : dsp [.d d] M (fun z M' => z = .d y ∧ M' = M) (fun _ _ _ => False)) :
    wpAny (model X.prog X.w) X.A.in1.in1 (call (.ref f) [v]) (fun u s' => ∃ z H' G', Inv X pins σ H' s' ∧ RelV z u ∧ Stp X.K G M H G' M H' ∧ Dp X.K G' z y) (fun _ _ => False) s := by
  have hsp : lift X.K dsp [x] H (fun z H' => ∃ G', Stp X.K G M H G' M H' ∧ Dp X.K G' z y) (fun _ _ _ => False) :=
    ⟨[.d d], M, G, _, _, sim, .cons rx .nil, h, fun z H' G' M' w st rw q => by
      obtain ⟨rfl, rfl⟩ := q
      exact ⟨G', st, rw⟩, fun _ _ _ _ _ _ e => e⟩
  have hl : [v].length = ps.length := F.len _ _ _ _ hsp
  have b := hb s [v] I.kIn (by rw [List.append_nil]; exact hl)
  rw [List.append_nil] at b
  have hr : RoomG j X.A.in1.in1 := ⟨((c.rm.room.mono (show (j + 1) + 1 ≤ k by omega)).in1).in1, c.rm.gd⟩
  refine wpAny_call (codeAny_mono (F.run X.A.in1.in1 X.stack s H ⟨[v], []⟩ [v] [x] _ _ hr I.env0.in1.in1 b (.cons r .nil) hsp) fun res s' hq => ?_)
  match res, hq with
  | .error er, hq =>
    obtain ⟨_, _, _, _, _, _, _, _, _, _, _, _, e⟩ := hq
    exact e.elim
  | .ok (.ret u), hq =>
    obtain ⟨z, H', I', rz, G', st, dz⟩ := I.after hq
    exact ⟨z, H', G', I', rz, st, dz⟩
  | .ok .next, hq => exact False.elim hq
  | .ok .brk, hq => exact False.elim hq
  | .ok .cont, hq => exact False.elim hq

/-- a list that was made on the way is ours now; another one is let go -/
theorem adopt {pins : List (Addr × Obj)} {σ : L2.St} {H : Hp} {s : Shared} {a kS : Addr} {oa ok : Obj} {ys : List V} {out : List Value} {h' : Heap} {tk c : Nat} (I : Inv X ((a, oa) :: (kS, ok) :: pins) σ H s) (ha : X.s_0.heap.objs.size ≤ a) (hk : X.s_0.heap.objs.size ≤ kS)
    (pa : ∀ p ∈ X.pn ++ pins, p.1 ≠ a ∧ p.1 ≠ kS) (keep : ∀ b o, b ≠ a → b ≠ kS → s.heap.get? b = some o → h'.get? b = some o) (at' : h'.get? a = some (seqObj "list" out.toArray c)) (hv : Vals ys out) (hz : ys.length ≤ sizeLine) :
    Inv X pins σ (upd H a (.lst ys)) { s with heap := h', toks := tk } := by
  obtain ⟨ea, na, la, fa, da⟩ := I.pin (a, oa) (List.mem_append_right _ List.mem_cons_self)
  obtain ⟨ek, nk, lk, fk, dk⟩ := I.pin (kS, ok) (List.mem_append_right _ (List.mem_cons_of_mem _ List.mem_cons_self))
  have I0 : Inv X pins σ H s := I.pins_of fun p hp => I.pin p (List.mem_append_right _ (List.mem_cons_of_mem _ (List.mem_cons_of_mem _ hp)))
  have cn : ∀ x cc, X.env.cells.lookup x = some cc → cc ≠ a ∧ cc ≠ kS := fun x cc e => by
    obtain ⟨v, o, ho, hd⟩ := I.cell x cc e
    refine ⟨fun z => ?_, fun z => ?_⟩
    · subst z
      rw [ea] at ho; cases ho
      exact da v hd
    · subst z
      rw [ek] at ho; cases ho
      exact dk v hd
  have ne : ∀ b u, H b = some u → b ≠ a ∧ b ≠ kS := fun b u e => ⟨fun z => (by rw [z, na] at e; cases e), fun z => (by rw [z, nk] at e; cases e)⟩
  have ch : ∀ b : Addr, b ∉ [a, kS] → b ≠ a ∧ b ≠ kS := fun b hb => ⟨fun z => hb (by simp [z]), fun z => hb (by simp [z])⟩
  refine I0.step (g' := s.gens) (d' := s.drawn) (ch := [a, kS]) (fun b hb => ?_) (fun b o _ _ hc e _ => keep b o (ch b hc).1 (ch b hc).2 e) (fun b o _ _ hc e _ => ⟨o.slots, keep b o (ch b hc).1 (ch b hc).2 e⟩) (fun b o hc _ n => by rw [upd_ne (ch b hc).1]; exact n)
    (fun b o hc e => ⟨o, keep b o (ch b hc).1 (ch b hc).2 e⟩) (fun b xs e => by rw [upd_ne (ne b _ e).1]; exact e) (fun b o u e => by rw [upd_ne (ne b _ e).1]; exact e) (fun b ps e => ⟨#[], by rw [upd_ne (ne b _ e).1, e]; simp⟩) (fun m hm => ?_) (fun b u e => ?_) I.bare
  · simp only [List.mem_cons, List.not_mem_nil, or_false] at hb
    rcases hb with rfl | rfl
    · exact ⟨.inr ha, la, fun x cc e => (cn x cc e).1, fun p hp => (pa p hp).1⟩
    · exact ⟨.inr hk, lk, fun x cc e => (cn x cc e).2, fun p hp => (pa p hp).2⟩
  · obtain ⟨o, es, ep, ho, r⟩ := hm
    exact ⟨o, es, ep, keep _ o (Ne.symm la) (Ne.symm lk) ho, r⟩
  · by_cases hb : b = a
    · subst hb
      rw [upd_same] at e; cases e
      exact ⟨hz, out, c, hv, at'⟩
    · rw [upd_ne hb] at e
      refine (I.hok b u e).stay (fun cc v hc q => ?_) (fun cc q => by rw [upd_ne (ne cc _ q).1]; exact q) fun cc xs q => by rw [upd_ne (ne cc _ q).1]; exact q
      have n : cc ≠ a ∧ cc ≠ kS := by
        rcases hc with z | z
        · rw [z]; exact ne b u e
        · exact ne cc _ z
      exact keep cc v n.1 n.2 q

theorem vals_snoc {v : V} {u : Value} (r : RelV v u) : ∀ {vs : List V} {us : List Value}, Vals vs us → Vals (vs ++ [v]) (us ++ [u])
  | _, _, .nil => .cons r .nil
  | _, _, .cons q t => .cons q (vals_snoc r t)
theorem paired_unmap {K : PySem.W.Frag} {G : Hp} : ∀ {ds : List PyData} {ys : List V}, Paired (fun d v => RelW K G (.d d) v) ds ys → Paired (RelW K G) (ds.map W.d) ys
  | _, _, .nil => .nil
  | _, _, .cons f t => .cons f (paired_unmap t)
theorem paired_tomap {K : PySem.W.Frag} {G : Hp} : ∀ {ds : List PyData} {ys : List V}, Paired (RelW K G) (ds.map W.d) ys → Paired (fun d v => RelW K G (.d d) v) ds ys
  | [], _, .nil => .nil
  | _ :: _, _, .cons f t => .cons f (paired_tomap t)
theorem vals_at : ∀ {vs : List V} {us : List Value} {i : Nat} {u : Value}, Vals vs us → us[i]? = some u → ∃ v, vs[i]? = some v ∧ RelV v u
  | _, _, i, u, .nil, h => by simp at h
  | _, _, 0, u, .cons r _, h => by
    simp at h
    subst h
    exact ⟨_, rfl, r⟩
  | _, _, i + 1, u, .cons _ t, h => by
    obtain ⟨v, e, r⟩ := vals_at (i := i) t (by simpa using h)
    exact ⟨v, by simpa using e, r⟩
theorem keys_read {pins : List (Addr × Obj)} {σ : L2.St} {H : Hp} {s : Shared} (I : Inv X pins σ H s) : ∀ {xs : List V} {us : List Value} {ds : List PyData}, Vals xs us → Paired (fun d v => Dp X.K H v d) ds xs → PySem.W.EachIs (fun v d => ∃ as, Reads s.heap v d as) us ds
  | _, _, _, .nil, .nil => .nil
  | _, _, _, .cons r t, .cons f g => .cons (Dp.reads I _ _ _ f r) (keys_read I t g)
def rSortK (K : PySem.W.Frag) (f : Addr) (dsp : DSp) (key : PyData → PyData) : List V → List V → Hp → VK → Prop := fun vs zs H Q => ∃ (a : Addr) (xs : List V) (ds : List PyData) (G : Hp) (M : MM), vs = [V.ref a] ∧ zs = [V.ref f] ∧ (SqL K H a xs ∨ SqT K H a xs) ∧ Sim K G M H ∧ Paired (RelW K G) (ds.map W.d) xs ∧
  SrtOk (ds.map key) ∧ (∀ d ∈ ds, dsp [.d d] M (fun z M' => z = .d (key d) ∧ M' = M) (fun _ _ _ => False)) ∧
  ∀ ys p H' G', Stp K G M H G' M H' → Paired (RelW K G') ((ds.mergeSort (PySem.W.dataLe false key)).map W.d) ys → H' p = none → M p = none → G' p = none → Q (.ref p) (upd H' p (.lst ys))
theorem cr_sortK {f : Addr} {fd : FuncData} {ps : List Str} {dsp : DSp} {key : PyData → PyData} (c : Cq X Wx k) (F : FnD X.prog X.w X.K X.mg X.base j f fd ps (lift X.K dsp)) (hj : j + 2 ≤ k) (hb : Binds X.K fd ps []) : CallRK X (.builtin "sorted") [Str.ofString "key"] (rSortK X.K f dsp key) := by
  intro pins s σ H vs zs us ws Q I r rz h
  obtain ⟨l, xs, ds, G, M, rfl, rfl, hs, sim, hR, ⟨hal, hk, hdp⟩, hsp, q⟩ := h
  obtain ⟨its, rv, hl, hz⟩ := seq_any I hs
  obtain ⟨u, rfl, ru⟩ := vals1 r
  obtain ⟨u2, rfl, ru2⟩ := vals1 rz
  obtain rfl : u = Value.ref l := ru
  obtain rfl : u2 = Value.ref f := ru2
  have hu := c.rm.room.un
  have hzi : its.length ≤ sizeLine := by rw [← rv.length]; exact hz
  have hlen : ds.length = its.length := by
    have e1 := paired_len hR
    rw [List.length_map] at e1
    rw [e1, rv.length]
  show wpAny _ _ (call (.builtin "sorted") [.ref l] [(Str.ofString "key", .ref f)]) _ _ s
  refine sortedA hl hzi (ksk_s1 _ _) (fun _ => ksk_l1 _ _) fun E' => ?_
  rw [ksk_t1]
  -- the heap ahead of the keys
  have I1 : Inv X pins σ H { s with heap := PySem.W.copyHeap s.heap its } := I.kept fun b o e => PySem.W.copyHeap_old e
  generalize hD : s.heap.objs.size + 1 = D
  have oD : (PySem.W.copyHeap s.heap its).get? D = some (seqObj "list" its.toArray 0) := by rw [← hD]; exact PySem.W.copyHeap_at s.heap its
  generalize PySem.W.copyHeap s.heap its = g0 at I1 oD
  have lD : D < g0.objs.size := Heap.lt_size oD
  unfold ksk_tree
  refine wpAny_bind (listItems_at oD rfl (wpAny_bind (listUpdate_at oD rfl ?_ (by rw [List.size_toArray]; exact hzi) (Nat.zero_le _))))
  obtain ⟨e1, o1⟩ : ∃ e1, (g0.update D (Obj.mapSeq fun _ => (#[] : Array Value))).get? D = some (seqObj "list" #[] e1) := ⟨_, get?_update_seq oD fun _ => #[]⟩
  have n1 : ∀ b, b ≠ D → (g0.update D (Obj.mapSeq fun _ => (#[] : Array Value))).get? b = g0.get? b := fun b hb => Heap.get?_update_ne _ _ _ _ hb
  have z1 : (g0.update D (Obj.mapSeq fun _ => (#[] : Array Value))).objs.size = g0.objs.size := Heap.size_update _ _ _
  have hs0 : X.s_0.heap.objs.size ≤ s.heap.objs.size := I.sz
  have hDs : s.heap.objs.size ≤ D := by omega
  have cellne : ∀ {H' : Hp} {s' : Shared} {pp : List (Addr × Obj)} {b : Addr} {o : Obj}, Inv X pp σ H' s' → s'.heap.get? b = some o → (∀ v, o.data ≠ .cell v) → ∀ x cc, X.env.cells.lookup x = some cc → cc ≠ b := fun I' ho hd x cc e z => by
    subst z
    obtain ⟨v, o', ho', hd'⟩ := I'.cell x _ e
    rw [ho] at ho'; cases ho'
    exact hd v hd'
  have lcl : ∀ {xs : Array Value} {n : Nat} (v : Option Value), (seqObj "list" xs n).data ≠ .cell v := fun v e => by cases e
  have HD : H D = none := I.hok.fresh hDs
  have neD : D ≠ X.env.locals := Nat.ne_of_gt (Nat.lt_of_lt_of_le I.lt hDs)
  have pinD : ∀ p ∈ X.pn ++ pins, p.1 ≠ D := fun p hp => Nat.ne_of_lt (Nat.lt_of_lt_of_le (Heap.lt_size (I.pin p hp).1) hDs)
  have I2 : Inv X pins σ H { ({ s with heap := g0 } : Shared) with heap := g0.update D (Obj.mapSeq fun _ => (#[] : Array Value)) } := Inv.turned (s := { s with heap := g0 }) (t' := s.toks) (it := D) I1 (fun b o hb e => (n1 b hb).trans e) HD neD (.inr (Nat.le_trans hs0 hDs)) (cellne I1 oD lcl) pinD
  generalize g0.update D (Obj.mapSeq fun _ => (#[] : Array Value)) = g1 at o1 z1 I2
  refine wpAny_bind (seqEpoch_at o1 rfl (wpAny_bind (wpAny_newTuple (wpAny_bind (wpAny_newList (wpAny_holding ?_) (Nat.zero_le _))) (by show its.length ≤ _; exact hzi))))
  have I3 : Inv X pins σ H { s with heap := (g1.push (seqObj "tuple" its.toArray 0)).push (seqObj "list" #[] 0) } := I2.kept fun b o e => Heap.get?_push_of_some _ (Heap.get?_push_of_some _ e)
  have oD3 : ((g1.push (seqObj "tuple" its.toArray 0)).push (seqObj "list" #[] 0)).get? D = some (seqObj "list" #[] e1) := Heap.get?_push_of_some _ (Heap.get?_push_of_some _ o1)
  have oK3 : ((g1.push (seqObj "tuple" its.toArray 0)).push (seqObj "list" #[] 0)).get? (g1.push (seqObj "tuple" its.toArray 0)).objs.size = some (seqObj "list" #[] 0) := Heap.get?_push_size _ rfl
  have zK : (g1.push (seqObj "tuple" its.toArray 0)).objs.size = g0.objs.size + 1 := by rw [Heap.size_push, z1]
  show wpAny _ _ (ksk_rest D (.ref f) false its.toArray e1 (.ref (g1.push (seqObj "tuple" its.toArray 0)).objs.size)) _ _ { s with heap := (g1.push (seqObj "tuple" its.toArray 0)).push (seqObj "list" #[] 0) }
  generalize (g1.push (seqObj "tuple" its.toArray 0)).objs.size = kS at zK oK3 ⊢
  generalize (g1.push (seqObj "tuple" its.toArray 0)).push (seqObj "list" #[] 0) = g3 at I3 oD3 oK3 ⊢
  have hkD : kS ≠ D := Nat.ne_of_gt (by rw [zK]; exact Nat.lt_succ_of_lt lD)
  have hKs : s.heap.objs.size ≤ kS := by rw [zK]; exact Nat.le_succ_of_le (Nat.le_trans hDs (Nat.le_of_lt lD))
  have HK : H kS = none := I.hok.fresh hKs
  have neK : kS ≠ X.env.locals := Nat.ne_of_gt (Nat.lt_of_lt_of_le I.lt hKs)
  have pinK : ∀ p ∈ X.pn ++ pins, p.1 ≠ D ∧ p.1 ≠ kS := fun p hp => ⟨pinD p hp, Nat.ne_of_lt (Nat.lt_of_lt_of_le (Heap.lt_size (I.pin p hp).1) hKs)⟩
  have pinOk : ∀ {H' : Hp} {s' : Shared} {kA : Array Value} {e : Nat}, H' D = none → H' kS = none → s'.heap.get? D = some (seqObj "list" #[] e1) → s'.heap.get? kS = some (seqObj "list" kA e) → Inv X pins σ H' s' → Inv X ((D, seqObj "list" #[] e1) :: (kS, seqObj "list" kA e) :: pins) σ H' s' := fun h1 h2 h3 h4 I' => I'.pins_of fun p hp => by
    rcases List.mem_cons.mp hp with rfl | hp
    · exact ⟨h3, h1, neD, I.nofs hDs, lcl⟩
    · rcases List.mem_cons.mp hp with rfl | hp
      · exact ⟨h4, h2, neK, I.nofs hKs, lcl⟩
      · exact I'.pin p (List.mem_append_right _ hp)
  have I4 := pinOk HD HK oD3 oK3 I3
  unfold ksk_rest
  refine wpAny_bind (wpAny_rule ?_)
  rw [List.forIn_toArray]
  refine wpAny_bind (ksk_fold (fun i s' => ∃ (Hi Gi : Hp) (kA : Array Value) (e : Nat) (kxs : List V), Inv X ((D, seqObj "list" #[] e1) :: (kS, seqObj "list" kA e) :: pins) σ Hi s' ∧ Stp X.K G M H Gi M Hi ∧ Vals kxs kA.toList ∧ Paired (fun d v => Dp X.K Gi v d) ((ds.map key).take i) kxs) its 0 _
    ⟨H, G, #[], 0, [], I4, Stp.refl sim, .nil, by rw [List.take_zero]; exact .nil⟩ ?step ?done)
  case step =>
    rintro n x s' hx ⟨Hi, Gi, kA, e, kxs, Ii, st, hv, hp⟩
    simp only [Nat.zero_add] at hp ⊢
    obtain ⟨v, hxv, rxv⟩ := vals_at rv hx
    have hn : n < its.length := (List.getElem?_eq_some_iff.mp hx).1
    have hdn : ds[n]? = some (ds[n]'(by omega)) := List.getElem?_eq_getElem (by omega)
    generalize ds[n]'(by omega) = d at hdn
    have hdm : d ∈ ds := List.mem_of_getElem? hdn
    have rdv : RelW X.K G (.d d) v := by
      obtain ⟨y, e1, e2⟩ := paired_at hR (show (ds.map W.d)[n]? = some (.d d) by rw [List.getElem?_map, hdn]; rfl)
      rw [hxv] at e1; cases e1
      exact e2
    refine wpAny_bind (wpAny_attempt (wpAny_mono (turn_key c F hj hb Ii st.sim (rdv.ext st.ex) rxv (hsp d hdm)) (fun u s'' he => ?_) fun _ _ hF => hF.elim))
    obtain ⟨z, H', G', I', rz, st', dz⟩ := he
    obtain ⟨pd1, pd2, _⟩ := I'.pin _ (List.mem_append_right _ List.mem_cons_self)
    obtain ⟨pk1, pk2, _⟩ := I'.pin _ (List.mem_append_right _ (List.mem_cons_of_mem _ List.mem_cons_self))
    have hkl : kA.size ≤ its.length := by
      have h1 : kxs.length = kA.size := hv.length.trans Array.length_toList
      have h2 := paired_len hp
      rw [List.length_take, List.length_map] at h2
      have h3 := Nat.min_le_left n ds.length
      rw [h2, h1] at h3
      exact Nat.le_trans h3 (Nat.le_of_lt hn)
    try dsimp only
    refine wpAny_bind (listUpdate_at pk1 rfl (wpAny_pure ⟨rfl, H', G', kA.push u, ?_⟩) (Nat.le_trans hkl hzi) (Nat.le_trans (Nat.le_of_eq (Array.size_push ..)) (Nat.succ_le_succ (Nat.le_trans hkl hzi))))
    obtain ⟨c2, hc2⟩ : ∃ c2, (s''.heap.update kS (Obj.mapSeq (·.push u))).get? kS = some (seqObj "list" (kA.push u) c2) := ⟨_, get?_update_seq pk1 (·.push u)⟩
    have nn : ∀ b, b ≠ kS → (s''.heap.update kS (Obj.mapSeq (·.push u))).get? b = s''.heap.get? b := fun b hb => Heap.get?_update_ne _ _ _ _ hb
    have I5 : Inv X ((D, seqObj "list" #[] e1) :: pins) σ H' s'' := I'.pins_of fun p hp => I'.pin p (List.mem_append_right _ (by
      rcases List.mem_cons.mp hp with rfl | hp
      · exact List.mem_cons_self
      · exact List.mem_cons_of_mem _ (List.mem_cons_of_mem _ hp)))
    have I6 : Inv X ((D, seqObj "list" #[] e1) :: pins) σ H' { s'' with heap := s''.heap.update kS (Obj.mapSeq (·.push u)) } := I5.turned (it := kS) (fun b o hb e => (nn b hb).trans e) pk2 neK (.inr (Nat.le_trans hs0 hKs)) (cellne I' pk1 lcl) (fun p hp => by
      rcases List.mem_append.mp hp with hp | hp
      · exact (pinK p (List.mem_append_left _ hp)).2
      · rcases List.mem_cons.mp hp with rfl | hp
        · exact Ne.symm hkD
        · exact (pinK p (List.mem_append_right _ hp)).2)
    refine ⟨c2, kxs ++ [z], pinOk pd2 pk2 ((nn D (Ne.symm hkD)).trans pd1) hc2 (I6.pins_of fun p hp => I6.pin p (List.mem_append_right _ (List.mem_cons_of_mem _ hp))), st.trans st', ?_, ?_⟩
    · rw [Array.toList_push]; exact vals_snoc rz hv
    · rw [List.take_add_one, List.getElem?_map, hdn]
      exact paired_app (Paired.imp' (fun a b q => st'.ex.dp q) hp) (.cons dz .nil)
  case done =>
    rintro s' ⟨Hi, Gi, kA, e, kxs, Ii, st, hv, hp⟩
    rw [List.take_of_length_le (by rw [List.length_map]; omega)] at hp
    obtain ⟨pd1, pd2, _⟩ := Ii.pin _ (List.mem_append_right _ List.mem_cons_self)
    obtain ⟨pk1, pk2, _⟩ := Ii.pin _ (List.mem_append_right _ (List.mem_cons_of_mem _ List.mem_cons_self))
    have hkr := keys_read Ii hv (Paired.imp' (fun a b q => st.sim.ex.dp q) hp)
    have hks : kA.size = its.length := by
      have h1 := hkr.length
      rw [List.length_map, Array.length_toList] at h1
      omega
    try dsimp only
    refine wpAny_bind (listItems_at pk1 rfl ?_)
    obtain ⟨Gr, gr1, gr2⟩ := L2.restrict s'.heap fun b => decide (b ≠ kS)
    have kp : PySem.W.KeepsBut D Gr s'.heap := fun b o hb e => by
      by_cases hbk : b = kS
      · rw [gr2 b (by simp [hbk])] at e; cases e
      · rw [gr1 b (by simp [hbk])] at e; exact e
    refine PySem.W.keyH_end (κ := PySem.W.dataKind s'.heap (ds.map key)) (h₁ := Gr) kp (gr2 kS (by simp)) pk1 pd1 hkD (PySem.W.SortsAt.data hkr hal hk fun d hd => by have := hdp d hd; show X.A.units + 1 + 1 + d.depth < cLine; omega) hks hzi fun h' tk cc kb atD => ⟨rfl, ?_⟩
    have eR : PySem.W.EachIs (fun v d => ∃ x, RelV x v ∧ RelW X.K Gi (.d d) x) its ds := vals_each (F := fun d v => RelW X.K Gi (.d d) v) rv (paired_tomap (RelWs.ext st.ex hR))
    have eo := PySem.W.keyedOut_each (rev := false) key ⟨s'.heap, kA.toList, hal, rfl, hkr⟩ eR
    obtain ⟨ys, y1, y2⟩ := each_vals (F := fun d v => RelW X.K Gi (.d d) v) eo
    have hyl : ys.length ≤ sizeLine := by
      have h1 := paired_len y2
      rw [List.length_mergeSort] at h1
      omega
    have keepF : ∀ b o, b ≠ D → b ≠ kS → s'.heap.get? b = some o → h'.get? b = some o := fun b o h1 h2 e => kb b o h1 ((gr1 b (by simp [h2])).trans e)
    have Ie := adopt (tk := tk) Ii (Nat.le_trans hs0 hDs) (Nat.le_trans hs0 hKs) pinK keepF atD y1 hyl
    obtain ⟨mD, gD⟩ := st.sim.free pd2
    exact ⟨.ref D, _, Ie, rfl, q ys D Hi Gi st (paired_unmap y2) pd2 mD gD⟩

/-! ### the rules on data -/
def bSorted (o : Bool) : WCl := fun xs M Q => match xs with
  | [x] => (match (seeA M x).bind allD with
    | some ds => SrtOk ds ∧ mkL o ((sortD ds).map W.d) M Q
    | none => False)
  | _ => False
theorem sc_sorted {o : Bool} : SndC X.K (rSortD X.K) (bSorted o) := fun M G H xs vs Q R s r h kk => by
  match xs, h with
  | [x], h =>
    obtain ⟨v, rfl, rx⟩ := paired1 r
    unfold bSorted at h
    simp only at h
    cases e : seeA M x with
    | none => rw [e] at h; exact h.elim
    | some ws =>
      cases e2 : allD ws with
      | none => rw [e, Option.bind_some, e2] at h; exact h.elim
      | some ds =>
        rw [e, Option.bind_some, e2] at h
        obtain ⟨p, us, rfl, hs, hp⟩ := seeA_ok s rx e
        rw [allD_eq e2] at hp
        exact ⟨p, us, ds, fun d v => RelW X.K G (.d d) v, rfl, hs, s.ex.dps (paired_dps hp), paired_tomap hp, h.1, fun ys q hy hq => mkL_ok s (paired_unmap hy) h.2 kk q hq⟩
def wSortK (o : Bool) (key : PyData → PyData) (dsp : DSp) (wa : WA) : WE := fun xq ρ M Q => wa xq ρ M fun xs M1 => match xs with
  | [x] => (match (seeA M1 x).bind allD with
    | some ds => (SrtOk (ds.map key) ∧ ∀ d ∈ ds, dsp [.d d] M1 (fun z M' => z = .d (key d) ∧ M' = M1) (fun _ _ _ => False)) ∧ mkL o ((ds.mergeSort (PySem.W.dataLe false key)).map W.d) M1 Q
    | none => False)
  | _ => False
theorem de_sortK (o : Bool) (key : PyData → PyData) {x : Str} {ps : List Str} {dsp : DSp} {e : Expr} {wa : WA} {p q kp pos : Pos} (hm : X.mg "sorted" = none) (h : HasF X.prog X.w X.K X.mg X.base j x ps dsp) (c : Cq X Wx k) (ha : DA X Wx [e] wa) (hj : j + 2 ≤ k := by omega) (hg : Gl X "sorted" := by rfl) (hgx : Gl X x := by rfl)
    (hd : (x == ("__debug__" : Str)) = false := by decide) (hv : bootBuiltins "sorted" = some (.builtin "sorted") := by decide +kernel)
    (he : backTo pos (starEach [e] X.env) = (false, eval e X.env) :: backTo pos (starEach [] X.env) := by rfl) (hpl : (backTo pos (starEach [e] X.env)).any (·.1) = false := by rfl)
    (hall : (backToKw pos (keywordEach [⟨some "key", .Name x q, kp⟩] X.env)).all (·.1.isSome) = true := by rfl) (hnone : (backToKw pos (keywordEach [⟨some "key", .Name x q, kp⟩] X.env)).any (·.1.isNone) = false := by rfl)
    (hks : (backToKw pos (keywordEach [⟨some "key", .Name x q, kp⟩] X.env)).filterMap (·.1) = [Str.ofString "key"] := by rfl) :
    DE X Wx (.Call (.Name "sorted" p) [e] [⟨some "key", .Name x q, kp⟩] pos) (wSortK o key dsp wa) := by
  obtain ⟨f, fd, hmf, hk, hb, _, F⟩ := h
  obtain ⟨t, pa, sa⟩ := ha
  refine ⟨_, pe_callBK (cr_sortK (key := key) c F hj (.all hb)) hg hm hv pa (pk_cons (pe_glob (v := .ref f) hgx hmf rfl hd) pk_nil) (by decide) (by decide) he hpl hall hnone hks, fun xq ρ M σ G H Q R rl hw kk => ?_⟩
  refine sa xq ρ M σ G H _ _ rl hw fun vs H1 G1 M1 xs s1 r1 q1 => ?_
  show rSortK X.K f dsp key vs [V.ref f] H1 R
  match xs, q1 with
  | [x], q1 =>
    obtain ⟨v, rfl, rx⟩ := paired1 r1
    simp only at q1
    cases e : seeA M1 x with
    | none => rw [e] at q1; exact q1.elim
    | some ws =>
      cases e2 : allD ws with
      | none => rw [e, Option.bind_some, e2] at q1; exact q1.elim
      | some ds =>
        rw [e, Option.bind_some, e2] at q1
        obtain ⟨a, us, rfl, hs, hp⟩ := seeA_ok s1.sim rx e
        rw [allD_eq e2] at hp
        exact ⟨a, us, ds, G1, M1, rfl, rfl, hs, s1.sim, hp, q1.1.1, q1.1.2, fun ys p H' G' st hy hn mn gn => mkL_ok st.sim hy q1.2 (fun v' H'' G'' M'' z st' rz qz => kk v' H'' G'' M'' z ((s1.trans st).trans st') rz qz) p hn⟩
/-! ### least and greatest of ints -/
theorem ints_read {h : Heap} : ∀ {ns : List Int} {its : List Value}, Vals (ns.map V.int) its → ReadsAll h its (ns.map PyData.int) []
  | [], _, .nil => .nil
  | n :: ns, _, .cons r t => by
    obtain ⟨tk, rfl⟩ := r
    exact ReadsAll.cons (as := []) (Reads.int n tk) (ints_read t)
theorem alike_ints2 (ns : List Int) : PySem.W.AlikeAll (ns.map PyData.int) := by
  refine ⟨fun d hd d' hd' => ?_, fun d hd => ?_⟩
  · obtain ⟨i, _, rfl⟩ := List.mem_map.mp hd
    obtain ⟨j, _, rfl⟩ := List.mem_map.mp hd'
    rfl
  · obtain ⟨i, _, rfl⟩ := List.mem_map.mp hd
    exact fun e => by cases e
def rMinL (K : PySem.W.Frag) (g : Int → List Int → Int) : List V → Hp → VK → Prop := fun vs H Q => ∃ (a : Addr) (n : Int) (ns : List Int), vs = [V.ref a] ∧ SqL K H a ((n :: ns).map V.int) ∧ Q (.int (g n ns)) H
theorem cr_minL (c : Cq X Wx k) : CallR X (.builtin "min") (rMinL X.K fun n ns => ns.foldl min n) := by
  intro pins s σ H vs us Q I r h
  obtain ⟨a, n, ns, rfl, hs, q⟩ := h
  obtain ⟨its, rv, hl, hz⟩ := I.list hs
  obtain ⟨u, rfl, ru⟩ := vals1 r
  obtain rfl : u = Value.ref a := ru
  have hu := c.rm.room.un
  have hd : PyData.depthAll (PyData.int n :: ns.map PyData.int) = 0 := PySem.W.depth_ints (n :: ns)
  refine PySem.W.min_list_data (x := .int n) (xs := ns.map .int) c.rm.room.hd hl.isList (ints_read (ns := n :: ns) rv) (alike_ints2 (n :: ns)) (by rw [hd]; omega) fun i v h' tk bs hv hr kp => ?_
  rw [PySem.W.minD_ints] at hr
  cases hr
  exact ⟨.int _, H, I.kept kp, ⟨_, rfl⟩, q⟩
theorem cr_maxL (c : Cq X Wx k) : CallR X (.builtin "max") (rMinL X.K fun n ns => ns.foldl max n) := by
  intro pins s σ H vs us Q I r h
  obtain ⟨a, n, ns, rfl, hs, q⟩ := h
  obtain ⟨its, rv, hl, hz⟩ := I.list hs
  obtain ⟨u, rfl, ru⟩ := vals1 r
  obtain rfl : u = Value.ref a := ru
  have hu := c.rm.room.un
  have hd : PyData.depthAll (PyData.int n :: ns.map PyData.int) = 0 := PySem.W.depth_ints (n :: ns)
  refine PySem.W.max_list_data (x := .int n) (xs := ns.map .int) c.rm.room.hd hl.isList (ints_read (ns := n :: ns) rv) (alike_ints2 (n :: ns)) (by rw [hd]; omega) fun i v h' tk bs hv hr kp => ?_
  rw [PySem.W.maxD_ints] at hr
  cases hr
  exact ⟨.int _, H, I.kept kp, ⟨_, rfl⟩, q⟩
def bMinL (g : Int → List Int → Int) : WCl := bInts fun ns M Q => match ns with
  | n :: r => Q (.d (.int (g n r))) M
  | [] => False
theorem sc_minL {g : Int → List Int → Int} : SndC X.K (rMinL X.K g) (bMinL g) := fun M G H xs vs Q R s r h kk => by
  obtain ⟨a, ns, rfl, hs, q⟩ := bInts_ok s r h
  cases ns with
  | nil => exact q.elim
  | cons n ns => exact ⟨a, n, ns, rfl, hs, kk _ _ _ _ _ (Stp.refl s) (Dp.int _) q⟩
def minOr (d : Int) : List Int → Int
  | [] => d
  | n :: r => r.foldl min n
def rMinD (K : PySem.W.Frag) : List V → List V → Hp → VK → Prop := fun vs zs H Q => ∃ (a : Addr) (d : Int) (ns : List Int), vs = [V.ref a] ∧ zs = [V.int d] ∧ SqL K H a (ns.map V.int) ∧ Q (.int (minOr d ns)) H
theorem cr_minD (c : Cq X Wx k) : CallRK X (.builtin "min") [Str.ofString "default"] (rMinD X.K) := by
  intro pins s σ H vs zs us ws Q I r rz h
  obtain ⟨a, d, ns, rfl, rfl, hs, q⟩ := h
  obtain ⟨its, rv, hl, hz⟩ := I.list hs
  obtain ⟨u, rfl, ru⟩ := vals1 r
  obtain rfl : u = Value.ref a := ru
  obtain ⟨u2, rfl, t2, rfl⟩ := vals1 rz
  have hu := c.rm.room.un
  have hd : PyData.depthAll (ns.map PyData.int) = 0 := PySem.W.depth_ints ns
  show wpAny _ _ (call (.builtin "min") [.ref a] [(Str.ofString "default", .int d t2)]) _ _ s
  refine PySem.W.min_list_default (xs := ns.map .int) c.rm.room.hd hl.isList (ints_read (ns := ns) rv) (alike_ints2 ns) (by rw [hd]; omega) (fun e h' tk kp => ?_) fun y ys i v h' tk bs e hv hr kp => ?_
  · cases ns with
    | nil => exact ⟨.int _, H, I.kept kp, ⟨_, rfl⟩, q⟩
    | cons => cases e
  · cases ns with
    | nil => cases e
    | cons n r =>
      injection e with e1 e2
      subst e1 e2
      rw [PySem.W.minD_ints] at hr
      cases hr
      exact ⟨.int _, H, I.kept kp, ⟨_, rfl⟩, q⟩
def wMinD (wa : WA) (wd : WE) : WE := fun xq ρ M Q => wa xq ρ M fun xs M1 => wd xq ρ M1 fun y M2 => bInts (fun ns M3 Q3 => match y with
  | .d (.int d) => Q3 (.d (.int (minOr d ns))) M3
  | _ => False) xs M2 Q
theorem de_minD {e ed : Expr} {wa : WA} {wd : WE} {p kp pos : Pos} (hm : X.mg "min" = none) (c : Cq X Wx k) (ha : DA X Wx [e] wa) (hd : DE X Wx ed wd) (hg : Gl X "min" := by rfl)
    (hv : bootBuiltins "min" = some (.builtin "min") := by decide +kernel)
    (he : backTo pos (starEach [e] X.env) = (false, eval e X.env) :: backTo pos (starEach [] X.env) := by rfl) (hpl : (backTo pos (starEach [e] X.env)).any (·.1) = false := by rfl)
    (hall : (backToKw pos (keywordEach [⟨some "default", ed, kp⟩] X.env)).all (·.1.isSome) = true := by rfl) (hnone : (backToKw pos (keywordEach [⟨some "default", ed, kp⟩] X.env)).any (·.1.isNone) = false := by rfl)
    (hks : (backToKw pos (keywordEach [⟨some "default", ed, kp⟩] X.env)).filterMap (·.1) = [Str.ofString "default"] := by rfl) :
    DE X Wx (.Call (.Name "min" p) [e] [⟨some "default", ed, kp⟩] pos) (wMinD wa wd) := by
  obtain ⟨t, pa, sa⟩ := ha
  obtain ⟨td, pd, sd⟩ := hd
  refine ⟨_, pe_callBK (cr_minD c) hg hm hv pa (pk_cons pd pk_nil) (by decide) (by decide) he hpl hall hnone hks, fun xq ρ M σ G H Q R rl hw kk => ?_⟩
  refine sa xq ρ M σ G H _ _ rl hw fun vs H1 G1 M1 xs s1 r1 q1 => ?_
  show td σ H1 fun x H2 => rMinD X.K vs [x] H2 R
  refine sd xq ρ M1 σ G1 H1 _ _ (rl.next s1) q1 fun v H2 G2 M2 y s2 ry q2 => ?_
  obtain ⟨a, ns, rfl, hs, q⟩ := bInts_ok s2.sim (RelWs.ext s2.ex r1) q2
  cases y with
  | r z => exact q.elim
  | d dd =>
    cases dd <;> try (exact q.elim)
    cases ry
    exact ⟨a, _, ns, rfl, rfl, hs, kk _ _ _ _ _ (s1.trans s2) (Dp.int _) q⟩
end
end DL
namespace DL
open PySem PySem.Spec PyProof.Rows L2
/-! ### zip of two rows, each a list or a tuple -/
/-- a list, or a tuple -/
inductive Kd where
  | l
  | t
def SeqK : Kd → Heap → Addr → Array Value → Prop
  | .l, h, a, xs => h.IsList a xs
  | .t, h, a, xs => h.IsTuple a xs
def ItK : Kd → Heap → Addr → Addr → Nat → Prop
  | .l, h, it, a, i => h.IsListIter it a i
  | .t, h, it, a, i => h.IsTupleIter it a i
theorem SeqK.ext {k : Kd} {h h' : Heap} {a b : Addr} {xs : Array Value} (x : SeqK k h a xs) (hs : Heap.ExtBut b h h') (n : a ≠ b) : SeqK k h' a xs := by
  cases k
  · exact Heap.IsList.extBut x hs n
  · exact Heap.IsTuple.extBut x hs n
theorem ItK.ext {k : Kd} {h h' : Heap} {a b l : Addr} {i : Nat} (x : ItK k h a l i) (hs : Heap.ExtBut b h h') (n : a ≠ b) : ItK k h' a l i := by
  cases k
  · exact Heap.IsListIter.extBut x hs n
  · exact Heap.IsTupleIter.extBut x hs n
theorem ItK.at' {k : Kd} {h h' : Heap} {a l : Addr} {i : Nat} (x : ItK k h a l i) (e : ∀ o, h.get? a = some o → h'.get? a = some o) : ItK k h' a l i := by
  cases k
  · exact Heap.IsListIter.at x e
  · exact Heap.IsTupleIter.at x e
theorem ItK.lt {k : Kd} {h : Heap} {a l : Addr} {i : Nat} (x : ItK k h a l i) : a < h.objs.size := by
  cases k <;> (obtain ⟨_, e, _⟩ := x; exact Heap.lt_size e)
theorem ItK.obj {k : Kd} {h : Heap} {a l : Addr} {i : Nat} (x : ItK k h a l i) : ∃ o, h.get? a = some o ∧ ∀ v, o.data ≠ .cell v := by
  cases k <;> (obtain ⟨o, e, _, d⟩ := x; exact ⟨o, e, fun v q => by rw [d] at q; cases q⟩)
section
variable {prog : Program} {w : World} {A : Around} {E : Value → Shared → Prop} {s : Shared}
theorem pull {k : Kd} {it l : Addr} {i : Nat} {xs : Array Value} {x : Value} {Q : Value → Shared → Prop} (hi : ItK k s.heap it l i) (hl : SeqK k s.heap l xs) (hx : xs[i]? = some x) (hQ : ∀ h', ItK k h' it l (i + 1) → Heap.SameBut it s.heap h' → Q x { s with heap := h' }) :
    wpAny (model prog w) A (Builtin.SmallTypes.nextOf (.ref it)) Q E s := by
  cases k
  · exact wpAny_nextOf_list_item hi hl hx hQ
  · exact RZ.nextOf_tuple_item hi hl hx hQ
theorem pull_end {k : Kd} {it l : Addr} {i : Nat} {xs : Array Value} {Q : Value → Shared → Prop} (hh : A.handled = none) (hi : ItK k s.heap it l i) (hl : SeqK k s.heap l xs) (hx : xs[i]? = none)
    (hE : ∀ h' e, Heap.ExtBut it s.heap h' → (∃ o, h'.get? e = some o ∧ o.cls = .type "StopIteration") → E (.ref e) { s with heap := h' }) : wpAny (model prog w) A (Builtin.SmallTypes.nextOf (.ref it)) Q E s := by
  cases k
  · exact wpAny_nextOf_list_end hh hi hl hx hE
  · exact RZ.nextOf_tuple_end hh hi hl hx hE
variable {z TI TO i1 i2 l1 l2 : Addr} {m n : Kd} {k1 k2 : Nat} {xs ys : Array Value} {x y a b : Value}
theorem zipK_item {Q : Value → Shared → Prop} (D : ZipApart z TI TO i1 i2 l1 l2) (hz : IsZip s.heap z TI TO .none) (hTI : IsPair s.heap TI (.ref i1) (.ref i2)) (hTO : IsPair s.heap TO a b) (h1 : ItK m s.heap i1 l1 k1) (h2 : ItK n s.heap i2 l2 k2) (hl1 : SeqK m s.heap l1 xs) (hl2 : SeqK n s.heap l2 ys)
    (hx : xs[k1]? = some x) (hy : ys[k2]? = some y)
    (hQ : ∀ h', IsZip h' z TI TO (rawInt s.heap.objs.size) → IsPair h' TO x y → ItK m h' i1 l1 (k1 + 1) → ItK n h' i2 l2 (k2 + 1) → IsPair h' s.heap.objs.size x y → h'.objs.size = s.heap.objs.size + 1 →
      (∀ c o, c ≠ z → c ≠ TO → c ≠ i1 → c ≠ i2 → s.heap.get? c = some o → h'.get? c = some o) → Q (.ref s.heap.objs.size) { s with heap := h' }) :
    wpAny (model prog w) A (Builtin.«zip.__next__» ⟨[.ref z], []⟩) (fun fin s' => ∃ v, fin = .done (.ret v) ∧ Q v s') E s := by
  show wpAny _ _ (field (.ref z) 2 >>= _) _ _ _; refine wpAny_bind (wpAny_field hz rfl (x := .bool false) rfl ?_)
  show wpAny _ _ (field (.ref z) 3 >>= _) _ _ _; refine wpAny_bind (wpAny_field hz rfl (x := .ref TI) rfl (wpAny_bind (wpAny_seqItems hTI rfl ?_)))
  show wpAny _ _ (Builtin.SmallTypes.ownedTupleIsFree (.ref z) >>= _) _ _ _; refine wpAny_bind ?_; unfold Builtin.SmallTypes.ownedTupleIsFree
  refine wpAny_bind (wpAny_field hz rfl (x := .none) rfl (wpAny_pure ?_)); simp only [if_true]
  refine wpAny_bind (wpAny_rule (wpAny_bind (wpAny_field hz rfl (x := .ref TO) rfl (wpAny_bind (wpAny_setField_rec hz (by simp) fun g1 hz1 s1 => ?_)))))
  replace hz1 : IsZip g1 z TI TO .ellipsis := hz1
  refine wpAny_bind ?_; simp only [List.zipIdx_cons, List.zipIdx_nil, List.forIn_cons, List.forIn_nil]
  -- the first row's item
  refine wpAny_bind (wpAny_bind (wpAny_onRaise ?_)); show wpAny _ _ (Builtin.SmallTypes.nextOf (.ref i1) >>= _) _ _ _
  refine wpAny_bind (pull (h1.ext s1.extBut D.i1z) (hl1.ext s1.extBut D.l1z) hx fun g2 h12 s2 => wpAny_pure ?_)
  have t2 : IsPair g2 TO a b := s2.extBut _ _ D.TOi1 (s1.extBut _ _ D.TOz hTO)
  refine wpAny_bind (wpAny_seqItems t2 rfl (wpAny_bind (wpAny_updateSeq_pair t2 fun g3 t3 s3 => ?_)))
  replace t3 : IsPair g3 TO x b := t3
  refine wpAny_bind (wpAny_letGo (wpAny_pure (wpAny_bind (wpAny_bind (wpAny_onRaise ?_))))); show wpAny _ _ (Builtin.SmallTypes.nextOf (.ref i2) >>= _) _ _ _
  -- the second row's item
  have h2' := ((h2.ext s1.extBut D.i2z).ext s2.extBut D.i12.symm).ext s3.extBut D.TOi2.symm
  have hl2' := ((hl2.ext s1.extBut D.l2z).ext s2.extBut D.l2i1).ext s3.extBut D.l2TO
  refine wpAny_bind (pull h2' hl2' hy fun g4 h24 s4 => wpAny_pure ?_)
  have t4 : IsPair g4 TO x b := s4.extBut _ _ D.TOi2 t3
  refine wpAny_bind (wpAny_seqItems t4 rfl (wpAny_bind (wpAny_updateSeq_pair t4 fun g5 t5 s5 => ?_)))
  replace t5 : IsPair g5 TO x y := t5
  refine wpAny_bind (wpAny_letGo (wpAny_pure (wpAny_pure (wpAny_bind (wpAny_seqItems t5 rfl (wpAny_bind (wpAny_newTuple ?_)))))))
  have size5 : g5.objs.size = s.heap.objs.size := by rw [s5.1, s4.1, s3.1, s2.1, s1.1]
  have z5 : IsZip g5 z TI TO .ellipsis := s5.extBut _ _ D.TOz.symm (s4.extBut _ _ D.i2z.symm (s3.extBut _ _ D.TOz.symm (s2.extBut _ _ D.i1z.symm hz1)))
  have old5 : ∀ c o, c ≠ z → c ≠ TO → c ≠ i1 → c ≠ i2 → s.heap.get? c = some o → g5.get? c = some o := fun c o c1 c2 c3 c4 e => s5.extBut _ _ c2 (s4.extBut _ _ c4 (s3.extBut _ _ c2 (s2.extBut _ _ c3 (s1.extBut _ _ c1 e))))
  have h15 : ItK m g5 i1 l1 (k1 + 1) := ((h12.ext s3.extBut D.TOi1.symm).ext s4.extBut D.i12).ext s5.extBut D.TOi1.symm
  have h25 : ItK n g5 i2 l2 (k2 + 1) := h24.ext s5.extBut D.TOi2.symm
  have zlt : z < g5.objs.size := Heap.lt_size z5
  show wpAny _ _ (Builtin.SmallTypes.ownedTupleHandOut (.ref z) (.ref g5.objs.size) >>= _) _ _ _; refine wpAny_bind ?_; unfold Builtin.SmallTypes.ownedTupleHandOut
  have z6 : IsZip (g5.push { cls := .type "tuple", data := .seq #[x, y] }) z TI TO .ellipsis := Heap.get?_push_of_some _ z5
  refine wpAny_bind (wpAny_setField_rec z6 (by simp) fun g7 z7 s7 => ?_)
  replace z7 : IsZip g7 z TI TO (rawInt g5.objs.size) := z7
  refine wpAny_setField_rec z7 (by simp) fun g8 z8 s8 => ?_
  replace z8 : IsZip g8 z TI TO (rawInt g5.objs.size) := z8
  have up : ∀ c o, c ≠ z → g5.get? c = some o → g8.get? c = some o := fun c o c1 e => s8.extBut _ _ c1 (s7.extBut _ _ c1 (Heap.get?_push_of_some _ e))
  have t8 : IsPair g8 g5.objs.size x y := s8.extBut _ _ (Nat.ne_of_gt zlt) (s7.extBut _ _ (Nat.ne_of_gt zlt) (Heap.get?_push_size _ rfl))
  have size8 : g8.objs.size = g5.objs.size + 1 := by rw [s8.1, s7.1]; exact Heap.size_push _ _
  rw [size5] at z8 t8 size8
  refine wpAny_pure ⟨_, rfl, ?_⟩; show Q (.ref g5.objs.size) _; rw [size5]
  exact hQ g8 z8 (up _ _ D.TOz t5) (h15.at' fun o e => up _ o D.i1z e) (h25.at' fun o e => up _ o D.i2z e) t8 size8 fun c o c1 c2 c3 c4 e => up c o c1 (old5 c o c1 c2 c3 c4 e)
theorem zipK_end {Q : PySem.Fin → Shared → Prop} (hh : A.handled = none) (D : ZipApart z TI TO i1 i2 l1 l2) (hz : IsZip s.heap z TI TO .none) (hTI : IsPair s.heap TI (.ref i1) (.ref i2)) (hTO : IsPair s.heap TO a b) (h1 : ItK m s.heap i1 l1 k1) (h2 : ItK n s.heap i2 l2 k2) (hl1 : SeqK m s.heap l1 xs) (hl2 : SeqK n s.heap l2 ys)
    (hend : xs[k1]? = none ∨ ys[k2]? = none)
    (hE : ∀ h' e, (∀ c o, c ≠ z → c ≠ TO → c ≠ i1 → c ≠ i2 → s.heap.get? c = some o → h'.get? c = some o) → (∃ o, h'.get? e = some o ∧ o.cls = .type "StopIteration") → E (.ref e) { s with heap := h' }) :
    wpAny (model prog w) A (Builtin.«zip.__next__» ⟨[.ref z], []⟩) Q E s := by
  show wpAny _ _ (field (.ref z) 2 >>= _) _ _ _; refine wpAny_bind (wpAny_field hz rfl (x := .bool false) rfl ?_)
  show wpAny _ _ (field (.ref z) 3 >>= _) _ _ _; refine wpAny_bind (wpAny_field hz rfl (x := .ref TI) rfl (wpAny_bind (wpAny_seqItems hTI rfl ?_)))
  show wpAny _ _ (Builtin.SmallTypes.ownedTupleIsFree (.ref z) >>= _) _ _ _; refine wpAny_bind ?_; unfold Builtin.SmallTypes.ownedTupleIsFree
  refine wpAny_bind (wpAny_field hz rfl (x := .none) rfl (wpAny_pure ?_)); simp only [if_true]
  refine wpAny_bind (wpAny_rule (wpAny_bind (wpAny_field hz rfl (x := .ref TO) rfl (wpAny_bind (wpAny_setField_rec hz (by simp) fun g1 hz1 s1 => ?_)))))
  replace hz1 : IsZip g1 z TI TO .ellipsis := hz1
  refine wpAny_bind ?_; simp only [List.zipIdx_cons, List.zipIdx_nil, List.forIn_cons, List.forIn_nil]
  refine wpAny_bind (wpAny_bind (wpAny_onRaise ?_)); show wpAny _ _ (Builtin.SmallTypes.nextOf (.ref i1) >>= _) _ _ _
  cases hx : xs[k1]? with
  | none =>
    refine wpAny_bind (pull_end hh (h1.ext s1.extBut D.i1z) (hl1.ext s1.extBut D.l1z) hx fun g2 e s2 he => ?_)
    obtain ⟨oe, hoe, hce⟩ := he
    have z2 : IsZip g2 z TI TO .ellipsis := s2 _ _ D.i1z.symm hz1
    have ez : e ≠ z := fun q => by subst q; rw [z2] at hoe; cases hoe; simp at hce
    exact wpAny_setField_rec z2 (by simp) fun g3 _ s3 => hE g3 e (fun c o c1 _ c3 _ q => s3.extBut _ _ c1 (s2 _ _ c3 (s1.extBut _ _ c1 q))) ⟨oe, s3.extBut _ _ ez hoe, hce⟩
  | some x =>
    have hy : ys[k2]? = none := by rcases hend with h | h; · { rw [hx] at h; cases h }; · exact h
    refine wpAny_bind (pull (h1.ext s1.extBut D.i1z) (hl1.ext s1.extBut D.l1z) hx fun g2 h12 s2 => wpAny_pure ?_)
    have t2 : IsPair g2 TO a b := s2.extBut _ _ D.TOi1 (s1.extBut _ _ D.TOz hTO)
    refine wpAny_bind (wpAny_seqItems t2 rfl (wpAny_bind (wpAny_updateSeq_pair t2 fun g3 t3 s3 => wpAny_bind (wpAny_letGo (wpAny_pure (wpAny_bind (wpAny_bind (wpAny_onRaise ?_))))))))
    show wpAny _ _ (Builtin.SmallTypes.nextOf (.ref i2) >>= _) _ _ _; have h2' := ((h2.ext s1.extBut D.i2z).ext s2.extBut D.i12.symm).ext s3.extBut D.TOi2.symm
    have hl2' := ((hl2.ext s1.extBut D.l2z).ext s2.extBut D.l2i1).ext s3.extBut D.l2TO
    refine wpAny_bind (pull_end hh h2' hl2' hy fun g4 e s4 he => ?_)
    obtain ⟨oe, hoe, hce⟩ := he
    have z4 : IsZip g4 z TI TO .ellipsis := s4 _ _ D.i2z.symm (s3.extBut _ _ D.TOz.symm (s2.extBut _ _ D.i1z.symm hz1))
    have ez : e ≠ z := fun q => by subst q; rw [z4] at hoe; cases hoe; simp at hce
    exact wpAny_setField_rec z4 (by simp) fun g5 _ s5 => hE g5 e (fun c o c1 c2 c3 c4 q => s5.extBut _ _ c1 (s4 _ _ c4 (s3.extBut _ _ c2 (s2.extBut _ _ c3 (s1.extBut _ _ c1 q))))) ⟨oe, s5.extBut _ _ ez hoe, hce⟩
theorem nextK_item {Q : Option Value → Shared → Prop} (D : ZipApart z TI TO i1 i2 l1 l2) (hz : IsZip s.heap z TI TO .none) (hTI : IsPair s.heap TI (.ref i1) (.ref i2)) (hTO : IsPair s.heap TO a b) (h1 : ItK m s.heap i1 l1 k1) (h2 : ItK n s.heap i2 l2 k2) (hl1 : SeqK m s.heap l1 xs) (hl2 : SeqK n s.heap l2 ys)
    (hx : xs[k1]? = some x) (hy : ys[k2]? = some y)
    (hQ : ∀ h', IsZip h' z TI TO (rawInt s.heap.objs.size) → IsPair h' TO x y → ItK m h' i1 l1 (k1 + 1) → ItK n h' i2 l2 (k2 + 1) → IsPair h' s.heap.objs.size x y → h'.objs.size = s.heap.objs.size + 1 →
      (∀ c o, c ≠ z → c ≠ TO → c ≠ i1 → c ≠ i2 → s.heap.get? c = some o → h'.get? c = some o) → Q (some (.ref s.heap.objs.size)) { s with heap := h' }) : wpAny (model prog w) A (pyNext (.ref z)) Q E s := by
  have ty : s.TypeIs (.ref z) "zip" := ⟨_, hz, rfl⟩
  unfold pyNext
  refine wpAny_bind (wpAny_attempt (wpAny_callSpecial?_slot (name := Str.ofString "__next__") ty F.slot_zip_next (wpAny_call_entry F.slot_zip_next ty F.entry_zip_next ?_ (F.args_zip_next_1 _))))
  exact zipK_item D hz hTI hTO h1 h2 hl1 hl2 hx hy fun h' a1 a2 a3 a4 a5 a6 a7 => wpAny_pure (hQ h' a1 a2 a3 a4 a5 a6 a7)
theorem nextK_end {Q : Option Value → Shared → Prop} (hh : A.handled = none) (D : ZipApart z TI TO i1 i2 l1 l2) (hz : IsZip s.heap z TI TO .none) (hTI : IsPair s.heap TI (.ref i1) (.ref i2)) (hTO : IsPair s.heap TO a b) (h1 : ItK m s.heap i1 l1 k1) (h2 : ItK n s.heap i2 l2 k2) (hl1 : SeqK m s.heap l1 xs) (hl2 : SeqK n s.heap l2 ys)
    (hend : xs[k1]? = none ∨ ys[k2]? = none) (hQ : ∀ h', (∀ c o, c ≠ z → c ≠ TO → c ≠ i1 → c ≠ i2 → s.heap.get? c = some o → h'.get? c = some o) → Q none { s with heap := h' }) : wpAny (model prog w) A (pyNext (.ref z)) Q E s := by
  have ty : s.TypeIs (.ref z) "zip" := ⟨_, hz, rfl⟩
  unfold pyNext
  refine wpAny_bind (wpAny_attempt (wpAny_callSpecial?_slot (name := Str.ofString "__next__") ty F.slot_zip_next (wpAny_call_entry F.slot_zip_next ty F.entry_zip_next ?_ (F.args_zip_next_1 _))))
  refine zipK_end hh D hz hTI hTO h1 h2 hl1 hl2 hend fun h' e hk he => ?_
  obtain ⟨o, ho, hc⟩ := he
  exact wpAny_bind (wpAny_isInstance (T := "StopIteration") (b := true) ⟨o, ho, hc⟩ isSubtype_stop (wpAny_pure (hQ _ hk)))
end

def itN : Kd → String
  | .l => "list_iterator"
  | .t => "tuple_iterator"
abbrev zk1 (m : Kd) (h : Heap) (a : Addr) : Heap := h.push { cls := .type (itN m), data := .fields #[.ref a, .int 0 0] }
abbrev zk2 (m n : Kd) (h : Heap) (a b : Addr) : Heap := (zk1 m h a).push { cls := .type (itN n), data := .fields #[.ref b, .int 0 0] }
abbrev zk3 (m n : Kd) (h : Heap) (a b : Addr) : Heap := (zk2 m n h a b).push { cls := .type "tuple", data := .seq #[.ref h.objs.size, .ref (zk1 m h a).objs.size] }
abbrev zk4 (m n : Kd) (h : Heap) (a b : Addr) : Heap := (zk3 m n h a b).push { cls := .type "tuple", data := .seq #[.none, .none] }
abbrev zk5 (m n : Kd) (h : Heap) (a b : Addr) : Heap := (zk4 m n h a b).push { cls := .type "zip", data := .fields #[.none, .bool false, .bool false, .ref (zk2 m n h a b).objs.size, .ref (zk3 m n h a b).objs.size] }
theorem newK : ∀ (m n : Kd) (a b : Addr) (xs ys : Array Value),
    Meets (Builtin.«zip.__new__» ⟨[.type "zip", .ref a, .ref b], []⟩) (fun _ R s => SeqK m s.heap a xs ∧ SeqK n s.heap b ys ∧ R (.ok (.ret (.ref (zk4 m n s.heap a b).objs.size))) { s with heap := zk5 m n s.heap a b })
  | .l, .l, a, b, xs, ys => meets_zip_new a b xs ys
  | .t, .t, a, b, xs, ys => RZ.meets_zipT_new a b xs ys
  | .l, .t, a, b, xs, ys => .of_wp fun prog w A R s h => by
      obtain ⟨hp, g, d, tk, os⟩ := s
      obtain ⟨ha, hb, h⟩ := h
      have hsub := sub_zip
      have A1 : Heap.IsList (Shared.heap ⟨hp, g, d, tk, os⟩) a xs := ha
      have B1 : Heap.IsTuple (Shared.heap ⟨hp.push { cls := .type "list_iterator", data := .fields #[.ref a, .int 0 0] }, g, d, tk, os⟩) b ys := Heap.IsTuple.push hb _
      wp_walk using wpAny_pyIter_list A1, wpAny_pyIter_tuple B1
      exact ⟨_, rfl, h⟩
  | .t, .l, a, b, xs, ys => .of_wp fun prog w A R s h => by
      obtain ⟨hp, g, d, tk, os⟩ := s
      obtain ⟨ha, hb, h⟩ := h
      have hsub := sub_zip
      have A1 : Heap.IsTuple (Shared.heap ⟨hp, g, d, tk, os⟩) a xs := ha
      have B1 : Heap.IsList (Shared.heap ⟨hp.push { cls := .type "tuple_iterator", data := .fields #[.ref a, .int 0 0] }, g, d, tk, os⟩) b ys := Heap.IsList.push hb _
      wp_walk using wpAny_pyIter_tuple A1, wpAny_pyIter_list B1
      exact ⟨_, rfl, h⟩
theorem itK_of (k : Kd) {h : Heap} {a l : Addr} (e : h.get? a = some { cls := .type (itN k), data := .fields #[.ref l, .int 0 0] }) : ItK k h a l 0 := by
  cases k <;> exact ⟨_, e, rfl, rfl⟩
section
variable {prog : Program} {w : World} {A : Around} {E : Value → Shared → Prop} {s : Shared}
theorem call_zipK (m n : Kd) {a b : Addr} {xs ys : Array Value} {Q : Value → Shared → Prop} (ha : SeqK m s.heap a xs) (hb : SeqK n s.heap b ys)
    (h : ∀ h', IsZip h' (s.heap.objs.size + 4) (s.heap.objs.size + 2) (s.heap.objs.size + 3) .none → IsPair h' (s.heap.objs.size + 2) (.ref s.heap.objs.size) (.ref (s.heap.objs.size + 1)) → IsPair h' (s.heap.objs.size + 3) .none .none →
      ItK m h' s.heap.objs.size a 0 → ItK n h' (s.heap.objs.size + 1) b 0 → h'.objs.size = s.heap.objs.size + 5 → (∀ c o, s.heap.get? c = some o → h'.get? c = some o) → Q (.ref (s.heap.objs.size + 4)) { s with heap := h' }) :
    wpAny (model prog w) A (call (.type "zip") [.ref a, .ref b]) Q E s := by
  refine callType_new F.called_zip (by decide) (F.typeCall_zip_2 _ _) (F.newCall_zip_2 _ _) (fun obj => F.args_object_init_3 obj _ _) F.entry_zip_new (newK m n a b xs ys) ⟨ha, hb, ?_⟩
  have z1 : (zk1 m s.heap a).objs.size = s.heap.objs.size + 1 := Heap.size_push ..
  have z2 : (zk2 m n s.heap a b).objs.size = s.heap.objs.size + 2 := by rw [Heap.size_push, z1]
  have z3 : (zk3 m n s.heap a b).objs.size = s.heap.objs.size + 3 := by rw [Heap.size_push, z2]
  have z4 : (zk4 m n s.heap a b).objs.size = s.heap.objs.size + 4 := by rw [Heap.size_push, z3]
  have z5 : (zk5 m n s.heap a b).objs.size = s.heap.objs.size + 5 := by rw [Heap.size_push, z4]
  have p : ∀ {h : Heap} {c : Addr} {o o' : Obj}, h.get? c = some o → (h.push o').get? c = some o := fun e => Heap.get?_push_of_some _ e
  have g5 : (zk5 m n s.heap a b).get? (zk4 m n s.heap a b).objs.size = some _ := Heap.get?_push_size _ rfl
  have g4 : (zk5 m n s.heap a b).get? (zk3 m n s.heap a b).objs.size = some _ := p (Heap.get?_push_size _ rfl)
  have g3 : (zk5 m n s.heap a b).get? (zk2 m n s.heap a b).objs.size = some _ := p (p (Heap.get?_push_size _ rfl))
  have g2 : (zk5 m n s.heap a b).get? (zk1 m s.heap a).objs.size = some _ := p (p (p (Heap.get?_push_size _ rfl)))
  have g1 : (zk5 m n s.heap a b).get? s.heap.objs.size = some _ := p (p (p (p (Heap.get?_push_size _ rfl))))
  show _ ∧ _
  rw [z2, z3, z4] at g5
  rw [z1, z2] at g3
  rw [z3] at g4
  rw [z1] at g2
  rw [z4]
  exact ⟨⟨_, g5, rfl⟩, h _ g5 g3 g4 (itK_of m g1) (itK_of n g2) z5 fun c o x => p (p (p (p (p x))))⟩
end
/-! ### as a rule of the layer -/
def SqK (k : Kd) (K : PySem.W.Frag) (H : Hp) (a : Addr) (xs : List V) : Prop := match k with
  | .l => SqL K H a xs
  | .t => SqT K H a xs
section
variable {X : Cx} {pins : List (Addr × Obj)} {σ : L2.St} {H : Hp} {s : Shared} {k m n : Kd}
theorem SqK.get {a : Addr} {xs : List V} (I : Inv X pins σ H s) (h : SqK k X.K H a xs) : ∃ its : List Value, Vals xs its ∧ SeqK k s.heap a its.toArray ∧ a < s.heap.objs.size := by
  cases k
  · obtain ⟨its, r, p, _⟩ := I.list h
    exact ⟨its, r, p.isList, p.lt⟩
  · obtain ⟨its, r, p, _⟩ := I.tuple h
    obtain ⟨o, e, _⟩ := id p
    exact ⟨its, r, p, Heap.lt_size e⟩
theorem SqK.inj {a : Addr} {xs ys : List V} (I : Inv X pins σ H s) (h : SqK k X.K H a xs) (g : SqK k X.K H a ys) : xs = ys := by
  cases k
  · exact I.list_inj h g
  · exact I.tuple_inj h g
end
def ItzK (m n : Kd) (K : PySem.W.Frag) (a b : Addr) : It :=
  ⟨fun i H => ∃ (xs ys : List V) (x y : V), SqK m K H a xs ∧ SqK n K H b ys ∧ xs[i]? = some x ∧ ys[i]? = some y,
    fun i H v H' => ∃ T x y, v = .ref T ∧ H T = none ∧ H' = upd H T (.tup [x, y]) ∧ (∀ xs, SqK m K H a xs → xs[i]? = some x) ∧ ∀ ys, SqK n K H b ys → ys[i]? = some y,
    fun i H => ∃ xs ys : List V, SqK m K H a xs ∧ SqK n K H b ys ∧ (xs.length ≤ i ∨ ys.length ≤ i)⟩
theorem turn_zipK {P : Program} {w : World} {K : PySem.W.Frag} {elts : List Expr} {kk : Nat} {tpos : Pos} {m n : Kd} {a b z TI TO i1 i2 : Addr} (D : ZipApart z TI TO i1 i2 a b) :
    Turn P w K (.Tuple elts kk tpos) (ItzK m n K a b) [z, TI, TO, i1, i2] z (fun i h => IsZip h z TI TO .none ∧ IsPair h TI (.ref i1) (.ref i2) ∧ (∃ x y, IsPair h TO x y) ∧ ItK m h i1 a i ∧ ItK n h i2 b i) where
  mem := by simp
  obj := fun i h st c hc => by
    obtain ⟨hz, hTI, ⟨x, y, hTO⟩, h1, h2⟩ := st
    simp only [List.mem_cons, List.not_mem_nil, or_false] at hc
    rcases hc with rfl | rfl | rfl | rfl | rfl
    · exact ⟨_, hz, fun v q => nomatch q⟩
    · exact ⟨_, hTI, fun v q => nomatch q⟩
    · exact ⟨_, hTO, fun v q => nomatch q⟩
    · exact h1.obj
    · exact h2.obj
  keep := fun i h h' st k => by
    obtain ⟨hz, hTI, ⟨x, y, hTO⟩, h1, h2⟩ := st
    exact ⟨k z (by simp) _ hz, k TI (by simp) _ hTI, ⟨x, y, k TO (by simp) _ hTO⟩, h1.at' fun o q => k i1 (by simp) o q, h2.at' fun o q => k i2 (by simp) o q⟩
  item := by
    intro X hP hw hK hc i pins s σ H E I hf st hg
    subst hP hw hK
    obtain ⟨hz, hTI, ⟨x0, y0, hTO⟩, h1, h2⟩ := st
    obtain ⟨xs, ys, x, y, hqx, hqy, hx, hy⟩ := hg
    obtain ⟨its, rv, p, _⟩ := SqK.get I hqx
    obtain ⟨its2, rv2, p2, _⟩ := SqK.get I hqy
    obtain ⟨u, hu, ru⟩ := rv.get hx
    obtain ⟨u2, hu2, ru2⟩ := rv2.get hy
    have zlt : z < s.heap.objs.size := Heap.lt_size hz
    refine nextK_item D hz hTI hTO h1 h2 p p2 (x := u) (y := u2) (by simpa using hu) (by simpa using hu2) fun h' z' TO' h1' h2' hT hsz hk => ?_
    refine ⟨_, rfl, wpAny_letOwnedTupleGo_zip (s := { s with heap := h' }) z' fun h'' z'' sb => ?_⟩
    have T2 : h''.get? s.heap.objs.size = some { cls := .type "tuple", data := .seq #[u, u2] } := (sb.2 _ (Nat.ne_of_gt zlt)).trans hT
    have new : ObjOk X.prog X.w (upd H s.heap.objs.size (.tup [x, y])) h'' s.heap.objs.size (.tup [x, y]) := ⟨by show 2 ≤ sizeLine; decide, [u, u2], .cons ru (.cons ru2 .nil), ⟨_, T2, rfl, _, rfl⟩⟩
    have out : ∀ c : Addr, c ∉ [z, TI, TO, i1, i2] → c ≠ z ∧ c ≠ TO ∧ c ≠ i1 ∧ c ≠ i2 := fun c hb => ⟨fun q => hb (by simp [q]), fun q => hb (by simp [q]), fun q => hb (by simp [q]), fun q => hb (by simp [q])⟩
    have I1 : Inv X pins σ (upd H s.heap.objs.size (.tup [x, y])) { s with heap := h'' } :=
      I.turnedNew (t' := s.toks) (ch := [z, TI, TO, i1, i2]) (fun c o hb q => (sb.2 c (out c hb).1).trans (hk c o (out c hb).1 (out c hb).2.1 (out c hb).2.2.1 (out c hb).2.2.2 q)) hf (Nat.le_refl _) new
    refine ⟨.ref s.heap.objs.size, _, I1, rfl, ⟨_, x, y, rfl, I.hok.fresh (Nat.le_refl _), rfl, fun l hl => by rw [SqK.inj I hl hqx]; exact hx, fun l hl => by rw [SqK.inj I hl hqy]; exact hy⟩, ⟨z'', ?_, ⟨u, u2, ?_⟩, ?_, ?_⟩, fun c hcm => ?_⟩
    · exact (sb.2 _ D.TIz).trans (hk _ _ D.TIz D.TITO D.TIi1 D.TIi2 hTI)
    · exact (sb.2 _ D.TOz).trans TO'
    · exact h1'.at' fun o q => (sb.2 _ D.i1z).trans q
    · exact h2'.at' fun o q => (sb.2 _ D.i2z).trans q
    · have hlt : c < s.heap.objs.size := by
        have hcm' := hcm
        simp only [List.mem_cons, List.not_mem_nil, or_false] at hcm'
        rcases hcm' with rfl | rfl | rfl | rfl | rfl
        · exact zlt
        · exact Heap.lt_size hTI
        · exact Heap.lt_size hTO
        · exact h1.lt
        · exact h2.lt
      rw [upd_ne (Nat.ne_of_lt hlt)]; exact (hf c hcm).1
  done := by
    intro X hP hw hK hc i pins s σ H E I hf st hg
    subst hP hw hK
    obtain ⟨hz, hTI, ⟨x0, y0, hTO⟩, h1, h2⟩ := st
    obtain ⟨xs, ys, hqx, hqy, hend⟩ := hg
    obtain ⟨its, rv, p, _⟩ := SqK.get I hqx
    obtain ⟨its2, rv2, p2, _⟩ := SqK.get I hqy
    have e1 := rv.length
    have e2 := rv2.length
    have he : its.toArray[i]? = none ∨ its2.toArray[i]? = none := by
      rcases hend with q | q
      · exact .inl (by simp; omega)
      · exact .inr (by simp; omega)
    have out : ∀ c : Addr, c ∉ [z, TI, TO, i1, i2] → c ≠ z ∧ c ≠ TO ∧ c ≠ i1 ∧ c ≠ i2 := fun c hb => ⟨fun q => hb (by simp [q]), fun q => hb (by simp [q]), fun q => hb (by simp [q]), fun q => hb (by simp [q])⟩
    exact nextK_end (I.ok.hd hc) D hz hTI hTO h1 h2 p p2 he fun h' hk => ⟨rfl, I.turnedL (t' := s.toks) (ch := [z, TI, TO, i1, i2]) (fun c o hb q => hk c o (out c hb).1 (out c hb).2.1 (out c hb).2.2.1 (out c hb).2.2.2 q) hf⟩
  self := fun A i s Q E st h => wpAny_pyIter_zip st.1 h
def iZipK (K : PySem.W.Frag) (ta : TA) : TI := fun σ H R => ta σ H fun vs H1 => ∃ m n a b xs ys, vs = [.ref a, .ref b] ∧ SqK m K H1 a xs ∧ SqK n K H1 b ys ∧ R (ItzK m n K a b) H1
theorem pi_zipK {X : Cx} {e e2 : Expr} {ta : TA} {p pos tpos : Pos} {elts : List Expr} {kk : Nat} (hg : Gl X "zip") (hm : X.mg "zip" = none) (ha : PA X [e, e2] ta)
    (hs : starEach [e, e2] X.env = (false, eval e X.env) :: starEach [e2] X.env := by rfl) (hpl : (backTo pos (starEach [e2] X.env)).any (·.1) = false := by rfl) :
    PI X (.Tuple elts kk tpos) (.Call (.Name "zip" p) [e, e2] [] pos) (iZipK X.K ta) := by
  refine ⟨fun pins s σ H R I h => ?_⟩
  refine Call_ (ld_blt I hg hm PyProof.Rows.boot_zip (PyProof.Rows.callWith_type1 (thn (ha.run pos pins s σ H _ I h) fun us s1 ⟨vs, H1, I1, r1, q1⟩ => ?_) hs hpl))
  obtain ⟨m, n, a, b, xs, ys, ex, hqx, hqy, q⟩ := q1
  subst ex
  cases r1 with
  | cons r rr =>
    cases rr with
    | cons r' rr =>
      cases rr
      cases r
      cases r'
      obtain ⟨its, rv, p1, lt1⟩ := SqK.get I1 hqx
      obtain ⟨its2, rv2, p2, lt2⟩ := SqK.get I1 hqy
      refine call_zipK m n p1 p2 fun h' hz hTI hTO h1 h2 hsz hk => wpAny_pyIter_zip hz ?_
      have I2 : Inv X pins σ H1 { s1 with heap := h' } := I1.kept (t' := s1.toks) hk
      have T := turn_zipK (P := X.prog) (w := X.w) (K := X.K) (elts := elts) (kk := kk) (tpos := tpos) (m := m) (n := n) (PySem.W.ktu_apart s1.heap.objs.size a b lt1 lt2)
      have F5 : ∀ c ∈ [s1.heap.objs.size + 4, s1.heap.objs.size + 2, s1.heap.objs.size + 3, s1.heap.objs.size, s1.heap.objs.size + 1], FpOk X pins H1 c := fun c hcm => by
        have hle : s1.heap.objs.size ≤ c := by
          have e' : c = s1.heap.objs.size + 4 ∨ c = s1.heap.objs.size + 2 ∨ c = s1.heap.objs.size + 3 ∨ c = s1.heap.objs.size ∨ c = s1.heap.objs.size + 1 := by simpa using hcm
          rcases e' with q | q | q | q | q
          · rw [q]; exact Nat.le_add_right _ _
          · rw [q]; exact Nat.le_add_right _ _
          · rw [q]; exact Nat.le_add_right _ _
          · rw [q]; exact Nat.le_refl _
          · rw [q]; exact Nat.le_add_right _ _
        exact I1.fpOk hle (I1.hok.fresh hle)
      exact ⟨s1.heap.objs.size + 4, [s1.heap.objs.size + 4, s1.heap.objs.size + 2, s1.heap.objs.size + 3, s1.heap.objs.size, s1.heap.objs.size + 1], _, _, H1, rfl, I2, T, ⟨hz, hTI, ⟨_, _, hTO⟩, h1, h2⟩, F5, q⟩

/-! ### on data -/
def kdW : W → Kd
  | .d (.tuple _) => .t
  | _ => .l
theorem seeK_ok {K : PySem.W.Frag} {G H : Hp} {M : MM} {x : W} {v : V} {ws : List W} (s : Sim K G M H) (r : RelW K G x v) (h : seeA M x = some ws) : ∃ p vs, v = .ref p ∧ SqK (kdW x) K H p vs ∧ Paired (RelW K G) ws vs := by
  by_cases ht : ∃ ds, x = .d (.tuple ds)
  · obtain ⟨ds, rfl⟩ := ht
    cases h
    have r' : Dp K G v (.tuple ds) := r
    cases r' with
    | tup a b => exact ⟨_, _, rfl, s.ex.t a, dps_paired b⟩
  · have e : seeA M x = seeL M x := by
      unfold seeA
      split
      · exact absurd ⟨_, rfl⟩ ht
      · rfl
    rw [e] at h
    obtain ⟨p, vs, rfl, a, b⟩ := seeL_ok s r h
    have ek : kdW x = .l := by
      unfold kdW
      split
      · exact absurd ⟨_, rfl⟩ ht
      · rfl
    rw [ek]
    exact ⟨p, vs, rfl, a, b⟩
theorem seeA_st {M M' : MM} {x : W} {ws : List W} (h : seeA M x = some ws) (st : stL x ws M') : seeA M' x = some ws := by
  cases x with
  | d d => cases d <;> exact h
  | r z => exact see_st h st
def iZA (wa : WA) : WI := fun xq ρ M Q => wa xq ρ M fun xs M1 => match xs with
  | [x, y] => (match (seeA M1 x).bind allD, (seeA M1 y).bind allD with
    | some ds, some es => Q (zpW ds es) (fun M => stL x (ds.map W.d) M ∧ stL y (es.map W.d) M) M1
    | _, _ => False)
  | _ => False
theorem jok_zipK {K : PySem.W.Frag} {G : Hp} {M : MM} {x y : W} {ds es : List PyData} {p q : Addr} (r : RelW K G x (.ref p)) (r' : RelW K G y (.ref q)) (h : seeA M x = some (ds.map W.d)) (h' : seeA M y = some (es.map W.d)) :
    JOk K G (ItzK (kdW x) (kdW y) K p q) (zpW ds es) (fun M => stL x (ds.map W.d) M ∧ stL y (es.map W.d) M) := fun i G' M' H' e s st => by
  obtain ⟨p', vs, ep, sq, pr⟩ := seeK_ok s (r.ext e) (seeA_st h st.1)
  have ep' : p = p' := V.ref.inj ep
  subst ep'
  obtain ⟨q', us, eq, sq', pr'⟩ := seeK_ok s (r'.ext e) (seeA_st h' st.2)
  have eq' : q = q' := V.ref.inj eq
  subst eq'
  have hl := paired_len pr
  have hl' := paired_len pr'
  rw [List.length_map] at hl hl'
  rw [zpW_len]
  refine ⟨fun hi => ?_, fun hi => ?_⟩
  · have h1 : i < ds.length := by omega
    have h2 : i < es.length := by omega
    refine ⟨⟨vs, us, _, _, sq, sq', List.getElem?_eq_getElem (by omega), List.getElem?_eq_getElem (by omega)⟩, fun z H2 hy => ?_⟩
    obtain ⟨T, y1, y2, rfl, hT, rfl, f1, f2⟩ := hy
    have e1 := f1 vs sq
    have e2 := f2 us sq'
    have ed : (ds.map W.d)[i]? = some (.d ds[i]) := by rw [List.getElem?_map, List.getElem?_eq_getElem h1]; rfl
    have ee : (es.map W.d)[i]? = some (.d es[i]) := by rw [List.getElem?_map, List.getElem?_eq_getElem h2]; rfl
    obtain ⟨z1, g1, rr1⟩ := paired_at pr ed
    obtain ⟨z2, g2, rr2⟩ := paired_at pr' ee
    rw [e1] at g1; cases g1
    rw [e2] at g2; cases g2
    refine ⟨_, .d (.tuple [ds[i], es[i]]), Stp.dat s hT, zpW_at _ _ _ _ _ (List.getElem?_eq_getElem h1) (List.getElem?_eq_getElem h2), ?_⟩
    exact .tup (.inl (.inl upd_same)) (.cons ((Ex.new (s.free hT).2).dp rr1) (.cons ((Ex.new (s.free hT).2).dp rr2) .nil))
  · exact ⟨vs, us, sq, sq', by omega⟩
section
variable {X : Cx} {Wx : WX}
theorem di_zipA {e e2 : Expr} {wa : WA} {p pos tpos : Pos} {elts : List Expr} {kk : Nat} (hm : X.mg "zip" = none) (ha : DA X Wx [e, e2] wa) (hg : Gl X "zip" := by rfl)
    (hs : starEach [e, e2] X.env = (false, eval e X.env) :: starEach [e2] X.env := by rfl) (hpl : (backTo pos (starEach [e2] X.env)).any (·.1) = false := by rfl) :
    DI X Wx (.Tuple elts kk tpos) (.Call (.Name "zip" p) [e, e2] [] pos) (iZA wa) := by
  obtain ⟨t, p, s⟩ := ha
  refine ⟨_, pi_zipK hg hm p hs hpl, fun xq ρ M σ G H Q R rl h kk => ?_⟩
  refine s xq ρ M σ G H _ _ rl h fun vs H1 G1 M1 xs s1 r1 q1 => ?_
  match xs, q1 with
  | [x, y], q1 =>
    obtain ⟨v, u, rfl, rx, ry⟩ := paired2 r1
    have q1' : (match (seeA M1 x).bind allD, (seeA M1 y).bind allD with | some ds, some es => Q (zpW ds es) (fun M => stL x (ds.map W.d) M ∧ stL y (es.map W.d) M) M1 | _, _ => False) := q1
    cases e1 : (seeA M1 x).bind allD with
    | none => rw [e1] at q1'; exact q1'.elim
    | some ds =>
      cases e2 : (seeA M1 y).bind allD with
      | none => rw [e1, e2] at q1'; exact q1'.elim
      | some es =>
        rw [e1, e2] at q1'
        obtain ⟨ws, h1, h2⟩ := Option.bind_eq_some_iff.mp e1
        obtain ⟨ws', h1', h2'⟩ := Option.bind_eq_some_iff.mp e2
        rw [allD_eq h2] at h1
        rw [allD_eq h2'] at h1'
        obtain ⟨a, vs, rfl, sq, pr⟩ := seeK_ok s1.sim rx h1
        obtain ⟨b, us, rfl, sq', pr'⟩ := seeK_ok s1.sim ry h1'
        exact ⟨_, _, a, b, vs, us, rfl, sq, sq', kk _ _ _ _ _ _ s1 (jok_zipK rx ry h1 h1') q1'⟩
end
end DL
namespace DL
open PySem PySem.Spec PyProof.Rows L2
/-! ### what the head tells of a def -/
abbrev datD (x : Str) (st : Stmt) : He.DefD := ⟨(x, none), x, x, defArgs st, defBody st, defScope st, [], []⟩
theorem def_of {K : PySem.W.Frag} {h : Heap} {mg : Str → Option Value} {fa : List He.Fa} {fn : List He.DefD} (X : K.In h) (G : h.Ns mainGlobals mg) (c : He.SaysD fa fn K) (i j : Nat) {x : Str} {st : Stmt} {ps : List Str} (hi : fn[i]? = some (datD x st)) (hj : fa[j]? = some (.glo x))
    (hb : ∀ (kV doc pm : Value) (an : Option Addr) (cdv ct : Value) (us : List Value), us.length = ps.length → bindArgs (PySem.W.fnOf x x (defArgs st) (defBody st) (defScope st) .none kV doc pm an cdv ct) ⟨us, []⟩ = pure (ps.zip us)) : Def K mg x st ps := by
  obtain ⟨fd, F⟩ := c.def_ i hi
  have g := He.glo_ok X G (c.fact j hj)
  obtain ⟨oc, od, dV, kV, doc, pm, an, cdv, ct, osl, rfl, lk, hcd, hD, hK⟩ := F.ex
  rcases hD with ⟨_, rfl⟩ | ⟨e, _⟩
  · exact ⟨_, _, g, ⟨⟨oc, od, kV, doc, pm, an, cdv, ct, osl, rfl, lk, hcd⟩, F.kp⟩, hb kV doc pm an cdv ct⟩
  · exact absurd rfl e
theorem ki_of {K : PySem.W.Frag} {h : Heap} {mg : Str → Option Value} {fa : List He.Fa} {fn : List He.DefD} (X : K.In h) (G : h.Ns mainGlobals mg) (c : He.SaysD fa fn K) (j : Nat) {x : Str} {i : Int} (hj : fa[j]? = some (.int x i)) : KI mg x i := ⟨He.int_ok X G (c.fact j hj)⟩
/-- the law's own def, for the end -/
theorem law_of {P : Program} {w : World} {K : PySem.W.Frag} {mg : Str → Option Value} {k : Nat} {x p : Str} {ds : DSp} {f : Addr} (hf : mg x = some (.ref f)) (H : ∀ base : Heap, HasF P w K mg base k x [p] ds) (h0 : Heap) :
    ∃ fd : FuncData, (∀ (s : Shared) (u : Value), BindsTo s fd ⟨[u], []⟩ [(p, u)]) ∧ ∀ base : Heap, K.In base → base.Ns mainGlobals mg → FnD P w K mg base k f fd [p] (lift K ds) := by
  obtain ⟨f1, fd, g1, _, hb, ⟨oc, od, osl, lk⟩, _⟩ := H h0
  rw [hf] at g1
  cases g1
  refine ⟨fd, fun s u => .of_eq (hb [u] rfl), fun base _ _ => ?_⟩
  obtain ⟨f2, fd2, g2, _, _, ⟨oc2, od2, osl2, lk2⟩, F⟩ := H base
  rw [hf] at g2
  cases g2
  rw [lk] at lk2
  cases lk2
  exact F
end DL
namespace DL
open PySem PySem.Spec PyProof.Rows L2
/-! ### small facts for running bodies -/
theorem atI_ok {α : Type} (xs : List α) (n : Nat) (i : Int) (h : i = (n : Int)) : atI xs i = xs[n]? := by
  subst h
  unfold atI ixN
  rw [if_pos (Int.natCast_nonneg n)]
  by_cases hl : n < xs.length
  · rw [if_pos (by omega)]
    rfl
  · rw [if_neg (by omega), List.getElem?_eq_none (by omega)]
    rfl
theorem wSeq_i {A B : WS} {D : DEnds} {ρ : Env} {M : MM} (h : ∀ κ, κ = B D → A { D with nx := κ } ρ M) : wSeq A B D ρ M := h _ rfl
theorem at0 {α : Type} (x : α) (r : List α) : atI (x :: r) 0 = some x := atI_ok _ 0 _ rfl
theorem at1 {α : Type} (x y : α) (r : List α) : atI (x :: y :: r) 1 = some y := atI_ok _ 1 _ rfl
theorem at2 {α : Type} (x y z : α) (r : List α) : atI (x :: y :: z :: r) 2 = some z := atI_ok _ 2 _ rfl
theorem at3 {α : Type} (x y z u : α) (r : List α) : atI (x :: y :: z :: u :: r) 3 = some u := atI_ok _ 3 _ rfl
theorem at4 {α : Type} (x y z u v : α) (r : List α) : atI (x :: y :: z :: u :: v :: r) 4 = some v := atI_ok _ 4 _ rfl
theorem atm1 {α : Type} (xs : List α) (x : α) : atI (xs ++ [x]) (-1) = some x := atI_last xs x
theorem atm1' {α : Type} (x : α) : atI [x] (-1) = some x := rfl
theorem ix40 : ixN 4 0 = some 0 := rfl
theorem ix41 : ixN 4 1 = some 1 := rfl
theorem ix42 : ixN 4 2 = some 2 := rfl
theorem ix43 : ixN 4 3 = some 3 := rfl
theorem eqv_int (i j : Int) : PyData.eqv (.int i) (.int j) = decide (i = j) := by
  rw [PyData.eqv]
  by_cases h : i = j
  · subst h; simp
  · rw [decide_eq_false h]; exact beq_eq_false_iff_ne.mpr h
theorem eqv_none_int (j : Int) : PyData.eqv .none (.int j) = false := by rw [PyData.eqv]
theorem eqv_int_none (j : Int) : PyData.eqv (.int j) .none = false := by rw [PyData.eqv]
theorem eqv_none : PyData.eqv .none .none = true := by rw [PyData.eqv]
theorem eqv_lnil (ds : List PyData) : PyData.eqv (.list ds) (.list []) = ds.isEmpty := by
  rw [PyData.eqv]
  cases ds <;> simp [PyData.eqvAll]
theorem eqv_tnil (ds : List PyData) : PyData.eqv (.tuple ds) (.tuple []) = ds.isEmpty := by
  rw [PyData.eqv]
  cases ds <;> simp [PyData.eqvAll]
theorem eqv_str (x y : Str) : PyData.eqv (.str x) (.str y) = decide (x = y) := by
  rw [PyData.eqv]
  by_cases h : x = y
  · subst h; simp
  · rw [decide_eq_false h]; exact beq_eq_false_iff_ne.mpr h
theorem sh_int (i : Int) : SeqAt.shaped (.int i) = true := by
  unfold SeqAt.shaped; simp [PyData.canLay0, PyData.depth]
theorem sh_none : SeqAt.shaped .none = true := by
  unfold SeqAt.shaped; simp [PyData.canLay0, PyData.depth]
theorem sh_str (i : Str) (h : PyData.strOk i = true) : SeqAt.shaped (.str i) = true := by
  unfold SeqAt.shaped; simp [PyData.canLay0, PyData.depth, h]
theorem sh_bool (i : Bool) : SeqAt.shaped (.bool i) = true := by
  unfold SeqAt.shaped; simp [PyData.canLay0, PyData.depth]
theorem sh_all {ds : List PyData} {n : Nat} (h : ∀ d ∈ ds, PyData.canLay0 d = true ∧ PyData.depth d ≤ n) : PyData.canLayAll0 ds = true ∧ PyData.depthAll ds ≤ n := by
  induction ds with
  | nil => exact ⟨by simp [PyData.canLayAll0], by simp [PyData.depthAll]⟩
  | cons d r ih =>
    obtain ⟨a, b⟩ := ih fun d hd => h d (List.mem_cons_of_mem _ hd)
    obtain ⟨a', b'⟩ := h d List.mem_cons_self
    exact ⟨by simp [PyData.canLayAll0, a, a'], by simp only [PyData.depthAll]; omega⟩
/-- data of a depth -/
def Sh (n : Nat) (d : PyData) : Prop := PyData.canLay0 d = true ∧ PyData.depth d ≤ n
theorem Sh.ok {n : Nat} {d : PyData} (h : Sh n d) (hn : n ≤ 64) : SeqAt.shaped d = true := by
  unfold SeqAt.shaped
  rw [h.1, decide_eq_true (Nat.le_trans h.2 hn)]; rfl
theorem Sh.mono {n m : Nat} {d : PyData} (h : Sh n d) (hn : n ≤ m) : Sh m d := ⟨h.1, Nat.le_trans h.2 hn⟩
theorem Sh.int (i : Int) : Sh 0 (.int i) := ⟨by simp [PyData.canLay0], by simp [PyData.depth]⟩
theorem Sh.none : Sh 0 .none := ⟨by simp [PyData.canLay0], by simp [PyData.depth]⟩
theorem Sh.str (i : Str) (h : PyData.strOk i = true) : Sh 0 (.str i) := ⟨by simp [PyData.canLay0, h], by simp [PyData.depth]⟩
theorem Sh.bool (i : Bool) : Sh 0 (.bool i) := ⟨by simp [PyData.canLay0], by simp [PyData.depth]⟩
theorem Sh.list {n : Nat} {ds : List PyData} (h : ∀ d ∈ ds, Sh n d) : Sh (n + 1) (.list ds) := by
  obtain ⟨a, b⟩ := sh_all h
  exact ⟨by simp [PyData.canLay0, a], by simp only [PyData.depth]; omega⟩
theorem Sh.tuple {n : Nat} {ds : List PyData} (h : ∀ d ∈ ds, Sh n d) : Sh (n + 1) (.tuple ds) := by
  obtain ⟨a, b⟩ := sh_all h
  exact ⟨by simp [PyData.canLay0, a], by simp only [PyData.depth]; omega⟩
theorem sh_ints (ns : List Int) : SeqAt.shaped (.list (ns.map PyData.int)) = true := Sh.ok (Sh.list (n := 0) fun d hd => by
  obtain ⟨i, _, rfl⟩ := List.mem_map.mp hd
  exact Sh.int i) (by decide)
theorem sh_nil : SeqAt.shaped (.list []) = true := sh_ints []
theorem sh_tints (ns : List Int) : SeqAt.shaped (.tuple (ns.map PyData.int)) = true := Sh.ok (Sh.tuple (n := 0) fun d hd => by
  obtain ⟨i, _, rfl⟩ := List.mem_map.mp hd
  exact Sh.int i) (by decide)
theorem sh_tnil : SeqAt.shaped (.tuple []) = true := sh_tints []
end DL
namespace DL
open PySem PySem.Spec PyProof.Rows L2
local macro_rules | `(tactic| walk_at "dl") => `(tactic| simp only [wAsg, wOp, wVar, wC, wgN, wgTup, wgCons, wgNil, wgSub, setW, wIf, wTest, wNext, wRet, wRetN, wDrop, wAndT, wOrT, wNotT, wAndV, wOrV, wNotV, wIfE, wNeg, wNil, wCons, wTup, wTupR, wLst, wBlt, wCall, wFrz, wFz, frz, wSl, wNoP, wSoP, wPar2, wPar3, wMethL, mAppend, isLst,
  wRev, wInR, wLenSet, bStr, bMax2, bMin2, wChain, wLc, wipeW, wYes, xq0, mkL, mkT, allD, allD_map, seeL, seeD, seeT, seeS, ownL, oIx, ixW, oAdd, oSub, oMul, oMod, oDiv, oPow, oLt, oLe, oGt, oGe, oB, isInts, oEq, oIsN, isNon, oIsB, oIn, oCat, oRep, bLen, bInt, bAbs, bList, bTuple, seeA, bSum, bInts, bAll, bAny, bBools, bIsi, tyName, bReprS,
  wFor, iR1, iR2, iS, iE, iEB, enW, iZ, stL, startD, dEnds, fin, at0, at1, at2, at3, at4, atm1, atm1', ix40, ix41, ix42, ix43, eqv_int, eqv_none_int, eqv_int_none, eqv_none, eqv_lnil, eqv_tnil, eqv_str, sh_int, sh_none, sh_bool, sh_ints, sh_nil, sh_tints, sh_tnil,
  kit_NoneType_bool, kit_NoneType_int, kit_NoneType_str, kit_NoneType_list, kit_NoneType_tuple, kit_bool_bool, kit_bool_int, kit_bool_str, kit_bool_list, kit_bool_tuple, kit_int_bool, kit_int_int, kit_int_str, kit_int_list, kit_int_tuple, kit_str_bool, kit_str_int, kit_str_str, kit_str_list, kit_str_tuple,
  kit_list_bool, kit_list_int, kit_list_str, kit_list_list, kit_list_tuple, kit_tuple_bool, kit_tuple_int, kit_tuple_str, kit_tuple_list, kit_tuple_tuple, kit_dict_bool, kit_dict_int, kit_dict_str, kit_dict_list, kit_dict_tuple,
  List.map_cons, List.map_nil, List.length_cons, List.length_nil, List.length_map, List.replicate, List.cons_append, List.nil_append, List.getElem?_cons_zero, List.getElem?_cons_succ, List.set_cons_zero, List.set_cons_succ, List.isEmpty_map,
  Bool.false_eq_true, reduceCtorEq, Nat.reduceAdd, Nat.reduceSub, Nat.reduceLeDiff, Option.map_some, Option.bind_some, true_and, and_true, decide_eq_true_eq, Bool.not_eq_true', Bool.not_true, Bool.not_false, decide_eq_false_iff_not, if_true, if_false, ite_true, ite_false, reduceIte, mset_same])
/-- a deck at a, with at most so many draws -/
def Dk (M : MM) (a : Addr) (c : Int) : Prop := ∃ (cells : List Int) (p r n : Int), M a = some (.lst [.d (.list (cells.map .int)), .d (.int p), .d (.int r), .d (.int n)]) ∧ 0 ≤ n ∧ n ≤ c
def sp__law_draw : DSp := fun ws M R xr => ∃ a c m, ws = [.r (.ref a), .d (.int m)] ∧ Dk M a c ∧ c < 1000000000 ∧ 0 < m ∧ m < 1073741824 ∧
  ∀ n M', 0 ≤ n → n < m → Dk M' a (c + 1) → (∀ b, b ≠ a → M' b = M b) → R (.d (.int n)) M'
def w__law_draw : WS := (wSeq (wAsg (wOp oAdd (wOp oIx (wVar 0) (wC (.d (.int 3)))) (wC (.d (.int 1)))) (wgSub (wVar 0) (wC (.d (.int 3)))))
    (wSeq (wIf (wTest (wOp oGt (wOp oIx (wVar 0) (wC (.d (.int 2)))) (wC (.d (.int 0))))) (wSeq (wAsg (wOp oMod (wBlt bInt (wCons (wOp oIx (wVar 0) (wC (.d (.int 2)))) wNil)) (wVar 1)) (wgN 2))
    (wSeq (wAsg (wOp oDiv (wOp oIx (wVar 0) (wC (.d (.int 2)))) (wVar 1)) (wgSub (wVar 0) (wC (.d (.int 2)))))
    (wRet (wVar 2)))) wNext)
    (wSeq (wAsg (wC (.d (.int 43))) (wgN 3))
    (wSeq (wIf (wTest (wOp (oEq true) (wOp oIx (wVar 0) (wC (.d (.int 0)))) (wLst false wNil))) (wAsg (wOp oIx (wOp oIx (wVar 0) (wC (.d (.int 0)))) (wOp oMod (wBlt bInt (wCons (wOp oIx (wVar 0) (wC (.d (.int 1)))) wNil)) (wBlt bLen (wCons (wOp oIx (wVar 0) (wC (.d (.int 0)))) wNil)))) (wgN 3)) wNext)
    (wSeq (wAsg (wOp oAdd (wOp oIx (wVar 0) (wC (.d (.int 1)))) (wC (.d (.int 1)))) (wgSub (wVar 0) (wC (.d (.int 1)))))
    (wSeq (wIf (wAndT (wTest (wOp oGe (wBlt bAbs (wCons (wVar 3) wNil)) (wOp oPow (wC (.d (.int 10))) (wC (.d (.int 18)))))) (wTest (wOp oLe (wOp oIx (wVar 0) (wC (.d (.int 1)))) (wBlt bLen (wCons (wOp oIx (wVar 0) (wC (.d (.int 0)))) wNil))))) (wSeq (wAsg (wOp oDiv (wBlt bAbs (wCons (wVar 3) wNil)) (wVar 1)) (wgSub (wVar 0) (wC (.d (.int 2)))))
    (wRet (wOp oMod (wBlt bInt (wCons (wBlt bAbs (wCons (wVar 3) wNil)) wNil)) (wVar 1)))) wNext)
    (wSeq (wAsg (wOp oMod (wOp oPow (wBlt bInt (wCons (wOp oAdd (wOp oMod (wBlt bInt (wCons (wVar 3) wNil)) (wC (.d (.int 2147483629)))) (wOp oMul (wC (.d (.int 15485863))) (wOp oIx (wVar 0) (wC (.d (.int 3)))))) wNil)) (wC (.d (.int 5)))) (wC (.d (.int 2147483647)))) (wgN 4))
    (wSeq (wAsg (wOp oMod (wOp oPow (wBlt bInt (wCons (wOp oAdd (wOp oMul (wVar 4) (wOp oAdd (wOp oMul (wC (.d (.int 2))) (wOp oIx (wVar 0) (wC (.d (.int 3))))) (wC (.d (.int 3))))) (wC (.d (.int 6101)))) wNil)) (wC (.d (.int 3)))) (wC (.d (.int 2147483587)))) (wgN 4))
    (wRet (wOp oMod (wOp oDiv (wVar 4) (wC (.d (.int 64)))) (wVar 1)))))))))))
theorem mod_rng {m : Int} (h : 0 < m) (i : Int) : 0 ≤ i % m ∧ i % m < m := ⟨Int.emod_nonneg _ (by omega), Int.emod_lt_of_pos _ h⟩
theorem pure__law_draw (ws : List W) (M : MM) (R : KW) (xr : XR) (h : sp__law_draw ws M R xr) : w__law_draw (dEnds R xr) (startD ["_law_deck_here", "_law_many", "_law_found", "_law_cell", "_law_mixed"] ws) M := by
  obtain ⟨a, c, m, rfl, ⟨cells, p, r, n, hM, h0, h1⟩, hc, hm0, hm1, k⟩ := h
  -- the end of every way
  have fin' : ∀ (p' r' : Int) (x : Int) (M' : MM), M' = mset M a (.lst [.d (.list (cells.map .int)), .d (.int p'), .d (.int r'), .d (.int (n + 1))]) → 0 ≤ x → x < m → ∃ M'', Sub M'' M' ∧ R (.d (.int x)) M'' := fun p' r' x M' e hx0 hx1 => by
    subst e
    exact ⟨_, Sub.refl _, k x _ hx0 hx1 ⟨cells, p', r', n + 1, mset_same, by omega, by omega⟩ fun b hb => mset_ne hb⟩
  unfold w__law_draw
  refine wSeq_i fun _ _ => ?_
  walk_at "dl"
  simp only [hM]
  walk_at "dl"
  subst_vars
  refine wSeq_i fun κ hκ => ?_
  walk_at "dl"
  by_cases hr : 0 < r
  · rw [if_pos hr]
    obtain ⟨e1, e2⟩ := mod_rng hm0 r
    refine wSeq_i fun _ _ => ?_
    walk_at "dl"
    refine ⟨hm0, ?_⟩
    subst_vars
    refine wSeq_i fun _ _ => ?_
    walk_at "dl"
    refine ⟨⟨hm0, hm1⟩, ?_⟩
    subst_vars
    walk_at "dl"
    exact fin' p (r / m) (r % m) _ mset_mset e1 e2
  · rw [if_neg hr]
    subst hκ
    refine wSeq_i fun _ _ => ?_
    walk_at "dl"
    subst_vars
    refine wSeq_i fun _ _ => ?_
    walk_at "dl"
    have key : ∀ (x : Int) (κ : PySem.Str → Prop), True := fun _ _ => trivial
    generalize hMM : mset M a _ = M1
    have hM1 : M1 a = some (.lst [.d (.list (cells.map .int)), .d (.int p), .d (.int r), .d (.int (n + 1))]) := by rw [← hMM]; exact mset_same
    -- behind the cell is taken
    have rest : ∀ (x : Int) (κ : Env → MM → Prop), κ = wSeq (wAsg (wOp oAdd (wOp oIx (wVar 0) (wC (.d (.int 1)))) (wC (.d (.int 1)))) (wgSub (wVar 0) (wC (.d (.int 1)))))
        (wSeq (wIf (wAndT (wTest (wOp oGe (wBlt bAbs (wCons (wVar 3) wNil)) (wOp oPow (wC (.d (.int 10))) (wC (.d (.int 18)))))) (wTest (wOp oLe (wOp oIx (wVar 0) (wC (.d (.int 1)))) (wBlt bLen (wCons (wOp oIx (wVar 0) (wC (.d (.int 0)))) wNil))))) (wSeq (wAsg (wOp oDiv (wBlt bAbs (wCons (wVar 3) wNil)) (wVar 1)) (wgSub (wVar 0) (wC (.d (.int 2)))))
        (wRet (wOp oMod (wBlt bInt (wCons (wBlt bAbs (wCons (wVar 3) wNil)) wNil)) (wVar 1)))) wNext)
        (wSeq (wAsg (wOp oMod (wOp oPow (wBlt bInt (wCons (wOp oAdd (wOp oMod (wBlt bInt (wCons (wVar 3) wNil)) (wC (.d (.int 2147483629)))) (wOp oMul (wC (.d (.int 15485863))) (wOp oIx (wVar 0) (wC (.d (.int 3)))))) wNil)) (wC (.d (.int 5)))) (wC (.d (.int 2147483647)))) (wgN 4))
        (wSeq (wAsg (wOp oMod (wOp oPow (wBlt bInt (wCons (wOp oAdd (wOp oMul (wVar 4) (wOp oAdd (wOp oMul (wC (.d (.int 2))) (wOp oIx (wVar 0) (wC (.d (.int 3))))) (wC (.d (.int 3))))) (wC (.d (.int 6101)))) wNil)) (wC (.d (.int 3)))) (wC (.d (.int 2147483587)))) (wgN 4))
        (wRet (wOp oMod (wOp oDiv (wVar 4) (wC (.d (.int 64)))) (wVar 1)))))) (dEnds R xr) → κ [some (.r (.ref a)), some (.d (.int m)), none, some (.d (.int x)), none] M1 := fun x κ hκ => by
      subst hκ
      refine wSeq_i fun κ1 hκ1 => ?_
      walk_at "dl"
      simp only [hM1]
      walk_at "dl"
      subst hκ1
      refine wSeq_i fun κ hκ => ?_
      walk_at "dl"
      refine ⟨⟨by decide, by decide, by decide⟩, ?_⟩
      have more : κ [some (.r (.ref a)), some (.d (.int m)), none, some (.d (.int x)), none] (mset M1 a (.lst [.d (.list (cells.map .int)), .d (.int (p + 1)), .d (.int r), .d (.int (n + 1))])) := by
        subst hκ
        have hM2 : (mset M1 a (.lst [.d (.list (cells.map .int)), .d (.int (p + 1)), .d (.int r), .d (.int (n + 1))]) : MM) a = some (.lst [.d (.list (cells.map .int)), .d (.int (p + 1)), .d (.int r), .d (.int (n + 1))]) := mset_same
        obtain ⟨x0, x1⟩ := mod_rng (m := 2147483629) (by decide) x
        refine wSeq_i fun κ1 hκ1 => ?_
        walk_at "dl"
        refine ⟨by decide, .inl ⟨by decide, by decide⟩, ⟨by decide, by decide, ?_⟩, by decide, ?_⟩
        · have : (x % 2147483629 + 15485863 * (n + 1)).natAbs < 2 ^ 64 := by omega
          exact this
        generalize hy : (x % 2147483629 + 15485863 * (n + 1)) ^ Int.toNat 5 % 2147483647 = y
        have hy2 := mod_rng (m := 2147483647) (by decide) ((x % 2147483629 + 15485863 * (n + 1)) ^ Int.toNat 5)
        rw [hy] at hy2
        subst hκ1
        refine wSeq_i fun κ1 hκ1 => ?_
        walk_at "dl"
        refine ⟨.inl ⟨by decide, by decide⟩, .inl ⟨by omega, by omega⟩, ⟨by decide, by decide, ?_⟩, by decide, ?_⟩
        · have h3 : 0 ≤ y * (2 * (n + 1) + 3) := Int.mul_nonneg hy2.1 (by omega)
          have h4 : y * (2 * (n + 1) + 3) ≤ 2147483647 * (2 * (n + 1) + 3) := Int.mul_le_mul_of_nonneg_right (by omega) (by omega)
          have : (y * (2 * (n + 1) + 3) + 6101).natAbs < 2 ^ 64 := by omega
          exact this
        subst hκ1
        walk_at "dl"
        refine ⟨⟨by decide, by decide⟩, hm0, ?_⟩
        obtain ⟨e1, e2⟩ := mod_rng hm0 ((y * (2 * (n + 1) + 3) + 6101) ^ Int.toNat 3 % 2147483587 / 64)
        exact fin' (p + 1) r _ _ (by rw [← hMM, mset_mset]) e1 e2
      by_cases hbb : (10 : Int) ^ Int.toNat 18 ≤ if x < 0 then -x else x
      · rw [if_pos hbb]
        by_cases hpl : p + 1 ≤ (cells.length : Int)
        · rw [if_pos hpl]
          refine wSeq_i fun κ1 hκ1 => ?_
          walk_at "dl"
          refine ⟨⟨hm0, hm1⟩, ?_⟩
          subst hκ1
          walk_at "dl"
          refine ⟨hm0, ?_⟩
          obtain ⟨e1, e2⟩ := mod_rng hm0 (if x < 0 then -x else x)
          exact fin' (p + 1) ((if x < 0 then -x else x) / m) _ _ (by rw [← hMM, mset_mset, mset_mset]) e1 e2
        · rw [if_neg hpl]
          exact more
      · rw [if_neg hbb]
        exact more
    by_cases hcc : cells.isEmpty = false
    · rw [if_pos hcc]
      have hlen : 0 < cells.length := by
        cases cells with
        | nil => cases hcc
        | cons x r => simp
      refine ⟨by omega, ?_⟩
      obtain ⟨q0, q1⟩ := mod_rng (m := (cells.length : Int)) (by omega) p
      rw [atI_ok _ (p % (cells.length : Int)).toNat _ (by omega), List.getElem?_map, List.getElem?_map, List.getElem?_eq_getElem (show (p % (cells.length : Int)).toNat < cells.length by omega)]
      exact rest _ _ (by assumption)
    · rw [if_neg hcc]
      exact rest _ _ (by assumption)
end DL
namespace DL
open PySem PySem.Spec PyProof.Rows L2
local macro_rules | `(tactic| walk_at "dl") => `(tactic| simp only [wAsg, wOp, wVar, wC, wgN, wgTup, wgCons, wgNil, wgSub, setW, wIf, wTest, wNext, wRet, wRetN, wDrop, wAndT, wOrT, wNotT, wAndV, wOrV, wNotV, wIfE, wNeg, wNil, wCons, wTup, wTupR, wLst, wBlt, wCall, wFrz, wFz, frz, wSl, wNoP, wSoP, wPar2, wPar3, wMethL, mAppend, isLst,
  wRev, wInR, wLenSet, bStr, bMax2, bMin2, wChain, wLc, wipeW, wYes, xq0, mkL, mkT, allD, allD_map, seeL, seeD, seeT, seeS, ownL, oIx, ixW, oAdd, oSub, oMul, oMod, oDiv, oPow, oLt, oLe, oGt, oGe, oB, isInts, oEq, oIsN, isNon, oIsB, oIn, oCat, oRep, bLen, bInt, bAbs, bList, bTuple, seeA, bSum, bInts, bAll, bAny, bBools, bIsi, tyName, bReprS,
  wFor, iR1, iR2, iS, iE, iEB, enW, iZ, stL, startD, dEnds, fin, at0, at1, at2, at3, at4, atm1, atm1', ix40, ix41, ix42, ix43, eqv_int, eqv_none_int, eqv_int_none, eqv_none, eqv_lnil, eqv_tnil, eqv_str, sh_int, sh_none, sh_bool, sh_ints, sh_nil, sh_tints, sh_tnil,
  kit_NoneType_bool, kit_NoneType_int, kit_NoneType_str, kit_NoneType_list, kit_NoneType_tuple, kit_bool_bool, kit_bool_int, kit_bool_str, kit_bool_list, kit_bool_tuple, kit_int_bool, kit_int_int, kit_int_str, kit_int_list, kit_int_tuple, kit_str_bool, kit_str_int, kit_str_str, kit_str_list, kit_str_tuple,
  kit_list_bool, kit_list_int, kit_list_str, kit_list_list, kit_list_tuple, kit_tuple_bool, kit_tuple_int, kit_tuple_str, kit_tuple_list, kit_tuple_tuple, kit_dict_bool, kit_dict_int, kit_dict_str, kit_dict_list, kit_dict_tuple,
  List.map_cons, List.map_nil, List.length_cons, List.length_nil, List.length_map, List.replicate, List.cons_append, List.nil_append, List.getElem?_cons_zero, List.getElem?_cons_succ, List.set_cons_zero, List.set_cons_succ, List.isEmpty_map,
  Bool.false_eq_true, reduceCtorEq, Nat.reduceAdd, Nat.reduceSub, Nat.reduceLeDiff, Option.map_some, Option.bind_some, true_and, and_true, decide_eq_true_eq, Bool.not_eq_true', Bool.not_true, Bool.not_false, decide_eq_false_iff_not, if_true, if_false, ite_true, ite_false, reduceIte, mset_same])
/-! ### nets, routes as plain things -/
structure Net where
  p : Int
  ls : List (Int × Int)
def prD (x : Int × Int) : PyData := .tuple [.int x.1, .int x.2]
def Net.d (N : Net) : PyData := .tuple [.int N.p, .tuple (N.ls.map prD)]
structure Net.Ok (N : Net) : Prop where
  p2 : 2 ≤ N.p
  p6 : N.p ≤ 6
  l1 : 1 ≤ N.ls.length
  l8 : N.ls.length ≤ 8
  ln : ∀ x ∈ N.ls, 0 ≤ x.1 ∧ x.1 < x.2 ∧ x.2 < N.p
def isIntD (v : PyData) (least : Int) : Bool := match v with
  | .int i => decide (least ≤ i)
  | _ => false
def oD : Option Int → PyData
  | some i => .int i
  | none => .none
def nextP (ls : List (Int × Int)) (p : Int) (l : Nat) : Option Int := match ls[l]? with
  | some (a, b) => if p = a then some b else if p = b then some a else none
  | none => none
def walkP (ls : List (Int × Int)) : Option Int → List Nat → List (Option Int)
  | none, _ => []
  | some _, [] => []
  | some p, l :: r => nextP ls p l :: walkP ls (nextP ls p l) r
def placesP (N : Net) (s : Int) (ls : List Nat) : List (Option Int) := some s :: walkP N.ls (some s) ls
def nD (n : Nat) : PyData := .int (n : Int)
def rD (s : Int) (ls : List Nat) : PyData := .tuple [.int s, .tuple (ls.map nD)]
/-- numbers of lines -/
def LnOk (N : Net) (ls : List Nat) : Prop := ∀ l ∈ ls, l < N.ls.length

/-! ### what the defs of the package promise -/
def sp_is_integer : DSp := fun ws M R xr => ∃ v i, ws = [.d v, .d (.int i)] ∧ R (.d (.bool (isIntD v i))) M
def sp_next_place : DSp := fun ws M R xr => ∃ (N : Net) (p : Int) (l : Nat), ws = [.d N.d, .d (.int p), .d (nD l)] ∧ l < N.ls.length ∧ R (.d (oD (nextP N.ls p l))) M
def sp_places_of : DSp := fun ws M R xr => ∃ (N : Net) (s : Int) (ls : List Nat), ws = [.d N.d, .d (rD s ls)] ∧ LnOk N ls ∧ ls.length ≤ 100000 ∧ R (.d (.list ((placesP N s ls).map oD))) M
def w_is_integer : WS := (wRet (wAndV (wBlt bIsi (wCons (wVar 0) (wCons (wC (.r (.ty "int"))) wNil))) (wAndV (wNotV (wBlt bIsi (wCons (wVar 0) (wCons (wC (.r (.ty "bool"))) wNil)))) (wOp oGe (wVar 0) (wVar 1)))))
def w_next_place : WS := (wSeq (wAsg (wOp oIx (wOp oIx (wVar 0) (wC (.d (.int 1)))) (wVar 2)) (wgTup 2 (wgCons (wgN 3) (wgCons (wgN 4) wgNil))))
    (wSeq (wIf (wTest (wOp (oIn true) (wVar 1) (wTup (wCons (wVar 3) (wCons (wVar 4) wNil))))) (wRet (wC (.d .none))) wNext)
    (wRet (wIfE (wTest (wOp (oEq false) (wVar 1) (wVar 3))) (wVar 4) (wVar 3)))))
def w_places_of (sp_next_place : DSp) : WS := (wSeq (wAsg (wLst true (wCons (wOp oIx (wVar 1) (wC (.d (.int 0)))) wNil)) (wgN 2))
    (wSeq (wFor (iS (wOp oIx (wVar 1) (wC (.d (.int 1))))) (wgN 3) (wIf (wTest (wOp (oIsN true) (wOp oIx (wVar 2) (wNeg (wC (.d (.int 1))))) (wC (.d .none)))) (wDrop (wMethL mAppend (wVar 2) (wCons (wCall sp_next_place (wCons (wVar 0) (wCons (wOp oIx (wVar 2) (wNeg (wC (.d (.int 1))))) (wCons (wVar 3) wNil)))) wNil))) wNext))
    (wRet (wFrz (wVar 2)))))
def w_is_route (sp_is_integer : DSp) (sp_places_of : DSp) : WS := (wSeq (wIf (wOrT (wNotT (wTest (wBlt bIsi (wCons (wVar 1) (wCons (wC (.r (.ty "tuple"))) wNil))))) (wOrT (wTest (wOp (oEq true) (wBlt bLen (wCons (wVar 1) wNil)) (wC (.d (.int 2))))) (wOrT (wNotT (wTest (wCall sp_is_integer (wCons (wOp oIx (wVar 1) (wC (.d (.int 0)))) (wCons (wC (.d (.int 0))) wNil))))) (wTest (wOp oGe (wOp oIx (wVar 1) (wC (.d (.int 0)))) (wOp oIx (wVar 0) (wC (.d (.int 0))))))))) (wRet (wC (.d (.bool false)))) wNext)
    (wSeq (wIf (wOrT (wNotT (wTest (wBlt bIsi (wCons (wOp oIx (wVar 1) (wC (.d (.int 1)))) (wCons (wC (.r (.ty "tuple"))) wNil))))) (wTest (wOp (oEq false) (wOp oIx (wVar 1) (wC (.d (.int 1)))) (wTup wNil)))) (wRet (wC (.d (.bool false)))) wNext)
    (wSeq (wIf (wNotT (wTest (wBlt bAll (wCons (wLc false (iS (wOp oIx (wVar 1) (wC (.d (.int 1))))) (wgN 3) wYes (wAndV (wCall sp_is_integer (wCons (wVar 3) (wCons (wC (.d (.int 0))) wNil))) (wOp oLt (wVar 3) (wBlt bLen (wCons (wOp oIx (wVar 0) (wC (.d (.int 1)))) wNil)))) [3]) wNil)))) (wRet (wC (.d (.bool false)))) wNext)
    (wSeq (wAsg (wCall sp_places_of (wCons (wVar 0) (wCons (wVar 1) wNil))) (wgN 2))
    (wRet (wAndV (wOp (oIn true) (wC (.d .none)) (wVar 2)) (wOp (oEq false) (wLenSet (wCons (wVar 2) wNil)) (wBlt bLen (wCons (wVar 2) wNil)))))))))


theorem pure_is_integer (ws : List W) (M : MM) (R : KW) (xr : XR) (h : sp_is_integer ws M R xr) : w_is_integer (dEnds R xr) (startD ["value", "least"] ws) M := by
  obtain ⟨v, i, rfl, k⟩ := h
  unfold w_is_integer
  cases v <;> walk_at "dl" <;> first | exact ⟨_, Sub.refl _, k⟩ | skip
theorem pure_next_place (ws : List W) (M : MM) (R : KW) (xr : XR) (h : sp_next_place ws M R xr) : w_next_place (dEnds R xr) (startD ["net", "place", "line", "first", "second"] ws) M := by
  obtain ⟨N, p, l, rfl, hl, k⟩ := h
  unfold w_next_place
  refine wSeq_i fun κ hκ => ?_
  unfold Net.d nD
  walk_at "dl"
  rw [atI_ok _ l _ rfl, List.getElem?_map, List.getElem?_eq_getElem hl]
  have e : nextP N.ls p l = if p = (N.ls[l]).1 then some (N.ls[l]).2 else if p = (N.ls[l]).2 then some (N.ls[l]).1 else none := by
    unfold nextP
    rw [List.getElem?_eq_getElem hl]
  rw [e] at k
  generalize N.ls[l] = x at k ⊢
  obtain ⟨a, b⟩ := x
  unfold prD
  walk_at "dl"
  subst hκ
  refine wSeq_i fun κ hκ => ?_
  walk_at "dl"
  simp only [flatD, List.all_cons, List.all_nil, List.any_cons, List.any_nil, eqv_int, Bool.and_true, Bool.or_false, Bool.true_and, true_and]
  by_cases h1 : a = p
  · subst h1
    simp only [decide_true, Bool.true_or, Bool.not_true, Bool.false_eq_true, if_false]
    subst hκ
    walk_at "dl"
    simp only [if_true] at k ⊢
    exact ⟨_, Sub.refl _, k⟩
  · have h1' : ¬ p = a := fun e => h1 e.symm
    by_cases h2 : b = p
    · subst h2
      simp only [h1, decide_false, decide_true, Bool.or_true, Bool.not_true, Bool.false_eq_true, if_false]
      subst hκ
      walk_at "dl"
      simp only [if_neg h1', if_true] at k ⊢
      exact ⟨_, Sub.refl _, k⟩
    · have h2' : ¬ p = b := fun e => h2 e.symm
      simp only [h1, h2, decide_false, Bool.or_false, Bool.not_false, if_true]
      simp only [if_neg h1', if_neg h2'] at k
      exact ⟨_, Sub.refl _, k⟩
theorem pure_places_of (ws : List W) (M : MM) (R : KW) (xr : XR) (h : sp_places_of ws M R xr) : w_places_of sp_next_place (dEnds R xr) (startD ["net", "route", "found", "line"] ws) M := by
  obtain ⟨N, s, ls, rfl, hl, hz, k⟩ := h
  unfold w_places_of
  refine wSeq_i fun κ hκ => ?_
  unfold rD
  walk_at "dl"
  intro p hp
  subst hκ
  refine wSeq_i fun κ hκ => ?_
  walk_at "dl"
  -- the loop: what is found so far ends in o; behind it the rest of the walk
  have loop : ∀ (ls' : List Nat) (acc : List (Option Int)) (o : Option Int) (x : Option W) (M' : MM), LnOk N ls' → acc.length + 1 + ls'.length ≤ 100001 → M' p = some (.lst ((acc ++ [o]).map fun q => .d (oD q))) → (∀ b, b ≠ p → M' b = M b) →
      (∀ (x : Option W) (M'' : MM), M'' p = some (.lst ((acc ++ [o] ++ walkP N.ls o ls').map fun q => .d (oD q))) → (∀ b, b ≠ p → M'' b = M b) → κ [some (.d N.d), some (.d (rD s ls)), some (.r (.ref p)), x] M'') →
      ∀ D : DEnds, D.nx = κ → wIter (wgN 3) (wIf (wTest (wOp (oIsN true) (wOp oIx (wVar 2) (wNeg (wC (.d (.int 1))))) (wC (.d .none)))) (wDrop (wMethL mAppend (wVar 2) (wCons (wCall sp_next_place (wCons (wVar 0) (wCons (wOp oIx (wVar 2) (wNeg (wC (.d (.int 1))))) (wCons (wVar 3) wNil)))) wNil))) wNext)
        (fun _ => True) ((ls'.map nD).map W.d) D [some (.d N.d), some (.d (rD s ls)), some (.r (.ref p)), x] M' := by
    intro ls'
    induction ls' with
    | nil =>
      intro acc o x M' _ _ h1 h2 h3 D hD
      refine ⟨trivial, ?_⟩
      rw [hD]
      refine h3 x M' ?_ h2
      have e : walkP N.ls o [] = [] := by cases o <;> rfl
      rw [e, List.append_nil]; exact h1
    | cons l r ih =>
      intro acc o x M' hl hz h1 h2 h3 D hD
      have hl1 : l < N.ls.length := hl l List.mem_cons_self
      have hlr : LnOk N r := fun z hz => hl z (List.mem_cons_of_mem _ hz)
      rw [List.length_cons] at hz
      refine ⟨trivial, ?_⟩
      walk_at "dl"
      simp only [h1, List.map_append, List.map_cons, List.map_nil, atm1]
      cases o with
      | none =>
        simp only [oD, isNon, Bool.not_true, Bool.false_eq_true, if_false]
        refine ih acc none _ M' hlr (by omega) h1 h2 (fun x' M'' e1 e2 => h3 x' M'' ?_ e2) D hD
        have e : walkP N.ls none r = [] := by cases r <;> rfl
        rw [e] at e1
        exact e1
      | some q =>
        simp only [oD, isNon, Bool.not_false, if_true]
        refine ⟨rfl, N, q, l, rfl, hl1, ?_⟩
        simp only [h1]
        refine ⟨by rw [List.length_map, List.length_append, List.length_singleton]; omega, ?_⟩
        have e : (acc ++ [some q] ++ walkP N.ls (some q) (l :: r)) = (acc ++ [some q]) ++ [nextP N.ls q l] ++ walkP N.ls (nextP N.ls q l) r := by
          show acc ++ [some q] ++ (nextP N.ls q l :: walkP N.ls (nextP N.ls q l) r) = _
          rw [List.append_assoc (acc ++ [some q]) [nextP N.ls q l]]; rfl
        rw [e] at h3
        refine ih (acc ++ [some q]) (nextP N.ls q l) _ _ hlr (by rw [List.length_append, List.length_singleton]; omega) ?_ (fun b hb => by rw [mset_ne hb]; exact h2 b hb) h3 D hD
        rw [mset_same, List.map_append (l₁ := acc ++ [some q])]; rfl
  refine loop ls [] (some s) none (mset M p _) hl (by simp; omega) mset_same (fun b hb => mset_ne hb) (fun x M'' e1 e2 => ?_) _ rfl
  subst hκ
  walk_at "dl"
  simp only [e1]
  have e3 : ([] ++ [some s] ++ walkP N.ls (some s) ls).map (fun q => W.d (oD q)) = ((placesP N s ls).map oD).map W.d := by
    rw [List.map_map]; rfl
  rw [e3, allD_map]
  refine ⟨M, fun b mo hb => ?_, k⟩
  have ne : b ≠ p := fun z => by subst z; rw [hp] at hb; cases hb
  rw [mdel_ne ne, e2 b ne]; exact hb
end DL
namespace DL
open PySem PySem.Spec PyProof.Rows L2
local macro_rules | `(tactic| walk_at "dl") => `(tactic| simp only [wAsg, wOp, wVar, wC, wgN, wgTup, wgCons, wgNil, wgSub, setW, wIf, wTest, wNext, wRet, wRetN, wDrop, wAndT, wOrT, wNotT, wAndV, wOrV, wNotV, wIfE, wNeg, wNil, wCons, wTup, wTupR, wLst, wBlt, wCall, wFrz, wFz, frz, wSl, wNoP, wSoP, wPar2, wPar3, wMethL, mAppend, isLst,
  wRev, wInR, wLenSet, bStr, bMax2, bMin2, wChain, wLc, wipeW, wYes, xq0, mkL, mkT, allD, allD_map, seeL, seeD, seeT, seeS, ownL, oIx, ixW, oAdd, oSub, oMul, oMod, oDiv, oPow, oLt, oLe, oGt, oGe, oB, isInts, oEq, oIsN, isNon, oIsB, oIn, oCat, oRep, bLen, bInt, bAbs, bList, bTuple, seeA, bSum, bInts, bAll, bAny, bBools, bIsi, tyName, bReprS,
  wFor, iR1, iR2, iS, iE, iEB, enW, iZ, stL, startD, dEnds, fin, at0, at1, at2, at3, at4, atm1, atm1', ix40, ix41, ix42, ix43, eqv_int, eqv_none_int, eqv_int_none, eqv_none, eqv_lnil, eqv_tnil, eqv_str, sh_int, sh_none, sh_bool, sh_ints, sh_nil, sh_tints, sh_tnil,
  kit_NoneType_bool, kit_NoneType_int, kit_NoneType_str, kit_NoneType_list, kit_NoneType_tuple, kit_bool_bool, kit_bool_int, kit_bool_str, kit_bool_list, kit_bool_tuple, kit_int_bool, kit_int_int, kit_int_str, kit_int_list, kit_int_tuple, kit_str_bool, kit_str_int, kit_str_str, kit_str_list, kit_str_tuple,
  kit_list_bool, kit_list_int, kit_list_str, kit_list_list, kit_list_tuple, kit_tuple_bool, kit_tuple_int, kit_tuple_str, kit_tuple_list, kit_tuple_tuple, kit_dict_bool, kit_dict_int, kit_dict_str, kit_dict_list, kit_dict_tuple,
  List.map_cons, List.map_nil, List.length_cons, List.length_nil, List.length_map, List.replicate, List.cons_append, List.nil_append, List.getElem?_cons_zero, List.getElem?_cons_succ, List.set_cons_zero, List.set_cons_succ, List.isEmpty_map,
  Bool.false_eq_true, reduceCtorEq, Nat.reduceAdd, Nat.reduceSub, Nat.reduceLeDiff, Option.map_some, Option.bind_some, true_and, and_true, decide_eq_true_eq, Bool.not_eq_true', Bool.not_true, Bool.not_false, decide_eq_false_iff_not, if_true, if_false, ite_true, ite_false, reduceIte, mset_same])
/-! ### comprehensions whose items change nothing -/
theorem lc_filter {i : Nat} {t : WT} {e : WE} {st : MM → Prop} {ρ : Env} {M : MM} {K : List W → MM → Prop} (p : W → Bool) (f : W → W) (hs : st M) : ∀ (items acc : List W), (∀ x ∈ items, ∀ Q : Bool → MM → Prop, Q (p x) M → t xq0 (ρ.set i (some x)) M Q) →
    (∀ x ∈ items, p x = true → ∀ Q : KW, Q (f x) M → e xq0 (ρ.set i (some x)) M Q) → acc.length + items.length ≤ 16777216 → K (acc ++ (items.filter p).map f) M → wLcI (wgN i) t e st ρ items acc M K
  | [], acc, _, _, _, k => ⟨hs, by rw [List.filter_nil, List.map_nil, List.append_nil] at k; exact k⟩
  | x :: r, acc, ht, he, hl, k => by
    rw [List.length_cons] at hl
    refine ⟨hs, ?_⟩
    show t xq0 (ρ.set i (some x)) M _
    refine ht x List.mem_cons_self _ ?_
    cases hp : p x with
    | false =>
      rw [List.filter_cons, hp] at k
      show wLcI (wgN i) t e st ρ r acc M K
      exact lc_filter p f hs r acc (fun y hy => ht y (List.mem_cons_of_mem _ hy)) (fun y hy => he y (List.mem_cons_of_mem _ hy)) (by omega) k
    | true =>
      show e xq0 (ρ.set i (some x)) M _
      refine he x List.mem_cons_self hp _ ⟨by omega, ?_⟩
      rw [List.filter_cons, hp] at k
      refine lc_filter p f hs r (acc ++ [f x]) (fun y hy => ht y (List.mem_cons_of_mem _ hy)) (fun y hy => he y (List.mem_cons_of_mem _ hy)) (by rw [List.length_append, List.length_singleton]; omega) ?_
      rw [List.append_assoc]; exact k
theorem lc_map {i : Nat} {e : WE} {st : MM → Prop} {ρ : Env} {M : MM} {K : List W → MM → Prop} (f : W → W) (hs : st M) (items : List W) (he : ∀ x ∈ items, ∀ Q : KW, Q (f x) M → e xq0 (ρ.set i (some x)) M Q) (hl : items.length ≤ 16777216)
    (k : K (items.map f) M) : wLcI (wgN i) wYes e st ρ items [] M K :=
  lc_filter (fun _ => true) f hs items [] (fun _ _ _ q => q) (fun x hx _ => he x hx) (by simpa using hl) (by
    have e : items.filter (fun _ => true) = items := List.filter_eq_self.mpr fun _ _ => rfl
    rw [List.nil_append, e]; exact k)
/-! ### each int once -/
theorem step_in {acc : List Int} {n : Int} (h : acc.any (· == n) = true) : step_dedup acc n = acc := by
  unfold step_dedup; rw [if_pos h]
theorem step_out {acc : List Int} {n : Int} (h : ¬ acc.any (· == n) = true) : step_dedup acc n = acc ++ [n] := by
  unfold step_dedup; rw [if_neg h]
theorem fold_dedup : ∀ (ns acc : List Int), acc.Nodup → (ns.foldl step_dedup acc).length ≤ acc.length + ns.length ∧ ((ns.foldl step_dedup acc).length = acc.length + ns.length ↔ (acc ++ ns).Nodup)
  | [], acc, h => by simp [h]
  | n :: ns, acc, h => by
    have e0 : (n :: ns).foldl step_dedup acc = ns.foldl step_dedup (step_dedup acc n) := rfl
    rw [e0]
    by_cases hm : acc.any (· == n) = true
    · rw [step_in hm]
      obtain ⟨a, b⟩ := fold_dedup ns acc h
      have hin : n ∈ acc := by
        obtain ⟨y, hy, e⟩ := List.any_eq_true.mp hm
        rw [← eq_of_beq e]; exact hy
      refine ⟨by rw [List.length_cons]; omega, fun e => by rw [List.length_cons] at e; omega, fun e => ?_⟩
      have := (List.nodup_append.mp e).2.2 n hin n List.mem_cons_self
      exact absurd rfl this
    · rw [step_out hm]
      have hni : n ∉ acc := fun z => hm (List.any_eq_true.mpr ⟨n, z, beq_self_eq_true n⟩)
      have hnd : (acc ++ [n]).Nodup := List.nodup_append.mpr ⟨h, List.pairwise_singleton _ _, fun a ha b hb => by
        cases List.mem_singleton.mp hb
        exact fun e => hni (e ▸ ha)⟩
      obtain ⟨a, b⟩ := fold_dedup ns (acc ++ [n]) hnd
      rw [List.length_append, List.length_singleton] at a b
      rw [List.length_cons]
      refine ⟨by omega, ?_⟩
      rw [show acc.length + (ns.length + 1) = acc.length + 1 + ns.length by omega, b, List.append_assoc]
      rfl
theorem range_getD (ns : List Int) : (List.range ns.length).map (fun i => ns.getD i 0) = ns := by
  apply List.ext_getElem
  · simp
  · intro i h1 h2
    rw [List.getElem_map, List.getElem_range, List.getD_eq_getElem?_getD, List.getElem?_eq_getElem h2]; rfl
theorem dedup_len (ns : List Int) : (dedup ns).length ≤ ns.length ∧ ((dedup ns).length = ns.length ↔ ns.Nodup) := by
  obtain ⟨a, b⟩ := fold_dedup ns [] List.nodup_nil
  have e : dedup ns = ns.foldl step_dedup [] := by
    unfold dedup firstMet
    rw [range_getD]
  rw [e]
  rw [List.length_nil, Nat.zero_add] at a b
  exact ⟨a, b⟩
/-! ### is_route -/
def lnsD (N : Net) : List PyData → Option (List Nat)
  | [] => some []
  | .int i :: r => if 0 ≤ i ∧ i < (N.ls.length : Int) then (lnsD N r).map (i.toNat :: ·) else none
  | _ :: _ => none
def goodP (ps : List (Option Int)) : Bool := ps.all (·.isSome) && decide ps.Nodup
def isRouteD (N : Net) : PyData → Bool
  | .tuple [.int s, .tuple ds] => decide (0 ≤ s) && (decide (s < N.p) && (!ds.isEmpty && (match lnsD N ds with
    | some ls => goodP (placesP N s ls)
    | none => false)))
  | _ => false
theorem lnsD_ok {N : Net} : ∀ {ds : List PyData} {ls : List Nat}, lnsD N ds = some ls → ds = ls.map nD ∧ LnOk N ls
  | [], ls, h => by cases h; exact ⟨rfl, fun _ h => nomatch h⟩
  | d :: r, ls, h => by
    cases d <;> try (cases h)
    rename_i i
    unfold lnsD at h
    by_cases c : 0 ≤ i ∧ i < (N.ls.length : Int)
    · rw [if_pos c] at h
      cases e : lnsD N r with
      | none => rw [e] at h; cases h
      | some l =>
        rw [e] at h; cases h
        obtain ⟨h1, h2⟩ := lnsD_ok e
        refine ⟨by rw [h1, List.map_cons]; unfold nD; rw [show ((i.toNat : Nat) : Int) = i by omega], fun z hz => ?_⟩
        rcases List.mem_cons.mp hz with rfl | hz
        · omega
        · exact h2 z hz
    · rw [if_neg c] at h; cases h
theorem lnsD_int (N : Net) (i : Int) (r : List PyData) : lnsD N (.int i :: r) = if 0 ≤ i ∧ i < (N.ls.length : Int) then (lnsD N r).map (i.toNat :: ·) else none := rfl
theorem lnsD_all (N : Net) : ∀ ds : List PyData, (ds.map fun d => isIntD d 0 && (match d with | .int i => decide (i < (N.ls.length : Int)) | _ => false)).all id = (lnsD N ds).isSome
  | [] => rfl
  | d :: r => by
    rw [List.map_cons, List.all_cons, lnsD_all N r]
    cases d <;> try rfl
    rename_i i
    rw [lnsD_int]
    by_cases c : 0 ≤ i ∧ i < (N.ls.length : Int)
    · rw [if_pos c]
      simp [isIntD, c.1, c.2]
    · rw [if_neg c]
      simp only [isIntD, id, Option.isSome_none]
      by_cases c1 : 0 ≤ i
      · have c2 : ¬ i < (N.ls.length : Int) := fun z => c ⟨c1, z⟩
        simp [c1, c2]
      · simp [c1]
theorem lnsD_nD {N : Net} : ∀ {ls : List Nat}, LnOk N ls → lnsD N (ls.map nD) = some ls
  | [], _ => rfl
  | l :: r, h => by
    show (if 0 ≤ (l : Int) ∧ (l : Int) < (N.ls.length : Int) then (lnsD N (r.map nD)).map ((l : Int).toNat :: ·) else none) = some (l :: r)
    rw [if_pos ⟨by omega, by have := h l List.mem_cons_self; omega⟩, lnsD_nD fun z hz => h z (List.mem_cons_of_mem _ hz)]
    rfl
/-- a value that is_route may be asked of -/
def secLen : PyData → Nat
  | .tuple [_, .tuple ds] => ds.length
  | _ => 0
def AskOk (v : PyData) : Prop := Sh 58 v ∧ secLen v ≤ 3000
def sp_is_route : DSp := fun ws M R xr => ∃ (N : Net) (v : PyData), ws = [.d N.d, .d v] ∧ AskOk v ∧ R (.d (.bool (isRouteD N v))) M
theorem nodup_map_oD (ps : List Int) : (ps.map some).Nodup ↔ ps.Nodup := by
  unfold List.Nodup
  rw [List.pairwise_map]
  exact ⟨fun h => h.imp fun z e => z (by rw [e]), fun h => h.imp fun z e => z (Option.some.inj e)⟩
end DL
namespace DL
open PySem PySem.Spec PyProof.Rows L2
/-! ### how long a value is told -/
structure Rp (k n : Nat) (d : PyData) : Prop where
  sh : d.showable = true
  dp : d.depth ≤ k
  ln : d.shown.length ≤ n
  cl : PyData.canLay0 d = true
theorem Rp.mono {k n k' n' : Nat} {d : PyData} (h : Rp k n d) (hk : k ≤ k') (hn : n ≤ n') : Rp k' n' d := ⟨h.sh, Nat.le_trans h.dp hk, Nat.le_trans h.ln hn, h.cl⟩
theorem Rp.int {i : Int} (h : i.natAbs < 2 ^ 1900) : Rp 0 1921 (.int i) := by
  have hl : i.natAbs.log2 < 1920 := by
    by_cases h0 : i.natAbs = 0
    · rw [h0]; decide
    · exact Nat.lt_of_lt_of_le ((Nat.log2_lt h0).mpr h) (by decide)
  refine ⟨?_, ?_, ?_, by simp [PyData.canLay0]⟩
  · simp only [PyData.showable, hl, decide_true]
  · simp only [PyData.depth]; exact Nat.le_refl _
  · simp only [PyData.shown]; exact int_text_len_1921 hl
theorem Rp.none : Rp 0 1921 .none := ⟨by simp only [PyData.showable], by simp only [PyData.depth]; exact Nat.le_refl _, by simp only [PyData.shown]; decide, by simp [PyData.canLay0]⟩
theorem Rp.bool (b : Bool) : Rp 0 1921 (.bool b) := ⟨by simp only [PyData.showable], by simp only [PyData.depth]; exact Nat.le_refl _, by cases b <;> (simp only [PyData.shown]; decide), by simp [PyData.canLay0]⟩
theorem Rp.str {x : Str} (h : PyData.strOk x = true) (hl : x.length ≤ 190) : Rp 0 1921 (.str x) := by
  refine ⟨by simp only [PyData.showable], by simp only [PyData.depth]; exact Nat.le_refl _, ?_, by simp [PyData.canLay0, h]⟩
  simp only [PyData.shown]
  have h1 : ∀ c ∈ x.cps.toList, c < 16 ^ 8 := fun c hc => by
    unfold PyData.strOk at h
    rw [Array.all_eq_true_iff_forall_mem] at h
    have := h c (Array.mem_toList_iff.mp hc)
    have h2 : c < 0x110000 := of_decide_eq_true this
    omega
  have := StrLaws.reprText_len x h1
  omega
theorem rp_all {k n : Nat} {ds : List PyData} (h : ∀ d ∈ ds, Rp k n d) : PyData.canLayAll0 ds = true ∧ PyData.showableAll ds = true ∧ PyData.depthAll ds ≤ k ∧ piled (PyData.shownAll ds) ≤ ds.length * (n + 2) := by
  induction ds with
  | nil => exact ⟨by simp [PyData.canLayAll0], by simp [PyData.showableAll], by simp [PyData.depthAll], by simp [PyData.shownAll, piled]⟩
  | cons d r ih =>
    obtain ⟨l, a, b, c⟩ := ih fun d hd => h d (List.mem_cons_of_mem _ hd)
    obtain ⟨a', b', c', l'⟩ := h d List.mem_cons_self
    refine ⟨by simp [PyData.canLayAll0, l, l'], by simp [PyData.showableAll, a, a'], by simp only [PyData.depthAll]; omega, ?_⟩
    simp only [PyData.shownAll, piled_cons, List.length_cons, Nat.add_mul, Nat.one_mul]
    omega
theorem Rp.list {k n : Nat} {ds : List PyData} (h : ∀ d ∈ ds, Rp k n d) : Rp (k + 1) (4 + ds.length * (n + 2)) (.list ds) := by
  obtain ⟨l, a, b, c⟩ := rp_all h
  refine ⟨by simp only [PyData.showable, a], by simp only [PyData.depth]; omega, ?_, by simp [PyData.canLay0, l]⟩
  simp only [PyData.shown]
  rw [listText_eq_join, strLen_append, strLen_append]
  have e1 : (("[" : String) : Str).length = 1 := rfl
  have e2 : (("]" : String) : Str).length = 1 := rfl
  rw [e1, e2]
  by_cases hz : PyData.shownAll ds = []
  · rw [hz]
    have : (Str.join ", " []).length = 0 := rfl
    omega
  · have := join_length_add _ hz
    omega
theorem Rp.tuple {k n : Nat} {ds : List PyData} (h : ∀ d ∈ ds, Rp k n d) : Rp (k + 1) (4 + ds.length * (n + 2)) (.tuple ds) := by
  obtain ⟨l, a, b, c⟩ := rp_all h
  refine ⟨by simp only [PyData.showable, a], by simp only [PyData.depth]; omega, ?_, by simp [PyData.canLay0, l]⟩
  simp only [PyData.shown]
  unfold tupleText
  rw [strLen_append, strLen_append]
  have e1 : (("(" : String) : Str).length = 1 := rfl
  rw [e1]
  have e3 : (((if (PyData.shownAll ds).length == 1 then ",)" else ")" : String) : Str)).length ≤ 2 := by split <;> decide
  by_cases hz : PyData.shownAll ds = []
  · rw [hz] at e3 ⊢
    have : (Str.join ", " []).length = 0 := rfl
    omega
  · have := join_length_add _ hz
    omega
theorem Rp.ok {k n : Nat} {d : PyData} (h : Rp k n d) (hk : k ≤ 60) (hn : n ≤ 16777216) : d.showable = true ∧ d.depth ≤ 60 ∧ d.shown.length ≤ 16777216 := ⟨h.sh, Nat.le_trans h.dp hk, Nat.le_trans h.ln hn⟩
theorem Rp.list' {k n m : Nat} {ds : List PyData} (h : ∀ d ∈ ds, Rp k n d) (hm : ds.length ≤ m) : Rp (k + 1) (4 + m * (n + 2)) (.list ds) := (Rp.list h).mono (Nat.le_refl _) (by have := Nat.mul_le_mul_right (n + 2) hm; omega)
theorem Rp.tuple' {k n m : Nat} {ds : List PyData} (h : ∀ d ∈ ds, Rp k n d) (hm : ds.length ≤ m) : Rp (k + 1) (4 + m * (n + 2)) (.tuple ds) := (Rp.tuple h).mono (Nat.le_refl _) (by have := Nat.mul_le_mul_right (n + 2) hm; omega)
end DL
namespace DL
open PySem PySem.Spec PyProof.Rows L2
/-! ### loops by what stays so -/
theorem rgW_cons (i : Int) (n : Nat) : rgW i (n + 1) = .d (.int i) :: rgW (i + 1) n := by
  unfold rgW
  rw [List.range_succ_eq_map, List.map_cons, List.map_map]
  congr 1
  · rw [Int.natCast_zero, Int.add_zero]
  · refine List.map_congr_left fun x _ => ?_
    show W.d (.int (i + ((x + 1 : Nat) : Int))) = W.d (.int (i + 1 + (x : Int)))
    rw [show i + ((x + 1 : Nat) : Int) = i + 1 + (x : Int) by omega]
theorem iter_rg {g : WG} {b : WS} {st : MM → Prop} {D : DEnds} (I : Int → Nat → Env → MM → Prop) (h0 : ∀ i ρ M, I i 0 ρ M → st M ∧ D.nx ρ M)
    (h1 : ∀ i n ρ M κ, I i (n + 1) ρ M → (∀ ρ' M', I (i + 1) n ρ' M' → κ ρ' M') → st M ∧ g D.xq (.d (.int i)) ρ M fun ρ' M' => b { D with nx := κ, ct := κ, bk := D.nx } ρ' M') :
    ∀ (n : Nat) (i : Int) (ρ : Env) (M : MM), I i n ρ M → wIter g b st (rgW i n) D ρ M
  | 0, i, ρ, M, hI => h0 i ρ M hI
  | n + 1, i, ρ, M, hI => by
    rw [rgW_cons]
    exact h1 i n ρ M _ hI fun ρ' M' hI' => iter_rg I h0 h1 n (i + 1) ρ' M' hI'
theorem iter_ls {α : Type} {f : α → W} {g : WG} {b : WS} {st : MM → Prop} {D : DEnds} (I : List α → Env → MM → Prop) (h0 : ∀ ρ M, I [] ρ M → st M ∧ D.nx ρ M)
    (h1 : ∀ x r ρ M κ, I (x :: r) ρ M → (∀ ρ' M', I r ρ' M' → κ ρ' M') → st M ∧ g D.xq (f x) ρ M fun ρ' M' => b { D with nx := κ, ct := κ, bk := D.nx } ρ' M') :
    ∀ (xs : List α) (ρ : Env) (M : MM), I xs ρ M → wIter g b st (xs.map f) D ρ M
  | [], ρ, M, hI => h0 ρ M hI
  | x :: r, ρ, M, hI => by
    rw [List.map_cons]
    exact h1 x r ρ M _ hI fun ρ' M' hI' => iter_ls I h0 h1 r ρ' M' hI'
/-- comprehensions by what stays so -/
theorem lc_ls {α : Type} {f : α → W} {g : WG} {t : WT} {e : WE} {st : MM → Prop} {ρ : Env} {K : List W → MM → Prop} (I : List α → List W → MM → Prop) (h0 : ∀ acc M, I [] acc M → st M ∧ K acc M)
    (h1 : ∀ x r acc M (κ : List W → MM → Prop), I (x :: r) acc M → (∀ acc' M', I r acc' M' → κ acc' M') → st M ∧ g xq0 (f x) ρ M fun ρ' M1 => t xq0 ρ' M1 fun b M2 => if b = true then e xq0 ρ' M2 fun y M3 => acc.length < 16777216 ∧ κ (acc ++ [y]) M3 else κ acc M2) :
    ∀ (xs : List α) (acc : List W) (M : MM), I xs acc M → wLcI g t e st ρ (xs.map f) acc M K
  | [], acc, M, hI => h0 acc M hI
  | x :: r, acc, M, hI => by
    rw [List.map_cons]
    exact h1 x r acc M (fun acc' M' => wLcI g t e st ρ (r.map f) acc' M' K) hI fun acc' M' hI' => lc_ls I h0 h1 r acc' M' hI'
theorem lc_rgk {g : WG} {t : WT} {e : WE} {st : MM → Prop} {ρ : Env} {K : List W → MM → Prop} (I : Int → Nat → List W → MM → Prop) (h0 : ∀ i acc M, I i 0 acc M → st M ∧ K acc M)
    (h1 : ∀ i n acc M (κ : List W → MM → Prop), I i (n + 1) acc M → (∀ acc' M', I (i + 1) n acc' M' → κ acc' M') → st M ∧ g xq0 (.d (.int i)) ρ M fun ρ' M1 => t xq0 ρ' M1 fun b M2 => if b = true then e xq0 ρ' M2 fun y M3 => acc.length < 16777216 ∧ κ (acc ++ [y]) M3 else κ acc M2) :
    ∀ (n : Nat) (i : Int) (acc : List W) (M : MM), I i n acc M → wLcI g t e st ρ (rgW i n) acc M K
  | 0, i, acc, M, hI => h0 i acc M hI
  | n + 1, i, acc, M, hI => by
    rw [rgW_cons]
    exact h1 i n acc M (fun acc' M' => wLcI g t e st ρ (rgW (i + 1) n) acc' M' K) hI fun acc' M' hI' => lc_rgk I h0 h1 n (i + 1) acc' M' hI'
/-! ### slices -/
theorem cut_from {α : Type} (xs : List α) {i : Int} (h : 0 ≤ i) (hl : i ≤ xs.length) : cut xs (some i) none = xs.drop i.toNat := by
  obtain ⟨n, rfl⟩ := Int.eq_ofNat_of_zero_le h
  unfold cut
  rw [HT.sIx_none, HT.sIx_nat, Int.toNat_natCast, Nat.min_eq_left (by omega)]
  exact List.take_of_length_le (by rw [List.length_drop]; omega)
theorem cut_to {α : Type} (xs : List α) {i : Int} (h : 0 ≤ i) (hl : i ≤ xs.length) : cut xs none (some i) = xs.take i.toNat := by
  obtain ⟨n, rfl⟩ := Int.eq_ofNat_of_zero_le h
  unfold cut
  rw [HT.sIx_none, HT.sIx_nat, Int.toNat_natCast, Nat.min_eq_left (by omega), List.drop_zero, Nat.sub_zero]
theorem cut_map {α β : Type} (f : α → β) (xs : List α) (lo hi : Option Int) : cut (xs.map f) lo hi = (cut xs lo hi).map f := by
  unfold cut
  rw [List.length_map, List.map_take, List.map_drop]
theorem allD_f {α : Type} (f : α → PyData) (xs : List α) : allD (xs.map fun x => W.d (f x)) = some (xs.map f) := by
  have e : (xs.map fun x => W.d (f x)) = (xs.map f).map W.d := by rw [List.map_map]; rfl
  rw [e, allD_map]
theorem lc_fm {α : Type} {i : Nat} {t : WT} {e : WE} {st : MM → Prop} {ρ : Env} {M : MM} {K : List W → MM → Prop} (mk : α → W) (p : α → Bool) (f : α → W) (hs : st M) : ∀ (xs : List α) (acc : List W), (∀ x ∈ xs, ∀ Q : Bool → MM → Prop, Q (p x) M → t xq0 (ρ.set i (some (mk x))) M Q) →
    (∀ x ∈ xs, p x = true → ∀ Q : KW, Q (f x) M → e xq0 (ρ.set i (some (mk x))) M Q) → acc.length + xs.length ≤ 16777216 → K (acc ++ (xs.filter p).map f) M → wLcI (wgN i) t e st ρ (xs.map mk) acc M K
  | [], acc, _, _, _, k => ⟨hs, by rw [List.filter_nil, List.map_nil, List.append_nil] at k; exact k⟩
  | x :: r, acc, ht, he, hl, k => by
    rw [List.length_cons] at hl
    refine ⟨hs, ?_⟩
    show t xq0 (ρ.set i (some (mk x))) M _
    refine ht x List.mem_cons_self _ ?_
    cases hp : p x with
    | false =>
      rw [List.filter_cons, hp] at k
      show wLcI (wgN i) t e st ρ (r.map mk) acc M K
      exact lc_fm mk p f hs r acc (fun y hy => ht y (List.mem_cons_of_mem _ hy)) (fun y hy => he y (List.mem_cons_of_mem _ hy)) (by omega) k
    | true =>
      show e xq0 (ρ.set i (some (mk x))) M _
      refine he x List.mem_cons_self hp _ ⟨by omega, ?_⟩
      rw [List.filter_cons, hp] at k
      refine lc_fm mk p f hs r (acc ++ [f x]) (fun y hy => ht y (List.mem_cons_of_mem _ hy)) (fun y hy => he y (List.mem_cons_of_mem _ hy)) (by rw [List.length_append, List.length_singleton]; omega) ?_
      rw [List.append_assoc]; exact k
/-- every item taken -/
theorem lc_m {α : Type} {i : Nat} {e : WE} {st : MM → Prop} {ρ : Env} {M : MM} {K : List W → MM → Prop} (mk : α → W) (f : α → W) (hs : st M) (xs : List α) (he : ∀ x ∈ xs, ∀ Q : KW, Q (f x) M → e xq0 (ρ.set i (some (mk x))) M Q) (hl : xs.length ≤ 16777216)
    (k : K (xs.map f) M) : wLcI (wgN i) wYes e st ρ (xs.map mk) [] M K :=
  lc_fm mk (fun _ => true) f hs xs [] (fun _ _ _ q => q) (fun x hx _ => he x hx) (by simpa using hl) (by
    have e : xs.filter (fun _ => true) = xs := List.filter_eq_self.mpr fun _ _ => rfl
    rw [List.nil_append, e]; exact k)
theorem sh_nats (ns : List Nat) : SeqAt.shaped (.list (ns.map fun n : Nat => PyData.int (n : Int))) = true := Sh.ok (Sh.list (n := 0) fun d hd => by
  obtain ⟨i, _, rfl⟩ := List.mem_map.mp hd
  exact Sh.int i) (by decide)
theorem rgW_nat (n : Nat) : rgW 0 n = (List.range n).map fun i : Nat => W.d (.int (i : Int)) := by
  unfold rgW
  refine List.map_congr_left fun x _ => ?_
  rw [Int.zero_add]
end DL
namespace DL
open PySem PySem.Spec PyProof.Rows L2
local macro_rules | `(tactic| walk_at "dl") => `(tactic| simp only [wAsg, wOp, wVar, wC, wgN, wgTup, wgCons, wgNil, wgSub, setW, wIf, wTest, wNext, wRet, wRetN, wDrop, wAndT, wOrT, wNotT, wAndV, wOrV, wNotV, wIfE, wNeg, wNil, wCons, wTup, wTupR, wLst, wBlt, wCall, wFrz, wFz, frz, wSl, wNoP, wSoP, wPar2, wPar3, wMethL, mAppend, isLst,
  wRev, wInR, wLenSet, bStr, bMax2, bMin2, wChain, wLc, wipeW, wYes, xq0, mkL, mkT, allD, allD_map, seeL, seeD, seeT, seeS, ownL, oIx, ixW, oAdd, oSub, oMul, oMod, oDiv, oPow, oLt, oLe, oGt, oGe, oB, isInts, oEq, oIsN, isNon, oIsB, oIn, oCat, oRep, bLen, bInt, bAbs, bList, bTuple, seeA, bSum, bInts, bAll, bAny, bBools, bIsi, tyName, bReprS,
  wFor, iR1, iR2, iS, iE, iEB, enW, iZ, stL, startD, dEnds, fin, at0, at1, at2, at3, at4, atm1, atm1', ix40, ix41, ix42, ix43, eqv_int, eqv_none_int, eqv_int_none, eqv_none, eqv_lnil, eqv_tnil, eqv_str, sh_int, sh_none, sh_bool, sh_ints, sh_nil, sh_tints, sh_tnil,
  kit_NoneType_bool, kit_NoneType_int, kit_NoneType_str, kit_NoneType_list, kit_NoneType_tuple, kit_bool_bool, kit_bool_int, kit_bool_str, kit_bool_list, kit_bool_tuple, kit_int_bool, kit_int_int, kit_int_str, kit_int_list, kit_int_tuple, kit_str_bool, kit_str_int, kit_str_str, kit_str_list, kit_str_tuple,
  kit_list_bool, kit_list_int, kit_list_str, kit_list_list, kit_list_tuple, kit_tuple_bool, kit_tuple_int, kit_tuple_str, kit_tuple_list, kit_tuple_tuple, kit_dict_bool, kit_dict_int, kit_dict_str, kit_dict_list, kit_dict_tuple,
  List.map_cons, List.map_nil, List.length_cons, List.length_nil, List.length_map, List.replicate, List.cons_append, List.nil_append, List.getElem?_cons_zero, List.getElem?_cons_succ, List.set_cons_zero, List.set_cons_succ, List.isEmpty_map,
  Bool.false_eq_true, reduceCtorEq, Nat.reduceAdd, Nat.reduceSub, Nat.reduceLeDiff, Option.map_some, Option.bind_some, true_and, and_true, decide_eq_true_eq, Bool.not_eq_true', Bool.not_true, Bool.not_false, decide_eq_false_iff_not, if_true, if_false, ite_true, ite_false, reduceIte, mset_same])
def w_end_of (sp_places_of : DSp) : WS := (wRet (wOp oIx (wCall sp_places_of (wCons (wVar 0) (wCons (wVar 1) wNil))) (wNeg (wC (.d (.int 1))))))
def w_back (sp_end_of : DSp) : WS := (wRet (wTup (wCons (wCall sp_end_of (wCons (wVar 0) (wCons (wVar 1) wNil))) (wCons (wRev false (wOp oIx (wVar 1) (wC (.d (.int 1))))) wNil))))
def w_length_of : WS := (wRet (wBlt bSum (wCons (wLc false (iS (wOp oIx (wVar 2) (wC (.d (.int 1))))) (wgN 3) wYes (wOp oIx (wVar 1) (wVar 3)) [3]) wNil)))
/-- the answer of one line's test -/
def lnB (N : Net) (d : PyData) : Bool := isIntD d 0 && (match d with | .int i => decide (i < (N.ls.length : Int)) | _ => false)
theorem boolsD_map {α : Type} (f : α → Bool) : ∀ xs : List α, boolsD (xs.map fun x => W.d (.bool (f x))) = some (xs.map f)
  | [] => rfl
  | x :: r => by
    show (boolsD (r.map fun x => W.d (.bool (f x)))).map (f x :: ·) = _
    rw [boolsD_map f r]; rfl
theorem intsD_map {α : Type} (f : α → Int) : ∀ xs : List α, intsD (xs.map fun x => W.d (.int (f x))) = some (xs.map f)
  | [] => rfl
  | x :: r => by
    show (intsD (r.map fun x => W.d (.int (f x)))).map (f x :: ·) = _
    rw [intsD_map f r]; rfl
theorem boolsD_f {α : Type} (f : α → Bool) (xs : List α) : boolsD ((xs.map fun x => PyData.bool (f x)).map W.d) = some (xs.map f) := by
  rw [List.map_map]; exact boolsD_map f xs
theorem intsD_f {α : Type} (f : α → Int) (xs : List α) : intsD ((xs.map fun x => PyData.int (f x)).map W.d) = some (xs.map f) := by
  rw [List.map_map]; exact intsD_map f xs
theorem isInt_false {d : PyData} {n : Int} (h : ∀ i, d ≠ .int i) : isIntD d n = false := by
  cases d <;> first | rfl | exact absurd rfl (h _)
theorem placesP_len (N : Net) (s : Int) (ls : List Nat) : (placesP N s ls).length ≤ ls.length + 1 := by
  have : ∀ (ls : List Nat) (o : Option Int), (walkP N.ls o ls).length ≤ ls.length := by
    intro ls
    induction ls with
    | nil => intro o; cases o <;> exact Nat.le_refl _
    | cons l r ih =>
      intro o
      cases o with
      | none => exact Nat.zero_le _
      | some q =>
        show (walkP N.ls (nextP N.ls q l) r).length + 1 ≤ r.length + 1
        have := ih (nextP N.ls q l)
        omega
  show (walkP N.ls (some s) ls).length + 1 ≤ _
  have := this ls (some s)
  omega
theorem all_some {ps : List (Option Int)} (h : ps.all (·.isSome) = true) : ∃ qs : List Int, ps = qs.map some := by
  induction ps with
  | nil => exact ⟨[], rfl⟩
  | cons o r ih =>
    rw [List.all_cons, Bool.and_eq_true] at h
    obtain ⟨qs, rfl⟩ := ih h.2
    cases o with
    | none => cases h.1
    | some i => exact ⟨i :: qs, rfl⟩
theorem isRouteD_no {N : Net} {v : PyData} (h : ∀ s ds, v ≠ .tuple [.int s, .tuple ds]) : isRouteD N v = false := by
  unfold isRouteD
  split
  · exact absurd rfl (h _ _)
  · rfl
theorem isRouteD_eq (N : Net) (s : Int) (ds : List PyData) : isRouteD N (.tuple [.int s, .tuple ds]) = (decide (0 ≤ s) && (decide (s < N.p) && (!ds.isEmpty && (match lnsD N ds with
    | some ls => goodP (placesP N s ls)
    | none => false)))) := rfl
theorem isRouteD_no1 {N : Net} {s : Int} {y : PyData} (h : ¬ 0 ≤ s ∨ ¬ s < N.p) : isRouteD N (.tuple [.int s, y]) = false := by
  by_cases hy : ∃ ds, y = .tuple ds
  · obtain ⟨ds, rfl⟩ := hy
    rw [isRouteD_eq]
    rcases h with h | h <;> simp only [decide_eq_false h, Bool.false_and, Bool.and_false]
  · exact isRouteD_no fun s' ds e => by
      injection e with e
      injection e with e1 e2
      injection e2 with e2 e3
      exact hy ⟨_, e2⟩
theorem isIntD_int (i n : Int) : isIntD (.int i) n = decide (n ≤ i) := rfl
theorem pure_is_route (ws : List W) (M : MM) (R : KW) (xr : XR) (h : sp_is_route ws M R xr) : w_is_route sp_is_integer sp_places_of (dEnds R xr) (startD ["net", "route", "places", "line"] ws) M := by
  obtain ⟨N, v, rfl, ⟨hv, hs⟩, k⟩ := h
  unfold w_is_route
  refine wSeq_i fun κ hκ => ?_
  cases v <;> try (walk_at "dl"; exact ⟨_, Sub.refl _, k⟩)
  rename_i ds
  rcases ds with _ | ⟨x, _ | ⟨y, _ | ⟨z, r⟩⟩⟩
  · walk_at "dl"; exact ⟨_, Sub.refl _, k⟩
  · rw [isRouteD_no (fun _ _ e => by cases e)] at k
    walk_at "dl"; exact ⟨_, Sub.refl _, k⟩
  rotate_left
  · rw [isRouteD_no (fun _ _ e => by cases e)] at k
    walk_at "dl"
    rw [if_pos (by omega)]
    exact ⟨_, Sub.refl _, k⟩
  walk_at "dl"
  rw [if_neg (by simp)]
  refine ⟨x, 0, rfl, ?_⟩
  by_cases hx : ∃ s, x = .int s
  rotate_left
  · rw [isRouteD_no (fun _ _ e => by injection e with e; injection e with e1 e2; exact hx ⟨_, e1⟩)] at k
    rw [isInt_false fun i e => hx ⟨i, e⟩]
    walk_at "dl"
    exact ⟨_, Sub.refl _, k⟩
  obtain ⟨s, rfl⟩ := hx
  rw [isIntD_int]
  by_cases h0 : 0 ≤ s
  rotate_left
  · rw [isRouteD_no1 (.inl h0)] at k
    rw [decide_eq_false h0]
    walk_at "dl"
    exact ⟨_, Sub.refl _, k⟩
  rw [decide_eq_true h0]
  unfold Net.d
  walk_at "dl"
  by_cases h1 : N.p ≤ s
  · rw [isRouteD_no1 (.inr (by omega))] at k
    rw [if_pos h1]
    exact ⟨_, Sub.refl _, k⟩
  rw [if_neg h1]
  subst hκ
  refine wSeq_i fun κ hκ => ?_
  have shy : SeqAt.shaped y = true := Sh.ok (n := 58) (by
    obtain ⟨a, b⟩ := hv
    constructor
    · simp [PyData.canLay0, PyData.canLayAll0] at a; exact a
    · simp only [PyData.depth, PyData.depthAll] at b; omega) (by decide)
  by_cases hy : ∃ ds, y = .tuple ds
  rotate_left
  · rw [isRouteD_no (fun _ _ e => by injection e with e; injection e with e1 e2; injection e2 with e2 e3; exact hy ⟨_, e2⟩)] at k
    cases y <;> first | exact absurd ⟨_, rfl⟩ hy | (walk_at "dl"; exact ⟨_, Sub.refl _, k⟩)
  obtain ⟨ds, rfl⟩ := hy
  walk_at "dl"
  refine ⟨shy, ?_⟩
  have hds : ds.length ≤ 3000 := hs
  cases hem : ds.isEmpty with
  | true =>
    have e : isRouteD N (.tuple [.int s, .tuple ds]) = false := by
      unfold isRouteD
      simp only [hem, Bool.not_true, Bool.false_and, Bool.and_false]
    rw [e] at k
    exact ⟨_, Sub.refl _, k⟩
  | false =>
  simp only [Bool.false_eq_true, if_false]
  subst hκ
  refine wSeq_i fun κ hκ => ?_
  walk_at "dl"
  refine lc_map (fun d => match d with | .d d => .d (.bool (lnB N d)) | x => x) trivial _ ?_ (by rw [List.length_map]; omega) ?_
  · intro d hd Q hQ
    obtain ⟨d, hd', rfl⟩ := List.mem_map.mp hd
    walk_at "dl"
    refine ⟨d, 0, rfl, ?_⟩
    unfold lnB at hQ
    cases d <;> first | exact hQ | skip
    rename_i i
    unfold isIntD at hQ ⊢
    by_cases c : 0 ≤ i
    · simp only [decide_eq_true c, Bool.true_and] at hQ ⊢
      exact hQ
    · simp only [decide_eq_false c, Bool.false_and] at hQ ⊢
      exact hQ
  have e1 : (List.map W.d ds).map (fun d => match d with | .d d => W.d (.bool (lnB N d)) | x => x) = ds.map fun x => W.d (.bool (lnB N x)) := by
    rw [List.map_map]; rfl
  rw [e1]
  rw [allD_f]
  simp only [boolsD_f]
  have e2 : (ds.map (lnB N)).all id = (lnsD N ds).isSome := lnsD_all N ds
  rw [e2]
  rw [isRouteD_eq, decide_eq_true h0, decide_eq_true (show s < N.p by omega), hem] at k
  simp only [Bool.not_false, Bool.true_and] at k
  cases hln : lnsD N ds with
  | none =>
    rw [hln] at k
    exact ⟨_, Sub.refl _, k⟩
  | some ls =>
  rw [hln] at k
  simp only [Option.isSome_some, Bool.true_eq_false, if_false]
  obtain ⟨hd, hlk⟩ := lnsD_ok hln
  have hll : ls.length ≤ 3000 := by rw [hd, List.length_map] at hds; exact hds
  subst hκ
  refine wSeq_i fun κ hκ => ?_
  walk_at "dl"
  refine ⟨N, s, ls, by rw [hd]; rfl, hlk, by omega, ?_⟩
  subst hκ
  walk_at "dl"
  have hf : ((placesP N s ls).map oD).all flatD = true := by
    rw [List.all_map]
    refine List.all_eq_true.mpr fun o _ => ?_
    cases o <;> rfl
  rw [hf]
  have ha : (((placesP N s ls).map oD).any fun z => PyData.eqv z .none) = !((placesP N s ls).all (·.isSome)) := by
    rw [List.any_map, List.not_all_eq_any_not]
    congr 1
    funext o
    cases o with
    | none => exact eqv_none
    | some i => exact eqv_int_none i
  rw [ha]
  refine ⟨rfl, rfl, ?_⟩
  have k' : R (.d (.bool (goodP (placesP N s ls)))) M := k
  have hlen := placesP_len N s ls
  generalize placesP N s ls = ps at k' hlen ⊢
  unfold goodP at k'
  cases hall : ps.all (·.isSome) with
  | false =>
    rw [hall] at k'
    exact ⟨_, Sub.refl _, k'⟩
  | true =>
  rw [hall] at k'
  obtain ⟨qs, rfl⟩ := all_some hall
  have eo : ((qs.map some).map oD) = qs.map PyData.int := by rw [List.map_map]; rfl
  rw [eo]
  have ei : intsD ((qs.map PyData.int).map W.d) = some qs := by
    have := intsD_f (fun i : Int => i) qs
    rw [List.map_id'] at this
    exact this
  rw [ei]
  rw [List.length_map] at hlen
  obtain ⟨d1, d2⟩ := dedup_len qs
  refine ⟨⟨by omega, by omega⟩, _, Sub.refl _, ?_⟩
  rw [List.length_map]
  have ed : decide (((dedup qs).length : Int) = (qs.length : Int)) = decide ((qs.map some).Nodup) := by
    refine decide_eq_decide.mpr ?_
    rw [nodup_map_oD, ← d2]
    exact Int.ofNat_inj
  rw [ed]
  rw [Bool.true_and] at k'
  exact k'
/-! ### paths -/
/-- places, and the lines between each two neighbours -/
inductive Pth (ls : List (Int × Int)) : List Int → List Nat → Prop
  | one (s : Int) : Pth ls [s] []
  | more {s q : Int} {l : Nat} {qs : List Int} {lns : List Nat} : nextP ls s l = some q → Pth ls (q :: qs) lns → Pth ls (s :: q :: qs) (l :: lns)
theorem Pth.snoc {ls : List (Int × Int)} {ps : List Int} {p q : Int} {l : Nat} : ∀ {lns : List Nat}, Pth ls (ps ++ [p]) lns → nextP ls p l = some q → Pth ls (ps ++ [p] ++ [q]) (lns ++ [l]) := by
  induction ps with
  | nil =>
    intro lns h hn
    cases h with
    | one => exact .more hn (.one _)
  | cons a r ih =>
    intro lns h hn
    cases r with
    | nil =>
      cases h with
      | more h1 h2 => exact .more h1 (ih h2 hn)
    | cons b r' =>
      cases h with
      | more h1 h2 => exact .more h1 (ih h2 hn)
theorem nextP_back {N : Net} (h : N.Ok) {s q : Int} {l : Nat} (e : nextP N.ls s l = some q) : nextP N.ls q l = some s ∧ 0 ≤ q ∧ q < N.p ∧ 0 ≤ s ∧ s < N.p ∧ l < N.ls.length ∧ s ≠ q := by
  unfold nextP at e ⊢
  cases hl : N.ls[l]? with
  | none => rw [hl] at e; cases e
  | some x =>
    obtain ⟨a, b⟩ := x
    rw [hl] at e
    obtain ⟨hlt, hx⟩ := List.getElem?_eq_some_iff.mp hl
    have hm : (a, b) ∈ N.ls := List.mem_of_getElem? hl
    obtain ⟨h1, h2, h3⟩ := h.ln _ hm
    simp only at h1 h2 h3 e ⊢
    by_cases c1 : s = a
    · rw [if_pos c1] at e
      injection e with e
      rw [if_neg (by omega), if_pos (by omega)]
      exact ⟨by rw [c1], by omega, by omega, by omega, by omega, hlt, by omega⟩
    · rw [if_neg c1] at e
      by_cases c2 : s = b
      · rw [if_pos c2] at e
        injection e with e
        rw [if_pos (by omega)]
        exact ⟨by rw [c2], by omega, by omega, by omega, by omega, hlt, by omega⟩
      · rw [if_neg c2] at e; cases e
theorem Pth.reverse {N : Net} (h : N.Ok) {ps : List Int} {lns : List Nat} (p : Pth N.ls ps lns) : Pth N.ls ps.reverse lns.reverse := by
  induction p with
  | one s => exact .one s
  | more h1 h2 ih =>
    rw [List.reverse_cons, List.reverse_cons (as := _)]
    rw [List.reverse_cons] at ih ⊢
    exact ih.snoc (nextP_back h h1).1
theorem Pth.len {ls : List (Int × Int)} {ps : List Int} {lns : List Nat} (p : Pth ls ps lns) : ps.length = lns.length + 1 := by
  induction p with
  | one => rfl
  | more _ _ ih => rw [List.length_cons, ih, List.length_cons]
theorem Pth.ln {N : Net} (h : N.Ok) {ps : List Int} {lns : List Nat} (p : Pth N.ls ps lns) : LnOk N lns := by
  induction p with
  | one => exact fun _ h => nomatch h
  | more h1 _ ih =>
    intro z hz
    rcases List.mem_cons.mp hz with rfl | hz
    · exact (nextP_back h h1).2.2.2.2.2.1
    · exact ih z hz
theorem Pth.places {N : Net} {ps : List Int} {lns : List Nat} (p : Pth N.ls ps lns) : placesP N (ps.headD 0) lns = ps.map some := by
  unfold placesP
  induction p with
  | one s => rfl
  | more h1 h2 ih =>
    rename_i s q l qs lns
    show some s :: nextP N.ls s l :: walkP N.ls (nextP N.ls s l) lns = _
    rw [h1]
    rw [List.map_cons, ← ih]; rfl
/-- a drawn route: its places -/
structure Rt (N : Net) (ps : List Int) (lns : List Nat) : Prop where
  pth : Pth N.ls ps lns
  nd : ps.Nodup
  ne : lns ≠ []
theorem Rt.reverse {N : Net} (h : N.Ok) {ps : List Int} {lns : List Nat} (r : Rt N ps lns) : Rt N ps.reverse lns.reverse :=
  ⟨r.pth.reverse h, List.pairwise_reverse.mpr (r.nd.imp fun z e => z e.symm), fun e => r.ne (List.reverse_eq_nil_iff.mp e)⟩
theorem Rt.shape {N : Net} {ps : List Int} {lns : List Nat} (r : Rt N ps lns) : ∃ s qs, ps = s :: qs ∧ ps.headD 0 = s := by
  cases r.pth with
  | one s => exact ⟨_, _, rfl, rfl⟩
  | more => exact ⟨_, _, rfl, rfl⟩
theorem Rt.rng {N : Net} (h : N.Ok) {ps : List Int} {lns : List Nat} (r : Rt N ps lns) : 0 ≤ ps.headD 0 ∧ ps.headD 0 < N.p := by
  obtain ⟨hp, _, hne⟩ := r
  cases hp with
  | one => exact absurd rfl hne
  | more h1 _ =>
    obtain ⟨_, _, _, a, b, _⟩ := nextP_back h h1
    exact ⟨a, b⟩
theorem Rt.is {N : Net} (h : N.Ok) {ps : List Int} {lns : List Nat} (r : Rt N ps lns) : isRouteD N (rD (ps.headD 0) lns) = true := by
  unfold rD
  obtain ⟨a, b⟩ := r.rng h
  rw [isRouteD_eq, decide_eq_true a, decide_eq_true b, lnsD_nD (r.pth.ln h)]
  simp only [r.pth.places]
  have hne : (lns.map nD).isEmpty = false := by
    cases lns with
    | nil => exact absurd rfl r.ne
    | cons => rfl
  rw [hne]
  simp only [Bool.not_false, Bool.true_and]
  unfold goodP
  rw [List.all_map, decide_eq_true ((nodup_map_oD ps).mpr r.nd), Bool.and_true]
  exact List.all_eq_true.mpr fun _ _ => rfl
/-- the place at the end -/
def endP (N : Net) (s : Int) (ls : List Nat) : Option Int := ((placesP N s ls).getLast?).getD none
theorem Rt.endp {N : Net} {ps : List Int} {lns : List Nat} (r : Rt N ps lns) : endP N (ps.headD 0) lns = some (ps.reverse.headD 0) := by
  unfold endP
  rw [r.pth.places]
  obtain ⟨s, qs, e, _⟩ := r.shape
  rw [List.getLast?_map, List.headD_eq_head?_getD, List.head?_reverse]
  rw [e]
  rw [List.getLast?_cons]
  rfl
end DL
namespace DL
open PySem PySem.Spec PyProof.Rows L2
/-! ### what is told is a text -/
def OkS (x : Str) : Prop := ∀ c ∈ x.cps.toList, c < 1114112
theorem OkS.ok {x : Str} (h : OkS x) : PyData.strOk x = true := by
  unfold PyData.strOk
  rw [Array.all_eq_true_iff_forall_mem]
  exact fun c hc => decide_eq_true (h c (Array.mem_toList_iff.mpr hc))
theorem OkS.of {x : Str} (h : PyData.strOk x = true) : OkS x := fun c hc => by
  unfold PyData.strOk at h
  rw [Array.all_eq_true_iff_forall_mem] at h
  exact of_decide_eq_true (h c (Array.mem_toList_iff.mp hc))
theorem OkS.app {x y : Str} (h : OkS x) (k : OkS y) : OkS (x ++ y) := fun c hc => by
  have e : (x ++ y).cps = x.cps ++ y.cps := rfl
  rw [e, Array.toList_append] at hc
  rcases List.mem_append.mp hc with hc | hc
  · exact h c hc
  · exact k c hc
theorem ch_lt (c : Char) : c.toNat < 1114112 := by
  have h := c.valid
  have : c.toNat = c.val.toNat := rfl
  rcases h with h | h
  · rw [this]; omega
  · rw [this]; exact h.2
theorem OkS.lit (s : String) : OkS (Str.ofString s) := fun c hc => by
  rw [Str.ofString_eq_toList] at hc
  obtain ⟨x, _, rfl⟩ := List.mem_map.mp (show c ∈ s.toList.map Char.toNat from hc)
  exact ch_lt x
theorem repr_char_ok {q c : Nat} (hc : c < 1114112) : ∀ y ∈ Builtin.Str.reprChar q c, y < 1114112 := by
  have hx : ∀ w : Nat, ∀ y ∈ List.replicate (w - ((Nat.toDigits 16 c).map Char.toNat).length) 48 ++ (Nat.toDigits 16 c).map Char.toNat, y < 1114112 := fun w y hy => by
    rcases List.mem_append.mp hy with hy | hy
    · rw [(List.mem_replicate.mp hy).2]; decide
    · obtain ⟨z, _, rfl⟩ := List.mem_map.mp hy
      exact ch_lt z
  intro y hy
  unfold Builtin.Str.reprChar at hy
  dsimp only at hy
  repeat' split at hy
  all_goals first
    | (simp only [List.mem_cons, List.not_mem_nil, or_false] at hy; omega)
    | (rcases List.mem_append.mp hy with hy | hy
       · simp only [List.mem_cons, List.not_mem_nil, or_false] at hy; omega
       · exact hx _ y hy)
theorem fold_repr_ok (q : Nat) : ∀ (l : List Nat) (acc : Array Nat), (∀ c ∈ l, c < 1114112) → (∀ c ∈ acc.toList, c < 1114112) → ∀ c ∈ (l.foldl (fun out c => out ++ (Builtin.Str.reprChar q c).toArray) acc).toList, c < 1114112
  | [], acc, _, h => h
  | x :: r, acc, hl, h => by
    refine fold_repr_ok q r _ (fun c hc => hl c (List.mem_cons_of_mem _ hc)) fun c hc => ?_
    rw [Array.toList_append] at hc
    rcases List.mem_append.mp hc with hc | hc
    · exact h c hc
    · exact repr_char_ok (hl x List.mem_cons_self) c hc
theorem OkS.repr {x : Str} (h : OkS x) : OkS (reprText x) := fun c hc => by
  have hq : reprQuote x < 1114112 := by
    unfold reprQuote
    split <;> decide
  have e : (reprText x).cps = (x.cps.foldl (fun out c => out ++ (Builtin.Str.reprChar (reprQuote x) c).toArray) #[reprQuote x]).push (reprQuote x) := rfl
  rw [e, Array.toList_push, ← Array.foldl_toList] at hc
  rcases List.mem_append.mp hc with hc | hc
  · refine fold_repr_ok _ _ _ h (fun c hc => ?_) c hc
    have : c = reprQuote x := by simpa using hc
    rw [this]; exact hq
  · rw [List.mem_singleton.mp hc]; exact hq
theorem OkS.join {sep : Str} (hs : OkS sep) : ∀ {ts : List Str}, (∀ t ∈ ts, OkS t) → OkS (Str.join sep ts)
  | [], _ => fun c hc => nomatch hc
  | [x], h => h x List.mem_cons_self
  | x :: y :: r, h => ((h x List.mem_cons_self).app hs).app (OkS.join hs fun t ht => h t (List.mem_cons_of_mem _ ht))
mutual
theorem shown_ok : ∀ d : PyData, PyData.canLay0 d = true → OkS d.shown
  | .none, _ => by simp only [PyData.shown]; exact OkS.lit _
  | .bool b, _ => by cases b <;> (simp only [PyData.shown]; exact OkS.lit _)
  | .int _, _ => by simp only [PyData.shown]; exact OkS.lit _
  | .str x, h => by
    simp only [PyData.shown]
    exact OkS.repr (OkS.of (by simpa [PyData.canLay0] using h))
  | .list xs, h => by
    simp only [PyData.shown]
    rw [listText_eq_join]
    exact ((OkS.lit _).app (OkS.join (OkS.lit _) (shown_all_ok xs (by simpa [PyData.canLay0] using h)))).app (OkS.lit _)
  | .tuple xs, h => by
    simp only [PyData.shown]
    unfold tupleText
    exact ((OkS.lit _).app (OkS.join (OkS.lit _) (shown_all_ok xs (by simpa [PyData.canLay0] using h)))).app (OkS.lit _)
  | .dict _, h => by simp [PyData.canLay0] at h
theorem shown_all_ok : ∀ xs : List PyData, PyData.canLayAll0 xs = true → ∀ t ∈ PyData.shownAll xs, OkS t
  | [], _, t, ht => by simp only [PyData.shownAll] at ht; cases ht
  | x :: xs, h, t, ht => by
    have h' : x.canLay0 = true ∧ PyData.canLayAll0 xs = true := by simpa [PyData.canLayAll0] using h
    simp only [PyData.shownAll] at ht
    rcases List.mem_cons.mp ht with rfl | ht
    · exact shown_ok x h'.1
    · exact shown_all_ok xs h'.2 t ht
end
theorem sh_shown {d : PyData} (h : PyData.canLay0 d = true) : SeqAt.shaped (.str d.shown) = true := sh_str _ (shown_ok d h).ok
theorem Rp.sh' {k n : Nat} {d : PyData} (h : Rp k n d) : SeqAt.shaped (.str d.shown) = true := sh_shown h.cl
end DL
namespace DL
open PySem PySem.Spec PyProof.Rows L2
local macro_rules | `(tactic| walk_at "dl") => `(tactic| simp only [wAsg, wOp, wVar, wC, wgN, wgTup, wgCons, wgNil, wgSub, setW, wIf, wTest, wNext, wRet, wRetN, wDrop, wAndT, wOrT, wNotT, wAndV, wOrV, wNotV, wIfE, wNeg, wNil, wCons, wTup, wTupR, wLst, wBlt, wCall, wFrz, wFz, frz, wSl, wNoP, wSoP, wPar2, wPar3, wMethL, mAppend, isLst,
  wRev, wInR, wLenSet, bStr, bMax2, bMin2, wChain, wLc, wipeW, wYes, xq0, mkL, mkT, allD, allD_map, seeL, seeD, seeT, seeS, ownL, oIx, ixW, oAdd, oSub, oMul, oMod, oDiv, oPow, oLt, oLe, oGt, oGe, oB, isInts, oEq, oIsN, isNon, oIsB, oIn, oCat, oRep, bLen, bInt, bAbs, bList, bTuple, seeA, bSum, bInts, bAll, bAny, bBools, bIsi, tyName, bReprS,
  wFor, iR1, iR2, iS, iE, iEB, enW, iZ, stL, startD, dEnds, fin, at0, at1, at2, at3, at4, atm1, atm1', ix40, ix41, ix42, ix43, eqv_int, eqv_none_int, eqv_int_none, eqv_none, eqv_lnil, eqv_tnil, eqv_str, sh_int, sh_none, sh_bool, sh_ints, sh_nil, sh_tints, sh_tnil,
  kit_NoneType_bool, kit_NoneType_int, kit_NoneType_str, kit_NoneType_list, kit_NoneType_tuple, kit_bool_bool, kit_bool_int, kit_bool_str, kit_bool_list, kit_bool_tuple, kit_int_bool, kit_int_int, kit_int_str, kit_int_list, kit_int_tuple, kit_str_bool, kit_str_int, kit_str_str, kit_str_list, kit_str_tuple,
  kit_list_bool, kit_list_int, kit_list_str, kit_list_list, kit_list_tuple, kit_tuple_bool, kit_tuple_int, kit_tuple_str, kit_tuple_list, kit_tuple_tuple, kit_dict_bool, kit_dict_int, kit_dict_str, kit_dict_list, kit_dict_tuple,
  List.map_cons, List.map_nil, List.length_cons, List.length_nil, List.length_map, List.replicate, List.cons_append, List.nil_append, List.getElem?_cons_zero, List.getElem?_cons_succ, List.set_cons_zero, List.set_cons_succ, List.isEmpty_map,
  Bool.false_eq_true, reduceCtorEq, Nat.reduceAdd, Nat.reduceSub, Nat.reduceLeDiff, Option.map_some, Option.bind_some, true_and, and_true, decide_eq_true_eq, Bool.not_eq_true', Bool.not_true, Bool.not_false, decide_eq_false_iff_not, if_true, if_false, ite_true, ite_false, reduceIte, mset_same])
def w__law_deck : WS := (wRet (wLst true (wCons (wBlt (bList false) (wCons (wSl false (wVar 0) wNoP (wSoP (wC (.d (.int 63))))) wNil)) (wCons (wC (.d (.int 0))) (wCons (wC (.d (.int 0))) (wCons (wC (.d (.int 0))) wNil))))))
def w__law_one (sp__law_draw : DSp) : WS := (wRet (wOp oIx (wVar 1) (wCall sp__law_draw (wCons (wVar 0) (wCons (wBlt bLen (wCons (wVar 1) wNil)) wNil)))))
def w__law_net (sp__law_draw : DSp) : WS := (wSeq (wPar2 1 2 (wCons (wOp oAdd (wC (.d (.int 2))) (wCall sp__law_draw (wCons (wVar 0) (wCons (wC (.d (.int 5))) wNil)))) (wCons (wLst true wNil) wNil)))
    (wSeq (wFor (iR2 (wCons (wC (.d (.int 1))) (wCons (wVar 1) wNil))) (wgN 3) (wIf (wOrT (wTest (wOp (oEq false) (wVar 3) (wC (.d (.int 1))))) (wTest (wOp oGt (wCall sp__law_draw (wCons (wVar 0) (wCons (wC (.d (.int 9))) wNil))) (wC (.d (.int 0)))))) (wDrop (wMethL mAppend (wVar 2) (wCons (wTup (wCons (wCall sp__law_draw (wCons (wVar 0) (wCons (wVar 3) wNil))) (wCons (wVar 3) wNil))) wNil))) wNext))
    (wSeq (wFor (iR1 (wCons (wCall sp__law_draw (wCons (wVar 0) (wCons (wOp oSub (wC (.d (.int 9))) (wBlt bLen (wCons (wVar 2) wNil))) wNil))) wNil)) (wgN 4) (wSeq (wAsg (wCall sp__law_draw (wCons (wVar 0) (wCons (wOp oSub (wVar 1) (wC (.d (.int 1)))) wNil))) (wgN 5))
    (wDrop (wMethL mAppend (wVar 2) (wCons (wTup (wCons (wVar 5) (wCons (wOp oAdd (wOp oAdd (wVar 5) (wC (.d (.int 1)))) (wCall sp__law_draw (wCons (wVar 0) (wCons (wOp oSub (wOp oSub (wVar 1) (wC (.d (.int 1)))) (wVar 5)) wNil)))) wNil))) wNil)))))
    (wSeq (wAsg (wCall sp__law_draw (wCons (wVar 0) (wCons (wBlt bLen (wCons (wVar 2) wNil)) wNil))) (wgN 4))
    (wRet (wTup (wCons (wVar 1) (wCons (wBlt bTuple (wCons (wOp (oCat false) (wSl false (wVar 2) (wSoP (wVar 4)) wNoP) (wSl false (wVar 2) wNoP (wSoP (wVar 4)))) wNil)) wNil))))))))
def w__law_next : WS := (wSeq (wAsg (wOp oIx (wOp oIx (wVar 0) (wC (.d (.int 1)))) (wVar 2)) (wgTup 2 (wgCons (wgN 3) (wgCons (wgN 4) wgNil))))
    (wSeq (wIf (wTest (wOp (oEq false) (wVar 1) (wVar 3))) (wRet (wVar 4)) wNext)
    (wRet (wIfE (wTest (wOp (oEq false) (wVar 1) (wVar 4))) (wVar 3) (wC (.d .none))))))
def w__law_way (sp__law_next : DSp) : WS := (wSeq (wAsg (wLst true (wCons (wOp oIx (wVar 1) (wC (.d (.int 0)))) wNil)) (wgN 2))
    (wSeq (wFor (iS (wOp oIx (wVar 1) (wC (.d (.int 1))))) (wgN 3) (wDrop (wMethL mAppend (wVar 2) (wCons (wCall sp__law_next (wCons (wVar 0) (wCons (wOp oIx (wVar 2) (wNeg (wC (.d (.int 1))))) (wCons (wVar 3) wNil)))) wNil))))
    (wRet (wFrz (wVar 2)))))
def w__law_route (sp__law_one : DSp) (sp__law_draw : DSp) (sp__law_next : DSp) : WS := (wSeq (wAsg (wCall sp__law_one (wCons (wVar 0) (wCons (wOp oIx (wVar 1) (wC (.d (.int 1)))) wNil))) (wgTup 2 (wgCons (wgN 2) (wgCons (wgN 3) wgNil))))
    (wSeq (wAsg (wCall sp__law_one (wCons (wVar 0) (wCons (wLst false (wCons (wVar 2) (wCons (wVar 3) wNil))) wNil))) (wgN 4))
    (wSeq (wAsg (wTup (wCons (wTup wNil) (wCons (wTup (wCons (wVar 4) wNil)) wNil))) (wgTup 2 (wgCons (wgN 5) (wgCons (wgN 6) wgNil))))
    (wSeq (wFor (iR1 (wCons (wOp oAdd (wC (.d (.int 1))) (wCall sp__law_draw (wCons (wVar 0) (wCons (wOp oIx (wVar 1) (wC (.d (.int 0)))) wNil)))) wNil)) (wgN 7) (wSeq (wAsg (wLc false (iR1 (wCons (wBlt bLen (wCons (wOp oIx (wVar 1) (wC (.d (.int 1)))) wNil)) wNil)) (wgN 9) (wTest (wOp (oIsN true) (wCall sp__law_next (wCons (wVar 1) (wCons (wOp oIx (wVar 6) (wNeg (wC (.d (.int 1))))) (wCons (wVar 9) wNil)))) (wC (.d .none)))) (wVar 9) [9]) (wgN 8))
    (wSeq (wAsg (wLc false (iS (wVar 8)) (wgN 9) (wTest (wOp (oIn true) (wCall sp__law_next (wCons (wVar 1) (wCons (wOp oIx (wVar 6) (wNeg (wC (.d (.int 1))))) (wCons (wVar 9) wNil)))) (wVar 6))) (wVar 9) [9]) (wgN 8))
    (wIf (wTest (wOp (oEq true) (wVar 8) (wLst false wNil))) (wSeq (wAsg (wCall sp__law_one (wCons (wVar 0) (wCons (wVar 8) wNil))) (wgN 9))
    (wAsg (wTup (wCons (wOp oAdd (wVar 5) (wTup (wCons (wVar 9) wNil))) (wCons (wOp oAdd (wVar 6) (wTup (wCons (wCall sp__law_next (wCons (wVar 1) (wCons (wOp oIx (wVar 6) (wNeg (wC (.d (.int 1))))) (wCons (wVar 9) wNil)))) wNil))) wNil))) (wgTup 2 (wgCons (wgN 5) (wgCons (wgN 6) wgNil))))) wNext))))
    (wRet (wTup (wCons (wVar 4) (wCons (wVar 5) wNil))))))))
def w__law_size : WS := (wRet (wBlt bSum (wCons (wLc false (iS (wOp oIx (wVar 1) (wC (.d (.int 1))))) (wgN 2) wYes (wOp oIx (wVar 0) (wVar 2)) [2]) wNil)))
def w__law_lengths (sp__law_one : DSp) (sp__law_draw : DSp) : WS := (wSeq (wAsg (wCall sp__law_one (wCons (wVar 0) (wCons (wLst false (wCons (wC (.d (.int 2))) (wCons (wC (.d (.int 3))) (wCons (wC (.d (.int 9))) (wCons (wC (.d (.int 9))) (wCons (wC (.d (.int 100))) (wCons (wOp oPow (wC (.d (.int 10))) (wC (.d (.int 9)))) wNil))))))) wNil))) (wgN 2))
    (wRet (wBlt bTuple (wCons (wLc false (iS (wOp oIx (wVar 1) (wC (.d (.int 1))))) (wgN 3) wYes (wOp oAdd (wC (.d (.int 1))) (wCall sp__law_draw (wCons (wVar 0) (wCons (wVar 2) wNil)))) [3]) wNil))))
/-! ### what stays behind draws -/
def Kp (a : Addr) (M M' : MM) : Prop := ∀ b mo, b ≠ a → M b = some mo → M' b = some mo
theorem Kp.refl {a : Addr} {M : MM} : Kp a M M := fun _ _ _ h => h
theorem Kp.trans {a : Addr} {M M1 M2 : MM} (h : Kp a M M1) (k : Kp a M1 M2) : Kp a M M2 := fun b mo n e => k b mo n (h b mo n e)
theorem Kp.off {a : Addr} {M M1 M2 : MM} (h : Kp a M M1) (k : ∀ b, b ≠ a → M2 b = M1 b) : Kp a M M2 := fun b mo n e => by rw [k b n]; exact h b mo n e
theorem Kp.set {a p : Addr} {M M1 : MM} {o : MO} (h : Kp a M M1) (k : M p = none) : Kp a M (mset M1 p o) := fun b mo n e => by
  have ne : b ≠ p := fun z => by subst z; rw [k] at e; cases e
  rw [mset_ne ne]; exact h b mo n e
theorem Dk.at' {M M' : MM} {a : Addr} {c : Int} (h : Dk M a c) (e : M' a = M a) : Dk M' a c := by
  obtain ⟨cells, p, r, n, hM, h0, h1⟩ := h
  exact ⟨cells, p, r, n, by rw [e]; exact hM, h0, h1⟩
theorem Dk.le {M : MM} {a : Addr} {c c' : Int} (h : Dk M a c) (e : c ≤ c') : Dk M a c' := by
  obtain ⟨cells, p, r, n, hM, h0, h1⟩ := h
  exact ⟨cells, p, r, n, hM, h0, by omega⟩
theorem Dk.ne {M : MM} {a p : Addr} {c : Int} (h : Dk M a c) (e : M p = none) : p ≠ a := fun z => by
  subst z
  obtain ⟨_, _, _, _, hM, _⟩ := h
  rw [hM] at e; cases e
theorem Dk.set {M : MM} {a p : Addr} {c : Int} {o : MO} (h : Dk M a c) (n : p ≠ a) : Dk (mset M p o) a c := h.at' (mset_ne (Ne.symm n))

def sp__law_deck : DSp := fun ws M R xr => ∃ ns : List Int, ws = [.d (.list (ns.map .int))] ∧ ns.length ≤ 63 ∧ ∀ p M', M p = none → Dk M' p 0 → R (.r (.ref p)) M'
theorem pure__law_deck (ws : List W) (M : MM) (R : KW) (xr : XR) (h : sp__law_deck ws M R xr) : w__law_deck (dEnds R xr) (startD ["_law_script"] ws) M := by
  obtain ⟨ns, rfl, hl, k⟩ := h
  unfold w__law_deck
  walk_at "dl"
  rw [cut_map, cut_map]
  simp only [allD_map]
  intro p hp
  refine ⟨_, Sub.refl _, k p _ hp ⟨_, 0, 0, 0, mset_same, by omega, by omega⟩⟩
/-- one of some values -/
def sp__law_one : DSp := fun ws M R xr => ∃ (a : Addr) (c : Int) (ds : List PyData) (x : PyData), ws = [.r (.ref a), .d x] ∧ (x = .tuple ds ∨ x = .list ds) ∧ ds ≠ [] ∧ ds.length < 1073741824 ∧ Dk M a c ∧ c < 1000000000 ∧
  ∀ d M', d ∈ ds → Dk M' a (c + 1) → (∀ b, b ≠ a → M' b = M b) → R (.d d) M'
theorem pure__law_one (ws : List W) (M : MM) (R : KW) (xr : XR) (h : sp__law_one ws M R xr) : w__law_one sp__law_draw (dEnds R xr) (startD ["_law_deck_here", "_law_items"] ws) M := by
  obtain ⟨a, c, ds, x, rfl, hx, hne, hlt, hD, hc, k⟩ := h
  have h0 : 0 < ds.length := List.length_pos_iff.mpr hne
  unfold w__law_one
  rcases hx with rfl | rfl <;> walk_at "dl" <;> refine ⟨a, c, _, rfl, hD, hc, by omega, by omega, fun n M' n0 n1 hD' hF => ?_⟩ <;> walk_at "dl"
  · rw [atI_ok _ n.toNat _ (by omega), List.getElem?_eq_getElem (show n.toNat < ds.length by omega)]
    exact ⟨_, Sub.refl _, k _ _ (List.getElem_mem _) hD' hF⟩
  · rw [atI_ok _ n.toNat _ (by omega), List.getElem?_map, List.getElem?_eq_getElem (show n.toNat < ds.length by omega)]
    exact ⟨_, Sub.refl _, k _ _ (List.getElem_mem _) hD' hF⟩
/-- a drawn net -/
def sp__law_net : DSp := fun ws M R xr => ∃ (a : Addr) (c : Int), ws = [.r (.ref a)] ∧ Dk M a c ∧ c < 900000000 ∧
  ∀ (N : Net) M', N.Ok → Dk M' a (c + 100) → Kp a M M' → R (.d N.d) M'
theorem pure__law_net (ws : List W) (M : MM) (R : KW) (xr : XR) (h : sp__law_net ws M R xr) : w__law_net sp__law_draw (dEnds R xr) (startD ["_law_deck_here", "_law_many", "_law_lines", "_law_place", "_law_turn", "_law_first"] ws) M := by
  obtain ⟨a, c, rfl, hD, hc, k⟩ := h
  unfold w__law_net
  refine wSeq_i fun κ hκ => ?_
  walk_at "dl"
  refine ⟨a, c, 5, rfl, hD, by omega, by omega, by omega, fun m M1 m0 m1 hD1 hF1 => ?_⟩
  walk_at "dl"
  intro p hp
  have hpa := hD1.ne hp
  have hK1 : Kp a M (mset M1 p (.lst [])) := by
    have hpM : M p = none := by rw [← hF1 p hpa]; exact hp
    exact (Kp.refl.off hF1).set hpM
  have hpM : M p = none := by rw [← hF1 p hpa]; exact hp
  subst hκ
  refine wSeq_i fun κ hκ => ?_
  walk_at "dl"
  refine ⟨⟨by decide, by decide, by omega, by omega⟩, ?_⟩
  refine iter_rg (fun i n ρ M' => ∃ x3 x4 x5 ls c', ρ = [some (.r (.ref a)), some (.d (.int (2 + m))), some (.r (.ref p)), x3, x4, x5] ∧ M' p = some (.lst (ls.map fun x => .d (prD x))) ∧ Dk M' a c' ∧ Kp a M M' ∧ 1 ≤ i ∧ i + n = 2 + m ∧ c' ≤ c + 2 * i ∧ (ls.length : Int) < i ∧ (1 < i → ls ≠ []) ∧ ∀ x ∈ ls, 0 ≤ x.1 ∧ x.1 < x.2 ∧ x.2 < 2 + m) ?_ ?_ _ 1 _ _ ⟨_, _, _, [], c + 1, rfl, mset_same, hD1.set hpa, hK1, by omega, by omega, by omega, by simp, fun h => absurd h (by decide), fun _ h => nomatch h⟩
  rotate_left
  · rintro i n _ M2 κ2 ⟨x3, x4, x5, ls, c', rfl, hp2, hD2, hK2, i1, i2, i3, i4, i5, i6⟩ hκ2
    refine ⟨trivial, ?_⟩
    walk_at "dl"
    have fin1 : ∀ (M3 : MM) (c3 n3 : Int), c3 ≤ c + 2 * i + 2 → 0 ≤ n3 → n3 < i → M3 p = M2 p → Dk M3 a c3 → Kp a M M3 → ∀ x3 x4 x5, κ2 [some (.r (.ref a)), some (.d (.int (2 + m))), some (.r (.ref p)), x3, x4, x5] (mset M3 p (.lst ((ls.map fun x => .d (prD x)) ++ [.d (.tuple [.int n3, .int i])]))) :=
      fun M3 c3 n3 hc3 hn0 hn1 hp3 hD3 hK3 x3 x4 x5 => hκ2 _ _ ⟨x3, x4, x5, ls ++ [(n3, i)], c3, rfl, by rw [mset_same, List.map_append]; rfl, hD3.set hpa, hK3.set hpM, by omega, by omega, by omega, by rw [List.length_append, List.length_singleton]; omega, fun _ e => by simp at e, fun x hx => by
        rcases List.mem_append.mp hx with hx | hx
        · exact i6 x hx
        · cases List.mem_singleton.mp hx
          exact ⟨hn0, hn1, show i < 2 + m by omega⟩⟩
    by_cases hi1 : i = 1
    · rw [if_pos hi1]
      refine ⟨by rw [hp2]; rfl, a, c', i, rfl, hD2, by omega, by omega, by omega, fun n3 M3 n0 n1 hD3 hF3 => ?_⟩
      have hp3 : M3 p = M2 p := hF3 p hpa
      walk_at "dl"
      simp only [hp3, hp2]
      refine ⟨by rw [List.length_map]; omega, ?_⟩
      exact fin1 M3 _ n3 (by omega) n0 n1 hp3 hD3 (hK2.off hF3) _ _ _
    · rw [if_neg hi1]
      refine ⟨a, c', 9, rfl, hD2, by omega, by omega, by omega, fun n4 M4 _ _ hD4 hF4 => ?_⟩
      have hp4 : M4 p = M2 p := hF4 p hpa
      walk_at "dl"
      by_cases hn4 : 0 < n4
      · rw [if_pos hn4]
        refine ⟨by rw [hp4, hp2]; rfl, a, _, i, rfl, hD4, by omega, by omega, by omega, fun n3 M3 n0 n1 hD3 hF3 => ?_⟩
        have hp3 : M3 p = M2 p := by rw [hF3 p hpa]; exact hp4
        walk_at "dl"
        simp only [hp3, hp2]
        refine ⟨by rw [List.length_map]; omega, ?_⟩
        exact fin1 M3 _ n3 (by omega) n0 n1 hp3 hD3 ((hK2.off hF4).off hF3) _ _ _
      · rw [if_neg hn4]
        exact hκ2 _ _ ⟨_, _, _, ls, _, rfl, by rw [hp4]; exact hp2, hD4, hK2.off hF4, by omega, by omega, by omega, by omega, fun _ => i5 (by omega), i6⟩
  rintro i _ M2 ⟨x3, x4, x5, ls, c', rfl, hp2, hD2, hK2, i1, i2, i3, i4, i5, i6⟩
  refine ⟨trivial, ?_⟩
  dsimp only
  subst hκ
  refine wSeq_i fun κ hκ => ?_
  walk_at "dl"
  simp only [hp2]
  walk_at "dl"
  have hls : ls ≠ [] := i5 (by omega)
  have hl0 : 0 < ls.length := List.length_pos_iff.mpr hls
  refine ⟨a, c', _, rfl, hD2, by omega, by omega, by omega, fun n4 M4 n40 n41 hD4 hF4 => ?_⟩
  have hp4 : M4 p = M2 p := hF4 p hpa
  walk_at "dl"
  refine ⟨⟨by omega, by omega⟩, ?_⟩
  refine iter_rg (fun i n ρ M' => ∃ x3 x4 x5 ls c', ρ = [some (.r (.ref a)), some (.d (.int (2 + m))), some (.r (.ref p)), x3, x4, x5] ∧ M' p = some (.lst (ls.map fun x => .d (prD x))) ∧ Dk M' a c' ∧ Kp a M M' ∧ 0 ≤ i ∧ i ≤ 9 ∧ ls.length + n ≤ 8 ∧ (n : Int) + i ≤ 8 ∧ c' ≤ c + 15 + 2 * i ∧ ls ≠ [] ∧ ∀ x ∈ ls, 0 ≤ x.1 ∧ x.1 < x.2 ∧ x.2 < 2 + m) ?_ ?_ _ 0 _ _ ⟨_, _, _, ls, _, rfl, by rw [hp4]; exact hp2, hD4, hK2.off hF4, by omega, by omega, by omega, by omega, by omega, hls, fun x hx => by
    have := i6 x hx; omega⟩
  rotate_left
  · clear i1 i2 i3 i4 i5 i6 hp2 hD2 hK2 hls hl0 hD4 hF4 hp4 n40 n41
    rintro i n _ M2 κ2 ⟨x3, x4, x5, ls, c', rfl, hp2, hD2, hK2, i1, i2, i3, i4, i5, i6, i7⟩ hκ2
    refine ⟨trivial, ?_⟩
    refine wSeq_i fun κ3 hκ3 => ?_
    walk_at "dl"
    refine ⟨a, c', _, rfl, hD2, by omega, by omega, by omega, fun n4 M4 n40 n41 hD4 hF4 => ?_⟩
    have hp4 : M4 p = M2 p := hF4 p hpa
    walk_at "dl"
    subst hκ3
    walk_at "dl"
    refine ⟨by rw [hp4, hp2]; rfl, a, _, _, rfl, hD4, by omega, by omega, by omega, fun n3 M3 n30 n31 hD3 hF3 => ?_⟩
    have hp3 : M3 p = M2 p := by rw [hF3 p hpa]; exact hp4
    walk_at "dl"
    simp only [hp3, hp2]
    refine ⟨by rw [List.length_map]; omega, ?_⟩
    refine hκ2 _ _ ⟨_, _, _, ls ++ [(n4, n4 + 1 + n3)], _, rfl, by rw [mset_same, List.map_append]; rfl, hD3.set hpa, ((hK2.off hF4).off hF3).set hpM, by omega, by omega, by rw [List.length_append, List.length_singleton]; omega, by omega, by omega, fun e => by simp at e, fun x hx => ?_⟩
    rcases List.mem_append.mp hx with hx | hx
    · exact i7 x hx
    · cases List.mem_singleton.mp hx
      exact ⟨n40, show n4 < n4 + 1 + n3 by omega, show n4 + 1 + n3 < 2 + m by omega⟩
  clear i1 i2 i3 i4 i5 i6 hp2 hD2 hK2 hls hl0 hD4 hF4 hp4 n40 n41
  rintro i _ M2 ⟨x3, x4, x5, ls, c', rfl, hp2, hD2, hK2, i1, i2, i3, i4, i5, i6, i7⟩
  refine ⟨trivial, ?_⟩
  dsimp only
  subst hκ
  refine wSeq_i fun κ hκ => ?_
  have hl0 : 0 < ls.length := List.length_pos_iff.mpr i6
  walk_at "dl"
  simp only [hp2]
  walk_at "dl"
  refine ⟨a, c', _, rfl, hD2, by omega, by omega, by omega, fun n4 M4 n40 n41 hD4 hF4 => ?_⟩
  have hp4 : M4 p = M2 p := hF4 p hpa
  walk_at "dl"
  subst hκ
  walk_at "dl"

  simp only [hp4, hp2, cut_map, allD_f, ← List.map_append, allD_map]
  rw [cut_from ls n40 (by omega), cut_to ls n40 (by omega)]
  have hmem : ∀ x ∈ ls.drop n4.toNat ++ ls.take n4.toNat, x ∈ ls := fun x hx => by
    rcases List.mem_append.mp hx with hx | hx
    · exact List.mem_of_mem_drop hx
    · exact List.mem_of_mem_take hx
  have hlen : (ls.drop n4.toNat ++ ls.take n4.toNat).length = ls.length := by
    rw [List.length_append, List.length_drop, List.length_take]; omega

  refine ⟨by rw [List.length_map, List.length_map, ← List.length_append, hlen]; omega, _, Sub.refl _, k ⟨2 + m, ls.drop n4.toNat ++ ls.take n4.toNat⟩ _ ⟨?_, ?_, ?_, ?_, ?_⟩ ?_ ?_⟩
  · show 2 ≤ 2 + m; omega
  · show 2 + m ≤ 6; omega
  · rw [hlen]; omega
  · rw [hlen]; omega
  · exact fun x hx => i7 x (hmem x hx)
  · exact hD4.le (by omega)
  · exact hK2.off hF4

/-- the place at the other side -/
def sp__law_next : DSp := fun ws M R xr => ∃ (N : Net) (p : Int) (l : Nat), ws = [.d N.d, .d (.int p), .d (nD l)] ∧ l < N.ls.length ∧ R (.d (oD (nextP N.ls p l))) M
theorem pure__law_next (ws : List W) (M : MM) (R : KW) (xr : XR) (h : sp__law_next ws M R xr) : w__law_next (dEnds R xr) (startD ["_law_net_here", "_law_place", "_law_line", "_law_first", "_law_second"] ws) M := by
  obtain ⟨N, p, l, rfl, hl, k⟩ := h
  unfold w__law_next
  refine wSeq_i fun κ hκ => ?_
  unfold Net.d nD
  walk_at "dl"
  rw [atI_ok _ l _ rfl, List.getElem?_map, List.getElem?_eq_getElem hl]
  have e : nextP N.ls p l = if p = (N.ls[l]).1 then some (N.ls[l]).2 else if p = (N.ls[l]).2 then some (N.ls[l]).1 else none := by
    unfold nextP
    rw [List.getElem?_eq_getElem hl]
  rw [e] at k
  generalize N.ls[l] = x at k ⊢
  obtain ⟨a, b⟩ := x
  unfold prD
  walk_at "dl"
  subst hκ
  refine wSeq_i fun κ hκ => ?_
  walk_at "dl"
  by_cases h1 : p = a
  · rw [if_pos h1]
    simp only [if_pos h1] at k
    exact ⟨_, Sub.refl _, k⟩
  · rw [if_neg h1]
    simp only [if_neg h1] at k
    subst hκ
    walk_at "dl"
    by_cases h2 : p = b
    · rw [if_pos h2]
      simp only [if_pos h2] at k
      exact ⟨_, Sub.refl _, k⟩
    · rw [if_neg h2]
      simp only [if_neg h2] at k
      exact ⟨_, Sub.refl _, k⟩
/-- the places of a route, by the law -/
def sp__law_way : DSp := fun ws M R xr => ∃ (N : Net) (ps : List Int) (lns : List Nat), ws = [.d N.d, .d (rD (ps.headD 0) lns)] ∧ N.Ok ∧ Pth N.ls ps lns ∧ lns.length ≤ 1000 ∧ R (.d (.list (ps.map .int))) M
theorem pure__law_way (ws : List W) (M : MM) (R : KW) (xr : XR) (h : sp__law_way ws M R xr) : w__law_way sp__law_next (dEnds R xr) (startD ["_law_net_here", "_law_route_here", "_law_places", "_law_line"] ws) M := by
  obtain ⟨N, ps, lns, rfl, hN, hP, hl, k⟩ := h
  unfold w__law_way
  refine wSeq_i fun κ hκ => ?_
  unfold rD
  walk_at "dl"
  intro p hp
  subst hκ
  refine wSeq_i fun κ hκ => ?_
  walk_at "dl"
  rw [List.map_map]
  refine iter_ls (α := Nat) (fun r ρ M' => ∃ (x3 : Option W) (qs : List Int) (q : Int) (rs : List Int), ρ = [some (.d N.d), some (.d (.tuple [.int (ps.headD 0), .tuple (lns.map nD)])), some (.r (.ref p)), x3] ∧ M' p = some (.lst ((qs ++ [q]).map fun q => .d (.int q))) ∧ ps = qs ++ q :: rs ∧ Pth N.ls (q :: rs) r ∧ (∀ b, b ≠ p → M' b = M b)) ?_ ?_ lns _ _ ?_
  · rintro _ M' ⟨x3, qs, q, rs, rfl, h1, h2, h3, h4⟩
    refine ⟨trivial, ?_⟩
    dsimp only
    subst hκ
    walk_at "dl"
    simp only [h1, allD_f]
    cases h3
    rw [h2] at k
    refine ⟨M, fun b mo hb => ?_, k⟩
    have ne : b ≠ p := fun z => by subst z; rw [hp] at hb; cases hb
    rw [mdel_ne ne, h4 b ne]; exact hb
  · rintro l r _ M' κ2 ⟨x3, qs, q, rs, rfl, h1, h2, h3, h4⟩ hκ2
    refine ⟨trivial, ?_⟩
    cases h3
    rename_i q2 rs hn h3
    walk_at "dl"
    simp only [h1, List.map_append, List.map_cons, List.map_nil, atm1, Function.comp]
    have hln := (nextP_back hN hn).2.2.2.2.2.1
    refine ⟨rfl, N, q, l, rfl, hln, ?_⟩
    simp only [h1, hn]
    have hlen := hP.len
    rw [h2] at hlen
    simp only [List.length_append, List.length_cons, List.length_map, List.length_nil] at hlen ⊢
    refine ⟨by omega, ?_⟩
    refine hκ2 _ _ ⟨_, qs ++ [q], q2, rs, rfl, by simp only [mset_same, List.map_append]; rfl, by rw [h2, List.append_assoc]; rfl, h3, fun b hb => by rw [mset_ne hb]; exact h4 b hb⟩
  · obtain ⟨s, qs, e⟩ : ∃ s qs, ps = s :: qs := by cases hP <;> exact ⟨_, _, rfl⟩
    subst e
    exact ⟨_, [], s, qs, rfl, mset_same, rfl, hP, fun b hb => mset_ne hb⟩

/-- a drawn route -/
def sp__law_route : DSp := fun ws M R xr => ∃ (a : Addr) (c : Int) (N : Net), ws = [.r (.ref a), .d N.d] ∧ N.Ok ∧ Dk M a c ∧ c < 900000000 ∧
  ∀ (ps : List Int) (lns : List Nat) M', Rt N ps lns → lns.length ≤ 6 → Dk M' a (c + 20) → Kp a M M' → R (.d (rD (ps.headD 0) lns)) M'
theorem sh_nats' (ns : List Nat) : SeqAt.shaped (.list (ns.map nD)) = true := sh_nats ns
theorem flat_ints (ns : List Int) : (ns.map PyData.int).all flatD = true := by
  rw [List.all_map]; exact List.all_eq_true.mpr fun _ _ => rfl
theorem any_ints (ns : List Int) (i : Int) : ((ns.map PyData.int).any fun z => PyData.eqv z (.int i)) = decide (i ∈ ns) := by
  rw [List.any_map]
  have e : ((fun z => PyData.eqv z (.int i)) ∘ PyData.int) = fun z : Int => decide (z = i) := by
    funext z; exact eqv_int z i
  rw [e]
  rw [Bool.eq_iff_iff, List.any_eq_true, decide_eq_true_eq]
  constructor
  · rintro ⟨x, hx, h⟩
    rw [decide_eq_true_eq] at h
    rw [← h]; exact hx
  · intro h
    exact ⟨i, h, decide_eq_true rfl⟩
theorem pure__law_route (ws : List W) (M : MM) (R : KW) (xr : XR) (h : sp__law_route ws M R xr) : w__law_route sp__law_one sp__law_draw sp__law_next (dEnds R xr) (startD ["_law_deck_here", "_law_net_here", "_law_first", "_law_second", "_law_start", "_law_lines", "_law_places", "_law_turn", "_law_here", "_law_line"] ws) M := by
  obtain ⟨a, c, N, rfl, hN, hD, hc, k⟩ := h
  unfold w__law_route
  have hl1 := hN.l1
  have hl8 := hN.l8
  have hp2 := hN.p2
  have hp6 := hN.p6
  refine wSeq_i fun κ hκ => ?_
  have en : N.d = .tuple [.int N.p, .tuple (N.ls.map prD)] := rfl
  walk_at "dl"
  rw [en]
  walk_at "dl"
  refine ⟨a, c, _, _, rfl, .inl rfl, fun e => by rw [List.map_eq_nil_iff] at e; rw [e] at hl1; exact absurd hl1 (by decide), by rw [List.length_map]; omega, hD, by omega, fun d M1 hd hD1 hF1 => ?_⟩
  obtain ⟨⟨x, y⟩, hxy, rfl⟩ := List.mem_map.mp hd
  unfold prD
  walk_at "dl"
  subst hκ
  refine wSeq_i fun κ hκ => ?_
  walk_at "dl"
  refine ⟨a, _, _, _, rfl, .inr rfl, fun e => (by cases e), (by show 2 < 1073741824; decide), hD1, by omega, fun d M2 hs0 hD2 hF2 => ?_⟩
  obtain ⟨s, rfl, hs⟩ : ∃ s, d = .int s ∧ (s = x ∨ s = y) := by
    rcases List.mem_cons.mp hs0 with rfl | hs0
    · exact ⟨_, rfl, .inl rfl⟩
    · rcases List.mem_cons.mp hs0 with rfl | hs0
      · exact ⟨_, rfl, .inr rfl⟩
      · cases hs0
  subst hκ
  refine wSeq_i fun κ hκ => ?_
  walk_at "dl"
  subst hκ
  refine wSeq_i fun κ hκ => ?_
  walk_at "dl"
  refine ⟨a, _, _, rfl, hD2, by omega, by omega, by omega, fun m M3 m0 m1 hD3 hF3 => ?_⟩
  walk_at "dl"
  refine ⟨⟨by omega, by omega⟩, ?_⟩
  -- a line of the net leads on from the start
  obtain ⟨l0, q0, hn0, hq0, hl0⟩ : ∃ l q, nextP N.ls s l = some q ∧ q ≠ s ∧ l < N.ls.length := by
    obtain ⟨l, hl, e⟩ := List.getElem_of_mem hxy
    have e2 : N.ls[l]? = some (x, y) := by rw [List.getElem?_eq_getElem hl, e]
    obtain ⟨_, h2, _⟩ := hN.ln _ hxy
    simp only at h2
    have e3 : ∃ q, nextP N.ls s l = some q := by
      unfold nextP
      rw [e2]
      rcases hs with rfl | rfl
      · exact ⟨y, if_pos rfl⟩
      · exact ⟨x, by show (if s = x then some s else if s = s then some x else none) = some x; rw [if_neg (by omega), if_pos rfl]⟩
    obtain ⟨q, e3⟩ := e3
    exact ⟨l, q, e3, fun z => (nextP_back hN e3).2.2.2.2.2.2 z.symm, hl⟩
  refine iter_rg (fun i n ρ M' => ∃ (x7 x8 x9 : Option W) (lns : List Nat) (qs : List Int) (q : Int) (c' : Int), ρ = [some (.r (.ref a)), some (.d N.d), some (.d (.int x)), some (.d (.int y)), some (.d (.int s)), some (.d (.tuple (lns.map nD))), some (.d (.tuple ((qs ++ [q]).map .int))), x7, x8, x9] ∧
      Pth N.ls (qs ++ [q]) lns ∧ (qs ++ [q]).Nodup ∧ (qs ++ [q]).headD 0 = s ∧ Dk M' a c' ∧ Kp a M M' ∧ 0 ≤ i ∧ i + n = 1 + m ∧ c' ≤ c + 3 + i ∧ (lns.length : Int) ≤ i ∧ (i = 0 → qs = [] ∧ q = s) ∧ (0 < i → lns ≠ [])) ?_ ?_ _ 0 _ _
    ⟨_, _, _, [], [], s, _, rfl, .one s, List.pairwise_singleton _ _, rfl, hD3, ((Kp.refl.off hF1).off hF2).off hF3, by omega, by omega, by omega, by decide, fun _ => ⟨rfl, rfl⟩, fun h => absurd h (by decide)⟩
  · rintro i _ M4 ⟨x7, x8, x9, lns, qs, q, c', rfl, i1, i2, i3, i4, i5, i6, i7, i8, i9, i10, i11⟩
    refine ⟨trivial, ?_⟩
    dsimp only
    subst hκ
    walk_at "dl"
    have kk := k (qs ++ [q]) lns M4 ⟨i1, i2, i11 (by omega)⟩ (by omega) (i4.le (by omega)) i5
    rw [i3] at kk
    exact ⟨_, Sub.refl _, kk⟩
  · rintro i n _ M4 κ2 ⟨x7, x8, x9, lns, qs, q, c', rfl, i1, i2, i3, i4, i5, i6, i7, i8, i9, i10, i11⟩ hκ2
    refine ⟨trivial, ?_⟩
    refine wSeq_i fun κ3 hκ3 => ?_
    walk_at "dl"
    rw [en]
    walk_at "dl"
    refine ⟨⟨by omega, by omega⟩, ?_⟩
    rw [rgW_nat]
    refine lc_fm (fun l : Nat => W.d (.int (l : Int))) (fun l => (nextP N.ls q l).isSome) (fun l => W.d (nD l)) trivial _ _ ?_ ?_ ?_ ?_
    · intro l hl Q hQ
      have hl' : l < N.ls.length := by
        have := List.mem_range.mp hl
        omega
      walk_at "dl"
      simp only [List.map_append, List.map_cons, List.map_nil, atm1]
      refine ⟨N, q, l, rfl, hl', ?_⟩
      cases hn : nextP N.ls q l <;> rw [hn] at hQ <;> exact hQ
    · intro l hl hp Q hQ
      exact hQ
    · simp only [List.length_nil, List.length_range]; omega
    rw [List.nil_append, allD_f]
    walk_at "dl"
    generalize hf1 : (List.range ((N.ls.length : Int).toNat)).filter (fun l => (nextP N.ls q l).isSome) = f1
    have hf1' : ∀ l, l ∈ f1 ↔ l < N.ls.length ∧ (nextP N.ls q l).isSome = true := fun l => by
      rw [← hf1, List.mem_filter, List.mem_range]
      constructor <;> rintro ⟨h1, h2⟩ <;> exact ⟨by omega, h2⟩
    have hf1l : f1.length ≤ 8 := by
      have := List.length_filter_le (fun l => (nextP N.ls q l).isSome) (List.range ((N.ls.length : Int).toNat))
      rw [hf1, List.length_range] at this
      omega
    subst hκ3
    refine wSeq_i fun κ3 hκ3 => ?_
    walk_at "dl"
    rw [List.map_map]
    refine lc_fm (W.d ∘ nD) (fun l => match nextP N.ls q l with | some z => !decide (z ∈ qs ++ [q]) | none => false) (fun l => W.d (nD l)) trivial _ _ ?_ ?_ ?_ ?_
    · intro l hl Q hQ
      obtain ⟨hl', hs⟩ := (hf1' l).mp hl
      obtain ⟨z, hz⟩ := Option.isSome_iff_exists.mp hs
      walk_at "dl"
      simp only [List.map_append, List.map_cons, List.map_nil, atm1]
      refine ⟨N, q, l, rfl, hl', ?_⟩
      rw [hz] at hQ ⊢
      have e1 := flat_ints (qs ++ [q])
      have e2 := any_ints (qs ++ [q]) z
      rw [List.map_append] at e1 e2
      refine ⟨rfl, e1, ?_⟩
      have e3 : oD (some z) = .int z := rfl
      rw [e3]
      have e4 : ([q].map PyData.int) = [PyData.int q] := rfl
      rw [← e4, e2]
      exact hQ
    · intro l hl hp Q hQ
      exact hQ
    · simp only [List.length_nil]; omega
    rw [List.nil_append, allD_f]
    walk_at "dl"
    generalize hf2 : f1.filter _ = f2
    have hf2' : ∀ l, l ∈ f2 ↔ l < N.ls.length ∧ ∃ z, nextP N.ls q l = some z ∧ z ∉ qs ++ [q] := fun l => by
      rw [← hf2, List.mem_filter, hf1']
      cases hn : nextP N.ls q l with
      | none => simp
      | some z => simp
    subst hκ3
    walk_at "dl"
    refine ⟨sh_nats' _, ?_⟩
    cases hem : f2.isEmpty with
    | true =>
      simp only [Bool.true_eq_false, if_false]
      refine hκ2 _ _ ⟨_, _, _, lns, qs, q, c', rfl, i1, i2, i3, i4, i5, by omega, by omega, by omega, by omega, fun z => absurd z (by omega), fun _ => ?_⟩
      by_cases h0 : i = 0
      · obtain ⟨rfl, rfl⟩ := i10 h0
        have hin : l0 ∈ f2 := (hf2' l0).mpr ⟨hl0, q0, hn0, by simpa using hq0⟩
        rw [List.isEmpty_iff] at hem
        rw [hem] at hin; cases hin
      · exact i11 (by omega)
    | false =>
      simp only [if_true]
      have hne : f2 ≠ [] := fun z => by rw [z] at hem; cases hem
      have hf2l : f2.length ≤ 8 := by
        have := List.length_filter_le (fun l => match nextP N.ls q l with | some z => !decide (z ∈ qs ++ [q]) | none => false) f1
        rw [hf2] at this
        omega
      refine wSeq_i fun κ3 hκ3 => ?_
      walk_at "dl"
      refine ⟨a, c', _, _, rfl, .inr rfl, fun e => hne (List.map_eq_nil_iff.mp e), by rw [List.length_map]; omega, i4, by omega, fun d M5 hd hD5 hF5 => ?_⟩
      obtain ⟨l, hl, rfl⟩ := List.mem_map.mp hd
      obtain ⟨hlN, z, hz, hzn⟩ := (hf2' l).mp hl
      subst hκ3
      walk_at "dl"
      simp only [List.map_append, List.map_cons, List.map_nil, atm1]
      refine ⟨by omega, N, q, l, rfl, hlN, ?_⟩
      rw [hz]
      walk_at "dl"
      have hpl := i1.len
      simp only [List.length_append, List.length_cons, List.length_nil, List.length_map] at hpl ⊢
      refine ⟨by omega, ?_⟩
      refine hκ2 _ _ ⟨some (.d (.int i)), some (.d (.list (f2.map nD))), some (.d (nD l)), lns ++ [l], qs ++ [q], z, _, by simp only [List.map_append, List.map_cons, List.map_nil]; rfl, i1.snoc hz, ?_, ?_, hD5, i5.off hF5, by omega, by omega, by omega, ?_, fun z => absurd z (by omega), fun _ e => by simp at e⟩
      · exact List.nodup_append.mpr ⟨i2, List.pairwise_singleton _ _, fun u hu v hv => by
          cases List.mem_singleton.mp hv
          exact fun e => hzn (e ▸ hu)⟩
      · rw [← i3]
        cases qs <;> rfl
      · rw [List.length_append, List.length_singleton]; omega
end DL
namespace DL
open PySem PySem.Spec PyProof.Rows L2
local macro_rules | `(tactic| walk_at "dl") => `(tactic| simp only [wAsg, wOp, wVar, wC, wgN, wgTup, wgCons, wgNil, wgSub, setW, wIf, wTest, wNext, wRet, wRetN, wDrop, wAndT, wOrT, wNotT, wAndV, wOrV, wNotV, wIfE, wNeg, wNil, wCons, wTup, wTupR, wLst, wBlt, wCall, wFrz, wFz, frz, wSl, wNoP, wSoP, wPar2, wPar3, wMethL, mAppend, isLst,
  wRev, wInR, wLenSet, bStr, bMax2, bMin2, wChain, wLc, wipeW, wYes, xq0, mkL, mkT, allD, allD_map, seeL, seeD, seeT, seeS, ownL, oIx, ixW, oAdd, oSub, oMul, oMod, oDiv, oPow, oLt, oLe, oGt, oGe, oB, isInts, oEq, oIsN, isNon, oIsB, oIn, oCat, oRep, bLen, bInt, bAbs, bList, bTuple, seeA, bSum, bInts, bAll, bAny, bBools, bIsi, tyName, bReprS,
  wFor, iR1, iR2, iS, iE, iEB, enW, iZ, stL, startD, dEnds, fin, at0, at1, at2, at3, at4, atm1, atm1', ix40, ix41, ix42, ix43, eqv_int, eqv_none_int, eqv_int_none, eqv_none, eqv_lnil, eqv_tnil, eqv_str, sh_int, sh_none, sh_bool, sh_ints, sh_nil, sh_tints, sh_tnil,
  kit_NoneType_bool, kit_NoneType_int, kit_NoneType_str, kit_NoneType_list, kit_NoneType_tuple, kit_bool_bool, kit_bool_int, kit_bool_str, kit_bool_list, kit_bool_tuple, kit_int_bool, kit_int_int, kit_int_str, kit_int_list, kit_int_tuple, kit_str_bool, kit_str_int, kit_str_str, kit_str_list, kit_str_tuple,
  kit_list_bool, kit_list_int, kit_list_str, kit_list_list, kit_list_tuple, kit_tuple_bool, kit_tuple_int, kit_tuple_str, kit_tuple_list, kit_tuple_tuple, kit_dict_bool, kit_dict_int, kit_dict_str, kit_dict_list, kit_dict_tuple,
  List.map_cons, List.map_nil, List.length_cons, List.length_nil, List.length_map, List.replicate, List.cons_append, List.nil_append, List.getElem?_cons_zero, List.getElem?_cons_succ, List.set_cons_zero, List.set_cons_succ, List.isEmpty_map,
  Bool.false_eq_true, reduceCtorEq, Nat.reduceAdd, Nat.reduceSub, Nat.reduceLeDiff, Option.map_some, Option.bind_some, true_and, and_true, decide_eq_true_eq, Bool.not_eq_true', Bool.not_true, Bool.not_false, decide_eq_false_iff_not, if_true, if_false, ite_true, ite_false, reduceIte, mset_same])
/-! ### lengths -/
def lenP (xs : List Int) (lns : List Nat) : Int := (lns.map fun l => xs.getD l 0).sum
def sp__law_size : DSp := fun ws M R xr => ∃ (xs : List Int) (s : Int) (lns : List Nat), ws = [.d (.tuple (xs.map .int)), .d (rD s lns)] ∧ (∀ l ∈ lns, l < xs.length) ∧ lns.length ≤ 100000 ∧ R (.d (.int (lenP xs lns))) M
def sp_length_of : DSp := fun ws M R xr => ∃ (d : PyData) (xs : List Int) (s : Int) (lns : List Nat), ws = [.d d, .d (.tuple (xs.map .int)), .d (rD s lns)] ∧ (∀ l ∈ lns, l < xs.length) ∧ lns.length ≤ 100000 ∧ R (.d (.int (lenP xs lns))) M
theorem pure__law_size (ws : List W) (M : MM) (R : KW) (xr : XR) (h : sp__law_size ws M R xr) : w__law_size (dEnds R xr) (startD ["_law_lengths_here", "_law_route_here", "_law_line"] ws) M := by
  obtain ⟨xs, s, lns, rfl, hl, hz, k⟩ := h
  unfold w__law_size rD
  walk_at "dl"
  rw [List.map_map]
  refine lc_m (W.d ∘ nD) (fun l => W.d (.int (xs.getD l 0))) trivial _ ?_ (by omega) ?_
  · intro l hlm Q hQ
    unfold nD
    walk_at "dl"
    simp only [Function.comp]
    rw [atI_ok _ l _ rfl, List.getElem?_map, List.getElem?_eq_getElem (hl l hlm)]
    have e : xs.getD l 0 = xs[l]'(hl l hlm) := by rw [List.getD_eq_getElem?_getD, List.getElem?_eq_getElem (hl l hlm)]; rfl
    rw [e] at hQ; exact hQ
  rw [allD_f]
  simp only [intsD_f]
  exact ⟨_, Sub.refl _, k⟩
theorem pure_length_of (ws : List W) (M : MM) (R : KW) (xr : XR) (h : sp_length_of ws M R xr) : w_length_of (dEnds R xr) (startD ["net", "lengths", "route", "line"] ws) M := by
  obtain ⟨d, xs, s, lns, rfl, hl, hz, k⟩ := h
  unfold w_length_of rD
  walk_at "dl"
  rw [List.map_map]
  refine lc_m (W.d ∘ nD) (fun l => W.d (.int (xs.getD l 0))) trivial _ ?_ (by omega) ?_
  · intro l hlm Q hQ
    unfold nD
    walk_at "dl"
    simp only [Function.comp]
    rw [atI_ok _ l _ rfl, List.getElem?_map, List.getElem?_eq_getElem (hl l hlm)]
    have e : xs.getD l 0 = xs[l]'(hl l hlm) := by rw [List.getD_eq_getElem?_getD, List.getElem?_eq_getElem (hl l hlm)]; rfl
    rw [e] at hQ; exact hQ
  rw [allD_f]
  simp only [intsD_f]
  exact ⟨_, Sub.refl _, k⟩
theorem Rt.last {N : Net} {ps : List Int} {lns : List Nat} (hr : Rt N ps lns) : ∃ y, ps = y ++ [ps.reverse.headD 0] := by
  obtain ⟨s, qs, e, _⟩ := hr.shape
  have h1 : ps.reverse ≠ [] := by rw [e]; simp
  have h2 : ps.reverse = ps.reverse.headD 0 :: ps.reverse.tail := by
    cases hq : ps.reverse with
    | nil => exact absurd hq h1
    | cons x r => rfl
  have h3 : ps = (ps.reverse.headD 0 :: ps.reverse.tail).reverse := by rw [← h2, List.reverse_reverse]
  rw [List.reverse_cons] at h3
  exact ⟨_, h3⟩
theorem Rt.atlast {N : Net} {ps : List Int} {lns : List Nat} (hr : Rt N ps lns) : atI ((ps.map PyData.int).map W.d) (-1) = some (W.d (.int (ps.reverse.headD 0))) := by
  obtain ⟨y, e⟩ := hr.last
  generalize ps.reverse.headD 0 = z at e
  subst e
  rw [List.map_append, List.map_append]
  exact atm1 _ _
/-- ends and ways back of routes -/
def sp_end_of : DSp := fun ws M R xr => ∃ (N : Net) (ps : List Int) (lns : List Nat), ws = [.d N.d, .d (rD (ps.headD 0) lns)] ∧ N.Ok ∧ Rt N ps lns ∧ lns.length ≤ 1000 ∧ R (.d (.int (ps.reverse.headD 0))) M
theorem pure_end_of (ws : List W) (M : MM) (R : KW) (xr : XR) (h : sp_end_of ws M R xr) : w_end_of sp_places_of (dEnds R xr) (startD ["net", "route"] ws) M := by
  obtain ⟨N, ps, lns, rfl, hN, hr, hz, k⟩ := h
  unfold w_end_of
  walk_at "dl"
  refine ⟨N, _, lns, rfl, hr.pth.ln hN, by omega, ?_⟩
  rw [hr.pth.places]
  obtain ⟨s, qs, e, _⟩ := hr.shape
  have e2 : ps = ps.reverse.tail.reverse ++ [ps.reverse.headD 0] := by
    have h1 : ps.reverse ≠ [] := by rw [e]; simp
    have h2 : ps.reverse = ps.reverse.headD 0 :: ps.reverse.tail := by
      cases hq : ps.reverse with
      | nil => exact absurd hq h1
      | cons x r => rfl
    have h3 : ps = (ps.reverse.headD 0 :: ps.reverse.tail).reverse := by rw [← h2, List.reverse_reverse]
    rw [List.reverse_cons] at h3
    exact h3
  generalize ps.reverse.headD 0 = z at k e2
  generalize ps.reverse.tail.reverse = y at e2
  subst e2
  simp only [List.map_append, List.map_cons, List.map_nil]
  walk_at "dl"
  exact ⟨_, Sub.refl _, k⟩
def sp_back : DSp := fun ws M R xr => ∃ (N : Net) (ps : List Int) (lns : List Nat), ws = [.d N.d, .d (rD (ps.headD 0) lns)] ∧ N.Ok ∧ Rt N ps lns ∧ lns.length ≤ 1000 ∧ R (.d (rD (ps.reverse.headD 0) lns.reverse)) M
theorem pure_back (ws : List W) (M : MM) (R : KW) (xr : XR) (h : sp_back ws M R xr) : w_back sp_end_of (dEnds R xr) (startD ["net", "route"] ws) M := by
  obtain ⟨N, ps, lns, rfl, hN, hr, hz, k⟩ := h
  unfold w_back
  walk_at "dl"
  refine ⟨N, _, lns, rfl, hN, hr, hz, ?_⟩
  unfold rD
  walk_at "dl"
  unfold rD at k
  rw [List.map_reverse] at k
  exact ⟨_, Sub.refl _, k⟩
/-- drawn lengths -/
def sp__law_lengths : DSp := fun ws M R xr => ∃ (a : Addr) (c : Int) (N : Net), ws = [.r (.ref a), .d N.d] ∧ N.Ok ∧ Dk M a c ∧ c < 900000000 ∧
  ∀ (xs : List Int) M', xs.length = N.ls.length → (∀ x ∈ xs, 1 ≤ x ∧ x ≤ 1000000000) → Dk M' a (c + 20) → Kp a M M' → R (.d (.tuple (xs.map .int))) M'
theorem pure__law_lengths (ws : List W) (M : MM) (R : KW) (xr : XR) (h : sp__law_lengths ws M R xr) : w__law_lengths sp__law_one sp__law_draw (dEnds R xr) (startD ["_law_deck_here", "_law_net_here", "_law_top", "_law_line"] ws) M := by
  obtain ⟨a, c, N, rfl, hN, hD, hc, k⟩ := h
  have en : N.d = .tuple [.int N.p, .tuple (N.ls.map prD)] := rfl
  have hl8 := hN.l8
  unfold w__law_lengths
  refine wSeq_i fun κ hκ => ?_
  walk_at "dl"
  refine ⟨⟨by decide, by decide, by decide⟩, a, c, _, _, rfl, .inr rfl, fun e => (by cases e), (by show 6 < 1073741824; decide), hD, by omega, fun d M1 hd hD1 hF1 => ?_⟩
  obtain ⟨t, rfl, ht0, ht1⟩ : ∃ t, d = .int t ∧ 1 ≤ t ∧ t ≤ 1000000000 := by
    simp only [List.mem_cons, List.not_mem_nil, or_false] at hd
    rcases hd with rfl | rfl | rfl | rfl | rfl | rfl <;> exact ⟨_, rfl, by decide, by decide⟩
  subst hκ
  rw [en]
  walk_at "dl"
  rw [List.map_map]
  refine lc_ls (f := W.d ∘ prD) (fun r acc M' => ∃ (xs : List Int) (c' : Int), acc = xs.map (fun x => W.d (.int x)) ∧ xs.length + r.length = N.ls.length ∧ (∀ x ∈ xs, 1 ≤ x ∧ x ≤ 1000000000) ∧ Dk M' a c' ∧ c' ≤ c + 1 + xs.length ∧ Kp a M M') ?_ ?_ N.ls [] M1 ⟨[], _, rfl, by simp, (fun _ h => nomatch h), hD1, by simp, Kp.refl.off hF1⟩
  · rintro _ M2 ⟨xs, c', rfl, h1, h2, h3, h4, h5⟩
    refine ⟨trivial, ?_⟩
    rw [allD_f]
    walk_at "dl"
    rw [List.length_nil] at h1
    exact ⟨_, Sub.refl _, k xs M2 (by omega) h2 (h3.le (by omega)) h5⟩
  · rintro x r _ M2 κ ⟨xs, c', rfl, h1, h2, h3, h4, h5⟩ hκ
    rw [List.length_cons] at h1
    refine ⟨trivial, ?_⟩
    walk_at "dl"
    refine ⟨a, c', t, rfl, h3, by omega, by omega, by omega, fun n M3 n0 n1 hD3 hF3 => ?_⟩
    walk_at "dl"
    refine ⟨by omega, ?_⟩
    refine hκ _ _ ⟨xs ++ [1 + n], _, by rw [List.map_append]; rfl, by rw [List.length_append, List.length_singleton]; omega, fun x hx => ?_, hD3, by rw [List.length_append, List.length_singleton]; omega, h5.off hF3⟩
    rcases List.mem_append.mp hx with hx | hx
    · exact h2 x hx
    · cases List.mem_singleton.mp hx
      omega
theorem askOk_rD {k n : Nat} {s : Int} {lns : List Nat} (h : Rp k n (rD s lns)) (hk : k ≤ 58) (hl : lns.length ≤ 3000) : AskOk (rD s lns) :=
  ⟨⟨h.cl, Nat.le_trans h.dp hk⟩, by show (lns.map nD).length ≤ 3000; rw [List.length_map]; exact hl⟩
theorem lenP_rev (xs : List Int) (lns : List Nat) : lenP xs lns.reverse = lenP xs lns := by
  unfold lenP
  rw [List.map_reverse]
  exact List.sum_reverse _
theorem lenP_le {xs : List Int} {b : Int} (hb : ∀ x ∈ xs, 0 ≤ x ∧ x ≤ b) : ∀ (lns : List Nat), (∀ l ∈ lns, l < xs.length) → 0 ≤ lenP xs lns ∧ lenP xs lns ≤ b * lns.length
  | [], _ => ⟨Int.le_refl 0, by simp [lenP]⟩
  | l :: r, h => by
    obtain ⟨a, c⟩ := lenP_le hb r fun z hz => h z (List.mem_cons_of_mem _ hz)
    have hl := h l List.mem_cons_self
    have e : xs.getD l 0 = xs[l] := by rw [List.getD_eq_getElem?_getD, List.getElem?_eq_getElem hl]; rfl
    obtain ⟨u, v⟩ := hb xs[l] (List.getElem_mem _)
    have e2 : lenP xs (l :: r) = xs[l] + lenP xs r := by
      unfold lenP
      rw [List.map_cons, List.sum_cons, e]
    rw [e2, List.length_cons]
    have : b * ((r.length + 1 : Nat) : Int) = b * r.length + b := by
      rw [Int.natCast_add, Int.mul_add]; simp
    rw [this]
    omega
/-! ### how nets, routes and lengths are told -/
theorem rp_small {i : Int} (h0 : 0 ≤ i) (h1 : i ≤ 1000000000000000000) : Rp 0 1921 (.int i) := Rp.int (Nat.lt_of_le_of_lt (show i.natAbs ≤ 2 ^ 60 by omega) (Nat.pow_lt_pow_right (by decide) (by decide)))
theorem rp_net {N : Net} (h : N.Ok) : Rp 3 100000 N.d := by
  refine Rp.mono (Rp.tuple' (k := 2) (n := 31000) (m := 2) (fun d hd => ?_) (Nat.le_refl 2)) (by decide) (by decide)
  have p6 := h.p6
  have p2 := h.p2
  rcases List.mem_cons.mp hd with rfl | hd
  · exact (rp_small (by omega) (by omega)).mono (by decide) (by decide)
  · rcases List.mem_cons.mp hd with rfl | hd
    · refine Rp.mono (Rp.tuple' (k := 1) (n := 3860) (m := 8) (fun d hd => ?_) (by rw [List.length_map]; exact h.l8)) (by decide) (by decide)
      obtain ⟨x, hx, rfl⟩ := List.mem_map.mp hd
      obtain ⟨h1, h2, h3⟩ := h.ln x hx
      refine Rp.mono (Rp.tuple' (k := 0) (n := 1921) (m := 2) (fun d hd => ?_) (Nat.le_refl 2)) (by decide) (by decide)
      rcases List.mem_cons.mp hd with rfl | hd
      · exact rp_small (by omega) (by omega)
      · rcases List.mem_cons.mp hd with rfl | hd
        · exact rp_small (by omega) (by omega)
        · cases hd
    · cases hd
theorem rp_route {s : Int} {lns : List Nat} (h0 : 0 ≤ s) (h1 : s ≤ 1000000) (hl : lns.length ≤ 100) (hx : ∀ l ∈ lns, l ≤ 1000000) : Rp 2 1000000 (rD s lns) := by
  refine Rp.mono (Rp.tuple' (k := 1) (n := 300000) (m := 2) (fun d hd => ?_) (Nat.le_refl 2)) (by decide) (by decide)
  rcases List.mem_cons.mp hd with rfl | hd
  · exact (rp_small (by omega) (by omega)).mono (by decide) (by decide)
  · rcases List.mem_cons.mp hd with rfl | hd
    · refine Rp.mono (Rp.tuple' (k := 0) (n := 1921) (m := 100) (fun d hd => ?_) (by rw [List.length_map]; exact hl)) (by decide) (by decide)
      obtain ⟨x, hx', rfl⟩ := List.mem_map.mp hd
      have := hx x hx'
      exact rp_small (by omega) (by omega)
    · cases hd
theorem rp_lengths {xs : List Int} (hl : xs.length ≤ 100) (hx : ∀ x ∈ xs, 0 ≤ x ∧ x ≤ 1000000000000) : Rp 1 300000 (.tuple (xs.map .int)) := by
  refine Rp.mono (Rp.tuple' (k := 0) (n := 1921) (m := 100) (fun d hd => ?_) (by rw [List.length_map]; exact hl)) (by decide) (by decide)
  obtain ⟨x, hx', rfl⟩ := List.mem_map.mp hd
  have := hx x hx'
  exact rp_small (by omega) (by omega)
end DL
namespace DL
open PySem PySem.Spec PyProof.Rows L2
local macro_rules | `(tactic| walk_at "dl") => `(tactic| simp only [wAsg, wOp, wVar, wC, wgN, wgTup, wgCons, wgNil, wgSub, setW, wIf, wTest, wNext, wRet, wRetN, wDrop, wAndT, wOrT, wNotT, wAndV, wOrV, wNotV, wIfE, wNeg, wNil, wCons, wTup, wTupR, wLst, wBlt, wCall, wFrz, wFz, frz, wSl, wNoP, wSoP, wPar2, wPar3, wMethL, mAppend, isLst,
  wRev, wInR, wLenSet, bStr, bMax2, bMin2, wChain, wLc, wipeW, wYes, xq0, mkL, mkT, allD, allD_map, seeL, seeD, seeT, seeS, ownL, oIx, ixW, oAdd, oSub, oMul, oMod, oDiv, oPow, oLt, oLe, oGt, oGe, oB, isInts, oEq, oIsN, isNon, oIsB, oIn, oCat, oRep, bLen, bInt, bAbs, bList, bTuple, seeA, bSum, bInts, bAll, bAny, bBools, bIsi, tyName, bReprS,
  wFor, iR1, iR2, iS, iE, iEB, enW, iZ, stL, startD, dEnds, fin, at0, at1, at2, at3, at4, atm1, atm1', ix40, ix41, ix42, ix43, eqv_int, eqv_none_int, eqv_int_none, eqv_none, eqv_lnil, eqv_tnil, eqv_str, sh_int, sh_none, sh_bool, sh_ints, sh_nil, sh_tints, sh_tnil,
  kit_NoneType_bool, kit_NoneType_int, kit_NoneType_str, kit_NoneType_list, kit_NoneType_tuple, kit_bool_bool, kit_bool_int, kit_bool_str, kit_bool_list, kit_bool_tuple, kit_int_bool, kit_int_int, kit_int_str, kit_int_list, kit_int_tuple, kit_str_bool, kit_str_int, kit_str_str, kit_str_list, kit_str_tuple,
  kit_list_bool, kit_list_int, kit_list_str, kit_list_list, kit_list_tuple, kit_tuple_bool, kit_tuple_int, kit_tuple_str, kit_tuple_list, kit_tuple_tuple, kit_dict_bool, kit_dict_int, kit_dict_str, kit_dict_list, kit_dict_tuple,
  List.map_cons, List.map_nil, List.length_cons, List.length_nil, List.length_map, List.replicate, List.cons_append, List.nil_append, List.getElem?_cons_zero, List.getElem?_cons_succ, List.set_cons_zero, List.set_cons_succ, List.isEmpty_map,
  Bool.false_eq_true, reduceCtorEq, Nat.reduceAdd, Nat.reduceSub, Nat.reduceLeDiff, Option.map_some, Option.bind_some, true_and, and_true, decide_eq_true_eq, Bool.not_eq_true', Bool.not_true, Bool.not_false, decide_eq_false_iff_not, if_true, if_false, ite_true, ite_false, reduceIte, mset_same])
theorem Sh.mem {n : Nat} {ds : List PyData} (h : Sh n (.tuple ds)) : ∀ d ∈ ds, Sh (n - 1) d := by
  obtain ⟨a, b⟩ := h
  have a' : PyData.canLayAll0 ds = true := by simpa [PyData.canLay0] using a
  have b' : PyData.depthAll ds + 1 ≤ n := by simpa only [PyData.depth] using b
  clear a b
  induction ds with
  | nil => exact fun _ h => nomatch h
  | cons x r ih =>
    have a2 : x.canLay0 = true ∧ PyData.canLayAll0 r = true := by simpa [PyData.canLayAll0] using a'
    have b2 : max x.depth (PyData.depthAll r) + 1 ≤ n := by simpa only [PyData.depthAll] using b'
    intro d hd
    rcases List.mem_cons.mp hd with rfl | hd
    · exact ⟨a2.1, by omega⟩
    · exact ih a2.2 (by omega) d hd
theorem cut_mem {α : Type} {xs : List α} {lo hi : Option Int} {x : α} (h : x ∈ cut xs lo hi) : x ∈ xs := by
  unfold cut at h
  exact List.mem_of_mem_drop (List.mem_of_mem_take h)
theorem cut_le {α : Type} (xs : List α) (lo hi : Option Int) : (cut xs lo hi).length ≤ xs.length := by
  unfold cut
  rw [List.length_take, List.length_drop]; omega
/-- a list of values, owned -/
structure OwnV (M0 : MM) (a p : Addr) (ds : List PyData) (b : Nat) (M : MM) (c : Int) : Prop where
  own : M p = some (.lst (ds.map W.d))
  new : M0 p = none
  ok : ∀ d ∈ ds, Rp 1 4000 d
  le : ds.length ≤ b
  dk : Dk M a c
  kp : Kp a M0 M
  ne : p ≠ a
theorem Kp.none {a r : Addr} {M M1 : MM} (h : Kp a M M1) (e : M1 r = none) (n : r ≠ a) : M r = none := by
  cases q : M r with
  | none => rfl
  | some mo => rw [h r mo n q] at e; cases e
theorem OwnV.mk' {M M1 : MM} {a r : Addr} {ds : List PyData} {b : Nat} {c : Int} (hk : Kp a M M1) (hd : Dk M1 a c) (hr : M1 r = none) (ok : ∀ d ∈ ds, Rp 1 4000 d) (le : ds.length ≤ b) : OwnV M a r ds b (mset M1 r (.lst (ds.map W.d))) c :=
  ⟨mset_same, hk.none hr (hd.ne hr), ok, le, hd.set (hd.ne hr), hk.set (hk.none hr (hd.ne hr)), hd.ne hr⟩
theorem ixN_ok {n : Nat} {i : Int} (h0 : 0 ≤ i) (h1 : i < n) : ixN n i = some i.toNat := by
  unfold ixN
  rw [if_pos h0, if_pos (by omega)]
theorem Pth.ends {N : Net} (hN : N.Ok) {ps : List Int} {lns : List Nat} (p : Pth N.ls ps lns) : ∀ l ∈ lns, ∀ s q, nextP N.ls s l = some q → s ∈ ps := by
  induction p with
  | one => exact fun _ h => nomatch h
  | more h1 h2 ih =>
    rename_i s0 q0 l0 qs lns0
    intro l hl s q hs
    rcases List.mem_cons.mp hl with rfl | hl
    · have : s = s0 ∨ s = q0 := by
        unfold nextP at h1 hs
        cases e : N.ls[l]? with
        | none => rw [e] at h1; cases h1
        | some x =>
          obtain ⟨a, b⟩ := x
          rw [e] at h1 hs
          simp only at h1 hs
          by_cases c1 : s0 = a
          · rw [if_pos c1] at h1
            injection h1 with h1
            by_cases c2 : s = a
            · exact .inl (by omega)
            · rw [if_neg c2] at hs
              by_cases c3 : s = b
              · exact .inr (by omega)
              · rw [if_neg c3] at hs; cases hs
          · rw [if_neg c1] at h1
            by_cases c4 : s0 = b
            · rw [if_pos c4] at h1
              injection h1 with h1
              by_cases c2 : s = a
              · exact .inr (by omega)
              · rw [if_neg c2] at hs
                by_cases c3 : s = b
                · exact .inl (by omega)
                · rw [if_neg c3] at hs; cases hs
            · rw [if_neg c4] at h1; cases h1
      rcases this with rfl | rfl
      · exact List.mem_cons_self
      · exact List.mem_cons_of_mem _ List.mem_cons_self
    · exact List.mem_cons_of_mem _ (ih l hl s q hs)
theorem Pth.nodup {N : Net} (hN : N.Ok) {ps : List Int} {lns : List Nat} (p : Pth N.ls ps lns) (h : ps.Nodup) : lns.Nodup := by
  induction p with
  | one => exact List.nodup_nil
  | more h1 h2 ih =>
    rw [List.nodup_cons] at h ⊢
    exact ⟨fun z => h.1 (h2.ends hN _ z _ _ h1), ih h.2⟩
theorem intsD_ints (as : List Int) : intsD ((as.map PyData.int).map W.d) = some as := by
  have := intsD_f (fun i : Int => i) as
  rw [List.map_id'] at this
  exact this
theorem any_nats (ns : List Nat) (i : Nat) : ((ns.map nD).any fun z => PyData.eqv z (.int (i : Int))) = decide (i ∈ ns) := by
  rw [List.any_map]
  have e : ((fun z => PyData.eqv z (.int (i : Int))) ∘ nD) = fun z : Nat => decide (z = i) := by
    funext z
    have := eqv_int (z : Int) (i : Int)
    rw [Function.comp, nD, this]
    exact decide_eq_decide.mpr Int.ofNat_inj
  rw [e, Bool.eq_iff_iff, List.any_eq_true, decide_eq_true_eq]
  constructor
  · rintro ⟨x, hx, h⟩
    rw [decide_eq_true_eq] at h
    rw [← h]; exact hx
  · intro h
    exact ⟨i, h, decide_eq_true rfl⟩
theorem flat_nats (ns : List Nat) : (ns.map nD).all flatD = true := by
  rw [List.all_map]; exact List.all_eq_true.mpr fun _ _ => rfl
end DL
namespace DL
open PySem PySem.Spec PyProof.Rows L2
local macro_rules | `(tactic| walk_at "dl") => `(tactic| simp only [wAsg, wOp, wVar, wC, wgN, wgTup, wgCons, wgNil, wgSub, setW, wIf, wTest, wNext, wRet, wRetN, wDrop, wAndT, wOrT, wNotT, wAndV, wOrV, wNotV, wIfE, wNeg, wNil, wCons, wTup, wTupR, wLst, wBlt, wCall, wFrz, wFz, frz, wSl, wNoP, wSoP, wPar2, wPar3, wMethL, mAppend, isLst,
  wRev, wInR, wLenSet, bStr, bMax2, bMin2, wChain, wLc, wipeW, wYes, xq0, mkL, mkT, allD, allD_map, seeL, seeD, seeT, seeS, ownL, oIx, ixW, oAdd, oSub, oMul, oMod, oDiv, oPow, oLt, oLe, oGt, oGe, oB, isInts, oEq, oIsN, isNon, oIsB, oIn, oCat, oRep, bLen, bInt, bAbs, bList, bTuple, seeA, bSum, bInts, bAll, bAny, bBools, bIsi, tyName, bReprS,
  wFor, iR1, iR2, iS, iE, iEB, enW, iZ, stL, startD, dEnds, fin, at0, at1, at2, at3, at4, atm1, atm1', ix40, ix41, ix42, ix43, eqv_int, eqv_none_int, eqv_int_none, eqv_none, eqv_lnil, eqv_tnil, eqv_str, sh_int, sh_none, sh_bool, sh_ints, sh_nil, sh_tints, sh_tnil,
  kit_NoneType_bool, kit_NoneType_int, kit_NoneType_str, kit_NoneType_list, kit_NoneType_tuple, kit_bool_bool, kit_bool_int, kit_bool_str, kit_bool_list, kit_bool_tuple, kit_int_bool, kit_int_int, kit_int_str, kit_int_list, kit_int_tuple, kit_str_bool, kit_str_int, kit_str_str, kit_str_list, kit_str_tuple,
  kit_list_bool, kit_list_int, kit_list_str, kit_list_list, kit_list_tuple, kit_tuple_bool, kit_tuple_int, kit_tuple_str, kit_tuple_list, kit_tuple_tuple, kit_dict_bool, kit_dict_int, kit_dict_str, kit_dict_list, kit_dict_tuple,
  List.map_cons, List.map_nil, List.length_cons, List.length_nil, List.length_map, List.replicate, List.cons_append, List.nil_append, List.getElem?_cons_zero, List.getElem?_cons_succ, List.set_cons_zero, List.set_cons_succ, List.isEmpty_map,
  Bool.false_eq_true, reduceCtorEq, Nat.reduceAdd, Nat.reduceSub, Nat.reduceLeDiff, Option.map_some, Option.bind_some, true_and, and_true, decide_eq_true_eq, Bool.not_eq_true', Bool.not_true, Bool.not_false, decide_eq_false_iff_not, if_true, if_false, ite_true, ite_false, reduceIte, mset_same])
/-! ### what a def owns while it runs: things at addresses of their own, a deck, what stood ahead -/
structure St (M0 : MM) (k : Option (Addr × Int)) (L : List (Addr × MO)) (M : MM) : Prop where
  own : ∀ x ∈ L, M x.1 = some x.2 ∧ M0 x.1 = none ∧ ∀ c, k ≠ some (x.1, c)
  nd : (L.map (·.1)).Nodup
  dk : ∀ a c, k = some (a, c) → Dk M a c
  kp : ∀ b mo, (∀ c, k ≠ some (b, c)) → M0 b = some mo → M b = some mo
namespace St
variable {M0 M M' : MM} {k : Option (Addr × Int)} {L : List (Addr × MO)} {p q r : Addr} {u v w mo : MO} {a : Addr} {c c' : Int}
theorem start (M : MM) : St M none [] M := ⟨fun _ h => (nomatch h), List.nodup_nil, fun _ _ h => (nomatch h), fun _ _ _ h => h⟩
theorem deck (h : Dk M a c) : St M (some (a, c)) [] M := ⟨fun _ h => (nomatch h), List.nodup_nil, fun _ _ e => by cases e; exact h, fun _ _ _ h => h⟩
theorem at0 (h : St M0 k ((p, u) :: L) M) : M p = some u := (h.own _ List.mem_cons_self).1
theorem at1 (h : St M0 k ((q, v) :: (p, u) :: L) M) : M p = some u := (h.own _ (List.mem_cons_of_mem _ List.mem_cons_self)).1
theorem at2 (h : St M0 k ((r, w) :: (q, v) :: (p, u) :: L) M) : M p = some u := (h.own _ (List.mem_cons_of_mem _ (List.mem_cons_of_mem _ List.mem_cons_self))).1
theorem at3 {s : Addr} {x : MO} (h : St M0 k ((s, x) :: (r, w) :: (q, v) :: (p, u) :: L) M) : M p = some u := (h.own _ (List.mem_cons_of_mem _ (List.mem_cons_of_mem _ (List.mem_cons_of_mem _ List.mem_cons_self)))).1
theorem none' (h : St M0 k L M) (e : M q = none) : M0 q = none ∧ ∀ c, k ≠ some (q, c) := by
  have h2 : ∀ c, k ≠ some (q, c) := fun c e2 => by
    obtain ⟨_, _, _, _, hM, _⟩ := h.dk _ _ e2
    rw [hM] at e; cases e
  refine ⟨?_, h2⟩
  cases z : M0 q with
  | none => rfl
  | some mo => rw [h.kp q mo h2 z] at e; cases e
theorem fresh (h : St M0 k L M) (e : M q = none) : q ∉ L.map (·.1) := fun z => by
  obtain ⟨x, hx, rfl⟩ := List.mem_map.mp z
  rw [(h.own x hx).1] at e; cases e
/-- a new thing -/
theorem new (h : St M0 k L M) (e : M q = none) (mo : MO) : St M0 k ((q, mo) :: L) (mset M q mo) := by
  obtain ⟨e1, e2⟩ := h.none' e
  have hf := h.fresh e
  refine ⟨fun x hx => ?_, List.nodup_cons.mpr ⟨hf, h.nd⟩, fun a c z => ?_, fun b mo hb z => ?_⟩
  · rcases List.mem_cons.mp hx with rfl | hx
    · exact ⟨mset_same, e1, e2⟩
    · have ne : x.1 ≠ q := fun z => hf (z ▸ List.mem_map.mpr ⟨x, hx, rfl⟩)
      obtain ⟨h1, h2, h3⟩ := h.own x hx
      exact ⟨by rw [mset_ne ne]; exact h1, h2, h3⟩
  · have ne : q ≠ a := fun y => e2 c (by rw [z, y])
    exact (h.dk a c z).set ne
  · have ne : b ≠ q := fun y => by subst y; rw [e1] at z; cases z
    rw [mset_ne ne]; exact h.kp b mo hb z
/-- the first thing changes -/
theorem set0 (h : St M0 k ((p, u) :: L) M) (mo : MO) : St M0 k ((p, mo) :: L) (mset M p mo) := by
  obtain ⟨h1, h2, h3⟩ := h.own _ List.mem_cons_self
  have nd := List.nodup_cons.mp h.nd
  refine ⟨fun x hx => ?_, h.nd, fun a c z => ?_, fun b mo hb z => ?_⟩
  · rcases List.mem_cons.mp hx with rfl | hx
    · exact ⟨mset_same, h2, h3⟩
    · have ne : x.1 ≠ p := fun z => nd.1 (z ▸ List.mem_map.mpr ⟨x, hx, rfl⟩)
      obtain ⟨h1, h2, h3⟩ := h.own x (List.mem_cons_of_mem _ hx)
      exact ⟨by rw [mset_ne ne]; exact h1, h2, h3⟩
  · have ne : p ≠ a := fun y => h3 c (by rw [z, y])
    exact (h.dk a c z).set ne
  · have ne : b ≠ p := fun y => by subst y; rw [h2] at z; cases z
    rw [mset_ne ne]; exact h.kp b mo hb z
theorem swap (h : St M0 k ((p, u) :: (q, v) :: L) M) : St M0 k ((q, v) :: (p, u) :: L) M := by
  refine ⟨fun x hx => h.own x ?_, ?_, h.dk, h.kp⟩
  · simp only [List.mem_cons] at hx ⊢
    rcases hx with h | h | h <;> simp [h]
  · exact ((List.Perm.swap p q (L.map Prod.fst)).nodup_iff).mpr h.nd
theorem perm {L' : List (Addr × MO)} (h : St M0 k L M) (hp : L'.Perm L) : St M0 k L' M :=
  ⟨fun x hx => h.own x (hp.mem_iff.mp hx), ((hp.map (·.1)).nodup_iff).mpr h.nd, h.dk, h.kp⟩
theorem set1 (h : St M0 k ((q, v) :: (p, u) :: L) M) (mo : MO) : St M0 k ((q, v) :: (p, mo) :: L) (mset M p mo) := (h.swap.set0 mo).swap
theorem drop (h : St M0 k ((p, u) :: L) M) : St M0 k L M := ⟨fun x hx => h.own x (List.mem_cons_of_mem _ hx), (List.nodup_cons.mp h.nd).2, h.dk, h.kp⟩
theorem drop1 (h : St M0 k ((q, v) :: (p, u) :: L) M) : St M0 k ((q, v) :: L) M := h.swap.drop
/-- the first thing is forgotten (a list that became data) -/
theorem del0 (h : St M0 k ((p, u) :: L) M) : St M0 k L (mdel M p) := by
  obtain ⟨h1, h2, h3⟩ := h.own _ List.mem_cons_self
  have nd := List.nodup_cons.mp h.nd
  refine ⟨fun x hx => ?_, nd.2, fun a c z => ?_, fun b mo hb z => ?_⟩
  · have ne : x.1 ≠ p := fun z => nd.1 (z ▸ List.mem_map.mpr ⟨x, hx, rfl⟩)
    obtain ⟨h1, h2, h3⟩ := h.own x (List.mem_cons_of_mem _ hx)
    exact ⟨by rw [mdel_ne ne]; exact h1, h2, h3⟩
  · have ne : a ≠ p := fun y => h3 c (by rw [z, y])
    exact (h.dk a c z).at' (mdel_ne ne)
  · have ne : b ≠ p := fun y => by subst y; rw [h2] at z; cases z
    rw [mdel_ne ne]; exact h.kp b mo hb z
theorem del1 (h : St M0 k ((q, v) :: (p, u) :: L) M) : St M0 k ((q, v) :: L) (mdel M p) := h.swap.del0
/-- behind a draw -/
theorem off (h : St M0 (some (a, c)) L M) (hd : Dk M' a c') (hf : ∀ b, b ≠ a → M' b = M b) : St M0 (some (a, c')) L M' := by
  have ka : ∀ b, (∀ c', (some (a, c') : Option (Addr × Int)) ≠ some (b, c)) → True := fun _ _ => trivial
  refine ⟨fun x hx => ?_, h.nd, fun b d z => by cases z; exact hd, fun b mo hb z => ?_⟩
  · obtain ⟨h1, h2, h3⟩ := h.own x hx
    have ne : x.1 ≠ a := fun z => h3 c (by rw [z])
    exact ⟨by rw [hf _ ne]; exact h1, h2, fun d e => by cases e; exact ne rfl⟩
  · have ne : b ≠ a := fun y => hb c' (by rw [y])
    rw [hf b ne]
    exact h.kp b mo (fun d e => by cases e; exact ne rfl) z
theorem offK (h : St M0 (some (a, c)) L M) (hd : Dk M' a c') (hf : Kp a M M') : St M0 (some (a, c')) L M' := by
  refine ⟨fun x hx => ?_, h.nd, fun b d z => by cases z; exact hd, fun b mo hb z => ?_⟩
  · obtain ⟨h1, h2, h3⟩ := h.own x hx
    have ne : x.1 ≠ a := fun z => h3 c (by rw [z])
    exact ⟨hf _ _ ne h1, h2, fun d e => by cases e; exact ne rfl⟩
  · have ne : b ≠ a := fun y => hb c' (by rw [y])
    exact hf b mo ne (h.kp b mo (fun d e => by cases e; exact ne rfl) z)
theorem le (h : St M0 (some (a, c)) L M) (hc : c ≤ c') : St M0 (some (a, c')) L M :=
  h.offK ((h.dk _ _ rfl).le hc) Kp.refl
theorem d (h : St M0 (some (a, c)) L M) : Dk M a c := h.dk _ _ rfl
theorem k' (h : St M0 (some (a, c)) L M) : Kp a M0 M := fun b mo ne e => h.kp b mo (fun d e => by cases e; exact ne rfl) e
theorem sub (h : St M0 none L M) : Sub M0 M := fun b mo e => h.kp b mo (fun _ e => by cases e) e
/-- behind a call that changes nothing that is there -/
theorem offS (h : St M0 none L M) (hs : Sub M M') : St M0 none L M' :=
  ⟨fun x hx => by obtain ⟨h1, h2, h3⟩ := h.own x hx; exact ⟨hs _ _ h1, h2, h3⟩, h.nd, fun _ _ e => (nomatch e), fun b mo hb z => hs _ _ (h.kp b mo hb z)⟩
theorem new' (h : St M0 k L M) (e : M q = none) (hM : mset M q mo = M') : St M0 k ((q, mo) :: L) M' := hM ▸ h.new e mo
theorem set0' (h : St M0 k ((p, u) :: L) M) (hM : mset M p mo = M') : St M0 k ((p, mo) :: L) M' := hM ▸ h.set0 mo
theorem set1' (h : St M0 k ((q, v) :: (p, u) :: L) M) (hM : mset M p mo = M') : St M0 k ((q, v) :: (p, mo) :: L) M' := hM ▸ h.set1 mo
theorem del0' (h : St M0 k ((p, u) :: L) M) (hM : mdel M p = M') : St M0 k L M' := hM ▸ h.del0
end St
theorem allD_app (xs : List PyData) : ∀ ws : List W, allD (xs.map W.d ++ ws) = (allD ws).map (xs ++ ·) := by
  induction xs with
  | nil => intro ws; cases h : allD ws <;> simp [h]
  | cons x r ih =>
    intro ws
    show (allD (r.map W.d ++ ws)).map (x :: ·) = _
    rw [ih ws]
    cases allD ws <;> rfl
theorem allD_rev (xs : List PyData) : allD (xs.map W.d).reverse = some xs.reverse := by rw [← List.map_reverse, allD_map]
theorem OwnV.st {M0 M : MM} {a p : Addr} {ds : List PyData} {b : Nat} {c : Int} (h : OwnV M0 a p ds b M c) : St M0 (some (a, c)) [(p, .lst (ds.map W.d))] M :=
  ⟨fun x hx => by cases List.mem_singleton.mp hx; exact ⟨h.own, h.new, fun d e => by cases e; exact h.ne rfl⟩, List.pairwise_singleton _ _, fun _ _ e => by cases e; exact h.dk, fun b mo hb e => h.kp b mo (fun z => hb c (by rw [z])) e⟩
theorem St.ownV {M0 M : MM} {a p : Addr} {L : List (Addr × MO)} {ds : List PyData} {ws : List W} {b : Nat} {c c' : Int} (h : St M0 (some (a, c)) ((p, .lst ws) :: L) M) (e : ws = ds.map W.d) (ok : ∀ d ∈ ds, Rp 1 4000 d) (le : ds.length ≤ b) (hc : c ≤ c') : OwnV M0 a p ds b M c' := by
  subst e
  obtain ⟨h1, h2, h3⟩ := h.own _ List.mem_cons_self
  exact ⟨h1, h2, ok, le, h.d.le hc, h.k', fun z => h3 c (by rw [z])⟩

/-! ### rows of ifs -/
theorem if_eq {i : Nat} {s m : Int} {A B : WS} {D : DEnds} {ρ : Env} {M : MM} (hρ : ρ[i]? = some (some (.d (.int s)))) (ha : s = m → A { D with nx := B D } ρ M) (hb : s ≠ m → B D ρ M) :
    wSeq (wIf (wTest (wOp (oEq false) (wVar i) (wC (.d (.int m))))) A wNext) B D ρ M := by
  show wIf _ A wNext { D with nx := B D } ρ M
  unfold wIf wTest wOp wVar wC
  rw [hρ]
  show oEq false (.d (.int s)) (.d (.int m)) M _
  refine ⟨sh_int s, sh_int m, ?_⟩
  show (if PyData.eqv (.int s) (.int m) = true then _ else _)
  rw [eqv_int]
  by_cases e : s = m
  · rw [decide_eq_true e, if_pos rfl]; exact ha e
  · rw [decide_eq_false e, if_neg (by decide)]; exact hb e
theorem if_skip {i : Nat} {s m : Int} {A B : WS} {D : DEnds} {ρ : Env} {M : MM} (hρ : ρ[i]? = some (some (.d (.int s)))) (hn : s ≠ m) (hb : B D ρ M) :
    wSeq (wIf (wTest (wOp (oEq false) (wVar i) (wC (.d (.int m))))) A wNext) B D ρ M := if_eq hρ (fun e => absurd e hn) fun _ => hb
theorem if_take {i : Nat} {s : Int} {A B : WS} {D : DEnds} {ρ : Env} {M : MM} (hρ : ρ[i]? = some (some (.d (.int s)))) (ha : ∀ κ, κ = B D → A { D with nx := κ } ρ M) :
    wSeq (wIf (wTest (wOp (oEq false) (wVar i) (wC (.d (.int s))))) A wNext) B D ρ M := if_eq hρ (fun _ => ha _ rfl) fun e => absurd rfl e
theorem rp_line {N : Net} (h : N.Ok) : ∀ d ∈ N.ls.map prD, Rp 1 4000 d := fun d hd => by
  obtain ⟨x, hx, rfl⟩ := List.mem_map.mp hd
  obtain ⟨h1, h2, h3⟩ := h.ln x hx
  have p6 := h.p6
  refine Rp.mono (Rp.tuple' (k := 0) (n := 1921) (m := 2) (fun d hd => ?_) (Nat.le_refl 2)) (by decide) (by decide)
  rcases List.mem_cons.mp hd with rfl | hd
  · exact rp_small (by omega) (by omega)
  · cases List.mem_singleton.mp hd
    exact rp_small (by omega) (by omega)
theorem small_ok {i : Int} (h0 : -100 ≤ i) (h1 : i ≤ 10 ^ 40) : Rp 1 4000 (.int i) := by
  refine (Rp.int (i := i) ?_).mono (by decide) (by decide)
  exact Nat.lt_of_le_of_lt (show i.natAbs ≤ 10 ^ 40 by omega) (Nat.lt_of_lt_of_le (show 10 ^ 40 < 2 ^ 200 by decide) (Nat.pow_le_pow_right (by decide) (by decide)))
theorem digit_ok {z : Int} (h0 : 0 ≤ z) (h1 : z < 7) : Rp 1 4000 (.str (Str.ofString (toString z))) := by
  have : z = 0 ∨ z = 1 ∨ z = 2 ∨ z = 3 ∨ z = 4 ∨ z = 5 ∨ z = 6 := by omega
  rcases this with rfl | rfl | rfl | rfl | rfl | rfl | rfl <;> exact (Rp.str (by decide +kernel) (by decide +kernel)).mono (by decide) (by decide)
theorem rep_map (n : Nat) (xs : List PyData) : (List.replicate n (xs.map W.d)).flatten = ((List.replicate n xs).flatten).map W.d := by
  rw [List.map_flatten, List.map_replicate]
theorem rep_mem {α : Type} {n : Nat} {xs : List α} {x : α} (h : x ∈ (List.replicate n xs).flatten) : x ∈ xs := by
  obtain ⟨l, hl, hx⟩ := List.mem_flatten.mp h
  rw [List.eq_of_mem_replicate hl] at hx; exact hx
theorem rp_pair {k n : Nat} {x y : PyData} (hx : Rp k n x) (hy : Rp k n y) : Rp (k + 1) (4 + 2 * (n + 2)) (.tuple [x, y]) :=
  Rp.tuple' (ds := [x, y]) (fun d hd => by
    simp only [List.mem_cons, List.not_mem_nil, or_false] at hd
    rcases hd with rfl | rfl
    · exact hx
    · exact hy) (Nat.le_refl 2)
theorem rp_one {k n : Nat} {x : PyData} (hx : Rp k n x) : Rp (k + 1) (4 + 1 * (n + 2)) (.tuple [x]) :=
  Rp.tuple' (ds := [x]) (fun d hd => by
    cases List.mem_singleton.mp hd
    exact hx) (Nat.le_refl 1)
theorem rp_three {k n : Nat} {x y z : PyData} (hx : Rp k n x) (hy : Rp k n y) (hz : Rp k n z) : Rp (k + 1) (4 + 3 * (n + 2)) (.tuple [x, y, z]) :=
  Rp.tuple' (ds := [x, y, z]) (fun d hd => by
    simp only [List.mem_cons, List.not_mem_nil, or_false] at hd
    rcases hd with rfl | rfl | rfl
    · exact hx
    · exact hy
    · exact hz) (Nat.le_refl 3)
theorem rp_lpair {k n : Nat} {x y : PyData} (hx : Rp k n x) (hy : Rp k n y) : Rp (k + 1) (4 + 2 * (n + 2)) (.list [x, y]) :=
  Rp.list' (ds := [x, y]) (fun d hd => by
    simp only [List.mem_cons, List.not_mem_nil, or_false] at hd
    rcases hd with rfl | rfl
    · exact hx
    · exact hy) (Nat.le_refl 2)

/-! ### comprehensions over pairs; enumerate -/
theorem lc_fm2 {α : Type} {i j : Nat} {t : WT} {e : WE} {st : MM → Prop} {ρ : Env} {M : MM} {K : List W → MM → Prop} (m1 m2 : α → PyData) (p : α → Bool) (f : α → W) (hs : st M) : ∀ (xs : List α) (acc : List W), (∀ x ∈ xs, ∀ Q : Bool → MM → Prop, Q (p x) M → t xq0 ((ρ.set i (some (.d (m1 x)))).set j (some (.d (m2 x)))) M Q) →
    (∀ x ∈ xs, p x = true → ∀ Q : KW, Q (f x) M → e xq0 ((ρ.set i (some (.d (m1 x)))).set j (some (.d (m2 x)))) M Q) → acc.length + xs.length ≤ 16777216 → K (acc ++ (xs.filter p).map f) M →
    wLcI (wgTup 2 (wgCons (wgN i) (wgCons (wgN j) wgNil))) t e st ρ (xs.map fun x => W.d (.tuple [m1 x, m2 x])) acc M K
  | [], acc, _, _, _, k => ⟨hs, by rw [List.filter_nil, List.map_nil, List.append_nil] at k; exact k⟩
  | x :: r, acc, ht, he, hl, k => by
    rw [List.length_cons] at hl
    refine ⟨hs, rfl, rfl, ?_⟩
    show t xq0 ((ρ.set i (some (.d (m1 x)))).set j (some (.d (m2 x)))) M _
    refine ht x List.mem_cons_self _ ?_
    cases hp : p x with
    | false =>
      rw [List.filter_cons, hp] at k
      exact lc_fm2 m1 m2 p f hs r acc (fun y hy => ht y (List.mem_cons_of_mem _ hy)) (fun y hy => he y (List.mem_cons_of_mem _ hy)) (by omega) k
    | true =>
      show e xq0 ((ρ.set i (some (.d (m1 x)))).set j (some (.d (m2 x)))) M _
      refine he x List.mem_cons_self hp _ ⟨by omega, ?_⟩
      rw [List.filter_cons, hp] at k
      refine lc_fm2 m1 m2 p f hs r (acc ++ [f x]) (fun y hy => ht y (List.mem_cons_of_mem _ hy)) (fun y hy => he y (List.mem_cons_of_mem _ hy)) (by rw [List.length_append, List.length_singleton]; omega) ?_
      rw [List.append_assoc]; exact k
theorem enW_range : ∀ (ds : List PyData) (n : Nat), enW n ds = (List.range ds.length).map fun l => W.d (.tuple [.int ((n + l : Nat) : Int), ds.getD l .none])
  | [], n => rfl
  | d :: r, n => by
    rw [enW, enW_range r (n + 1), List.length_cons, List.range_succ_eq_map, List.map_cons, List.map_map]
    refine List.cons_eq_cons.mpr ⟨rfl, List.map_congr_left fun l _ => ?_⟩
    show W.d (.tuple [.int ((n + 1 + l : Nat) : Int), r.getD l .none]) = W.d (.tuple [.int ((n + (l + 1) : Nat) : Int), (d :: r).getD (l + 1) .none])
    rw [List.getD_cons_succ, show n + 1 + l = n + (l + 1) by omega]
end DL
namespace DL
open PySem PySem.Spec PyProof.Rows L2
local macro_rules | `(tactic| walk_at "dl2") => `(tactic| simp only [wAsg, wOp, wVar, wC, wgN, wgTup, wgCons, wgNil, wgSub, setW, wIf, wTest, wNext, wRet, wRetN, wDrop, wAndT, wOrT, wNotT, wAndV, wOrV, wNotV, wIfE, wNeg, wNil, wCons, wTup, wTupR, wLst, wBlt, wCall, wFrz, wFz, frz, wSl, wNoP, wSoP, wPar2, wPar3, wMethL, mAppend, isLst,
  wRev, wInR, wLenSet, bStr, bMax2, bMin2, wChain, wLc, wipeW, wYes, xq0, mkL, mkT, allD, allD_map, seeL, seeD, seeT, seeS, ownL, oIx, ixW, oAdd, oSub, oMul, oMod, oDiv, oPow, oLt, oLe, oGt, oGe, oB, isInts, oEq, oIsN, isNon, oIsB, oIn, oCat, oRep, bLen, bInt, bAbs, bList, bTuple, seeA, bSum, bInts, bAll, bAny, bBools, bIsi, tyName, bReprS,
  wFor, iR1, iR2, iS, iE, iEB, enW, iZ, stL, startD, dEnds, fin, at0, at1, at2, at3, at4, atm1, atm1', ix40, ix41, ix42, ix43, eqv_int, eqv_none_int, eqv_int_none, eqv_none, eqv_lnil, eqv_tnil, eqv_str, sh_int, sh_none, sh_bool, sh_ints, sh_nil, sh_tints, sh_tnil,
  kit_NoneType_bool, kit_NoneType_int, kit_NoneType_str, kit_NoneType_list, kit_NoneType_tuple, kit_bool_bool, kit_bool_int, kit_bool_str, kit_bool_list, kit_bool_tuple, kit_int_bool, kit_int_int, kit_int_str, kit_int_list, kit_int_tuple, kit_str_bool, kit_str_int, kit_str_str, kit_str_list, kit_str_tuple,
  kit_list_bool, kit_list_int, kit_list_str, kit_list_list, kit_list_tuple, kit_tuple_bool, kit_tuple_int, kit_tuple_str, kit_tuple_list, kit_tuple_tuple, kit_dict_bool, kit_dict_int, kit_dict_str, kit_dict_list, kit_dict_tuple,
  List.map_cons, List.map_nil, List.length_cons, List.length_nil, List.length_map, List.replicate, List.cons_append, List.nil_append, List.getElem?_cons_zero, List.getElem?_cons_succ, List.set_cons_zero, List.set_cons_succ, List.isEmpty_map,
  Bool.false_eq_true, reduceCtorEq, Nat.reduceAdd, Nat.reduceSub, Nat.reduceLeDiff, Option.map_some, Option.bind_some, true_and, and_true, decide_eq_true_eq, Bool.not_eq_true', Bool.not_true, Bool.not_false, decide_eq_false_iff_not, if_true, if_false, ite_true, ite_false, reduceIte, mset_same, cut_map, allD_f, allD_app, allD_rev, rep_map, Option.map_none, wSortK, bSorted, wMinD, bMinL, mExtend, iZA])
/-! ### all routes -/
def lnD (ls : List Nat) : PyData := .tuple (ls.map nD)
def key_by_lines (d : PyData) : PyData := match d with
  | .tuple ds => .tuple [.int (ds.length : Int), .tuple ds]
  | d => d
def w_grown (sp_next_place : DSp) (sp_grown : DSp) : WS := (wSeq (wIf (wTest (wOp (oEq false) (wVar 1) (wVar 2))) (wRet (wLst false (wCons (wTup wNil) wNil))) wNext)
    (wSeq (wAsg (wLst true wNil) (wgN 4))
    (wSeq (wFor (iR1 (wCons (wBlt bLen (wCons (wOp oIx (wVar 0) (wC (.d (.int 1)))) wNil)) wNil)) (wgN 5) (wSeq (wAsg (wCall sp_next_place (wCons (wVar 0) (wCons (wVar 1) (wCons (wVar 5) wNil)))) (wgN 6))
    (wIf (wAndT (wTest (wOp (oIsN true) (wVar 6) (wC (.d .none)))) (wTest (wOp (oIn true) (wVar 6) (wVar 3)))) (wDrop (wMethL mExtend (wVar 4) (wCons (wLc true (iS (wCall sp_grown (wCons (wVar 0) (wCons (wVar 6) (wCons (wVar 2) (wCons (wOp oAdd (wVar 3) (wTup (wCons (wVar 6) wNil))) wNil)))))) (wgN 7) wYes (wOp oAdd (wTup (wCons (wVar 5) wNil)) (wVar 7)) [7]) wNil))) wNext)))
    (wRet (wFrz (wVar 4))))))
def w_by_lines : WS := (wRet (wTup (wCons (wBlt bLen (wCons (wVar 0) wNil)) (wCons (wVar 0) wNil))))
def w_routes (sp_grown : DSp) (sp_by_lines : DSp) : WS := (wSeq (wAsg (wSortK false key_by_lines sp_by_lines (wCons (wCall sp_grown (wCons (wVar 0) (wCons (wVar 1) (wCons (wVar 2) (wCons (wTup (wCons (wVar 1) wNil)) wNil))))) wNil)) (wgN 3))
    (wRet (wBlt bTuple (wCons (wLc false (iS (wVar 3)) (wgN 4) wYes (wTup (wCons (wVar 1) (wCons (wVar 4) wNil))) [4]) wNil))))
mutual
def grownP (ls : List (Int × Int)) (e : Int) : Nat → Int → List Int → List (List Nat)
  | 0, _, _ => []
  | n + 1, p, seen => if p = e then [[]] else (List.range ls.length).flatMap (stepG ls e n p seen)
def stepG (ls : List (Int × Int)) (e : Int) (n : Nat) (p : Int) (seen : List Int) (l : Nat) : List (List Nat) := match nextP ls p l with
  | some q => if q ∈ seen then [] else (grownP ls e n q (seen ++ [q])).map (l :: ·)
  | none => []
end
theorem grownP_end (ls : List (Int × Int)) (e : Int) (n : Nat) (seen : List Int) : grownP ls e (n + 1) e seen = [[]] := by rw [grownP, if_pos rfl]
theorem grownP_step {ls : List (Int × Int)} {e p : Int} (n : Nat) (seen : List Int) (h : p ≠ e) : grownP ls e (n + 1) p seen = (List.range ls.length).flatMap (stepG ls e n p seen) := by rw [grownP, if_neg h]
theorem flat_len {α : Type} {f : Nat → List α} {b : Nat} (h : ∀ l, (f l).length ≤ b) : ∀ n, ((List.range n).flatMap f).length ≤ n * b
  | 0 => by simp
  | n + 1 => by
    rw [List.range_succ, List.flatMap_append, List.length_append, List.flatMap_singleton]
    have := flat_len h n
    have := h n
    rw [Nat.add_mul]; omega
theorem grown_len {ls : List (Int × Int)} (hl : ls.length ≤ 8) (e : Int) : ∀ (n : Nat) (p : Int) (seen : List Int), (grownP ls e (n + 1) p seen).length ≤ 8 ^ n
  | 0, p, seen => by
    by_cases h : p = e
    · subst h; rw [grownP_end]; exact Nat.le_refl _
    · rw [grownP_step 0 seen h]
      have : ∀ l, stepG ls e 0 p seen l = [] := fun l => by
        unfold stepG
        cases nextP ls p l with
        | none => rfl
        | some q =>
          simp only
          split
          · rfl
          · rw [grownP]; rfl
      have e2 := flat_len (f := stepG ls e 0 p seen) (b := 0) (fun l => by rw [this]; exact Nat.le_refl _) ls.length
      omega
  | n + 1, p, seen => by
    by_cases h : p = e
    · subst h; rw [grownP_end]; exact Nat.one_le_pow _ _ (by decide)
    · rw [grownP_step (n + 1) seen h]
      have hs : ∀ l, (stepG ls e (n + 1) p seen l).length ≤ 8 ^ n := fun l => by
        unfold stepG
        cases nextP ls p l with
        | none => exact Nat.zero_le _
        | some q =>
          simp only
          split
          · exact Nat.zero_le _
          · rw [List.length_map]; exact grown_len hl e n q _
      have h1 := flat_len hs ls.length
      have h2 : ls.length * 8 ^ n ≤ 8 * 8 ^ n := Nat.mul_le_mul_right _ hl
      rw [Nat.pow_succ, Nat.mul_comm (8 ^ n) 8]
      omega
theorem grown_short {ls : List (Int × Int)} (e : Int) : ∀ (n : Nat) (p : Int) (seen : List Int), ∀ r ∈ grownP ls e n p seen, r.length < n
  | 0, p, seen, r, h => by rw [grownP] at h; cases h
  | n + 1, p, seen, r, h => by
    by_cases hp : p = e
    · subst hp
      rw [grownP_end] at h
      cases List.mem_singleton.mp h
      exact Nat.succ_pos _
    · rw [grownP_step n seen hp] at h
      obtain ⟨l, _, hl⟩ := List.mem_flatMap.mp h
      unfold stepG at hl
      cases hn : nextP ls p l with
      | none => rw [hn] at hl; cases hl
      | some q =>
        rw [hn] at hl
        simp only at hl
        split at hl
        · cases hl
        · obtain ⟨r', hr, rfl⟩ := List.mem_map.mp hl
          have := grown_short e n q _ r' hr
          rw [List.length_cons]; omega
/-- unlike places of a net are no more than the net has -/
theorem card_le {p : Int} {ps : List Int} (h : ps.Nodup) (hp : ∀ s ∈ ps, 0 ≤ s ∧ s < p) : ps.length ≤ p.toNat := by
  have h1 : ps ⊆ (List.range p.toNat).map fun i : Nat => (i : Int) := fun s hs => by
    obtain ⟨a, b⟩ := hp s hs
    exact List.mem_map.mpr ⟨s.toNat, List.mem_range.mpr (by omega), by omega⟩
  have := h.length_le_of_subset h1
  rw [List.length_map, List.length_range] at this
  exact this
def spr_grown : Nat → DSp
  | 0 => fun _ _ _ _ => False
  | n + 1 => fun ws M R xr => ∃ (N : Net) (p e : Int) (seen : List Int), ws = [.d N.d, .d (.int p), .d (.int e), .d (.tuple (seen.map .int))] ∧ N.Ok ∧ seen.Nodup ∧ (∀ s ∈ seen, 0 ≤ s ∧ s < N.p) ∧ p ∈ seen ∧ N.p.toNat + 1 - seen.length ≤ n + 1 ∧
    R (.d (.list ((grownP N.ls e (N.p.toNat + 1 - seen.length) p seen).map lnD))) M
theorem len_grown : ∀ (n : Nat) (ws : List W) (M : MM) (R : KW) (xr : XR), spr_grown n ws M R xr → ws.length = 4
  | 0, _, _, _, _, h => h.elim
  | _ + 1, _, _, _, _, ⟨_, _, _, _, rfl, _⟩ => rfl
theorem pure_grown (n : Nat) (ws : List W) (M : MM) (R : KW) (xr : XR) (h : spr_grown (n + 1) ws M R xr) : w_grown sp_next_place (spr_grown n) (dEnds R xr) (startD ["net", "place", "end", "seen", "found", "line", "later", "rest"] ws) M := by
  obtain ⟨N, p, e, seen, rfl, hN, hnd, hsn, hps, hfu, k⟩ := h
  have hcard := card_le hnd hsn
  have hp6 := hN.p6
  have hl8 := hN.l8
  have hs1 : 1 ≤ seen.length := List.length_pos_of_mem hps
  obtain ⟨m, hm⟩ : ∃ m, N.p.toNat + 1 - seen.length = m + 1 := ⟨N.p.toNat - seen.length, by omega⟩
  rw [hm] at k hfu
  have en : N.d = .tuple [.int N.p, .tuple (N.ls.map prD)] := rfl
  unfold w_grown
  refine wSeq_i fun κ hκ => ?_
  walk_at "dl2"
  by_cases hpe : p = e
  · subst hpe
    rw [if_pos rfl]
    rw [grownP_end] at k
    exact ⟨_, Sub.refl _, k⟩
  rw [if_neg hpe]
  rw [grownP_step m seen hpe] at k
  subst hκ
  refine wSeq_i fun κ hκ => ?_
  walk_at "dl2"
  intro q hq
  generalize hM1 : mset M q _ = M1
  have hS := (St.start M).new' hq hM1
  subst hκ
  refine wSeq_i fun κ hκ => ?_
  have k0 : ∀ (M' : MM) (x5 x6 x7 : Option W), St M none [(q, .lst (((List.range N.ls.length).flatMap (stepG N.ls e m p seen)).map fun l => W.d (lnD l)))] M' → κ [some (.d N.d), some (.d (.int p)), some (.d (.int e)), some (.d (.tuple (seen.map .int))), some (.r (.ref q)), x5, x6, x7] M' := fun M' x5 x6 x7 hS => by
    subst hκ
    walk_at "dl2"
    simp only [hS.at0, allD_f]
    exact ⟨M, hS.del0.sub, k⟩
  clear hκ k
  rw [en]
  walk_at "dl2"
  rw [← en]
  refine ⟨⟨by omega, by omega⟩, ?_⟩
  refine iter_rg (fun i kk ρ M' => ∃ (x5 x6 x7 : Option W), ρ = [some (.d N.d), some (.d (.int p)), some (.d (.int e)), some (.d (.tuple (seen.map .int))), some (.r (.ref q)), x5, x6, x7] ∧ 0 ≤ i ∧ i + kk = N.ls.length ∧
    St M none [(q, .lst (((List.range i.toNat).flatMap (stepG N.ls e m p seen)).map fun l => W.d (lnD l)))] M') ?_ ?_ _ 0 _ _ ⟨_, _, _, rfl, Int.le_refl 0, by simp, hS⟩
  · rintro i _ M' ⟨x5, x6, x7, rfl, h0, h1, hS⟩
    refine ⟨trivial, ?_⟩
    dsimp only
    have : i.toNat = N.ls.length := by omega
    rw [this] at hS
    exact k0 _ _ _ _ hS
  clear hS k0
  rintro i kk _ M' κ2 ⟨x5, x6, x7, rfl, h0, h1, hS⟩ hκ2
  obtain ⟨l, rfl⟩ := Int.eq_ofNat_of_zero_le h0
  have hl : l < N.ls.length := by omega
  have hrange : (List.range (((l : Nat) : Int) + 1).toNat).flatMap (stepG N.ls e m p seen) = (List.range l).flatMap (stepG N.ls e m p seen) ++ stepG N.ls e m p seen l := by
    have : (((l : Nat) : Int) + 1).toNat = l + 1 := by omega
    rw [this, List.range_succ, List.flatMap_append, List.flatMap_singleton]
  rw [Int.toNat_natCast] at hS
  have hend : ∀ (M'' : MM) (x6 x7 : Option W), St M none [(q, .lst (((List.range l).flatMap (stepG N.ls e m p seen) ++ stepG N.ls e m p seen l).map fun l => W.d (lnD l)))] M'' → κ2 [some (.d N.d), some (.d (.int p)), some (.d (.int e)), some (.d (.tuple (seen.map .int))), some (.r (.ref q)), some (.d (.int (l : Int))), x6, x7] M'' := fun M'' x6 x7 hS => by
    refine hκ2 _ _ ⟨_, _, _, rfl, by omega, by omega, ?_⟩
    rw [hrange]; exact hS
  clear hκ2 hrange
  refine ⟨trivial, ?_⟩
  refine wSeq_i fun κ3 hκ3 => ?_
  walk_at "dl2"
  refine ⟨N, p, l, rfl, hl, ?_⟩
  subst hκ3
  walk_at "dl2"
  have hst : stepG N.ls e m p seen l = match nextP N.ls p l with
    | some q => if q ∈ seen then [] else (grownP N.ls e m q (seen ++ [q])).map (l :: ·)
    | none => [] := by rw [stepG]
  cases hn : nextP N.ls p l with
  | none =>
    rw [hn] at hst
    simp only at hst
    rw [hst, List.append_nil] at hend
    exact hend _ _ _ hS
  | some z =>
    rw [hn] at hst
    simp only at hst
    have eo : oD (some z) = .int z := rfl
    rw [eo]
    walk_at "dl2"
    refine ⟨rfl, flat_ints seen, ?_⟩
    rw [any_ints]
    by_cases hz : z ∈ seen
    · rw [if_pos hz] at hst
      rw [hst, List.append_nil] at hend
      rw [decide_eq_true hz]
      exact hend _ _ _ hS
    · rw [if_neg hz] at hst
      rw [hst] at hend
      rw [decide_eq_false hz]
      walk_at "dl2"
      obtain ⟨_, z0, z1, _⟩ := nextP_back hN hn
      have hnd' : (seen ++ [z]).Nodup := List.nodup_append.mpr ⟨hnd, List.pairwise_singleton _ _, fun a ha b hb => by
        cases List.mem_singleton.mp hb
        exact fun e => hz (e ▸ ha)⟩
      have hsn' : ∀ s ∈ seen ++ [z], 0 ≤ s ∧ s < N.p := fun s hs => by
        rcases List.mem_append.mp hs with hs | hs
        · exact hsn s hs
        · cases List.mem_singleton.mp hs
          exact ⟨z0, z1⟩
      have hcard' := card_le hnd' hsn'
      rw [List.length_append, List.length_singleton] at hcard'
      obtain ⟨m', rfl⟩ : ∃ m', m = m' + 1 := ⟨m - 1, by omega⟩
      obtain ⟨n', rfl⟩ : ∃ n', n = n' + 1 := ⟨n - 1, by omega⟩
      refine ⟨by rw [hS.at0]; rfl, by omega, N, z, e, seen ++ [z], by rw [List.map_append]; rfl, hN, hnd', hsn', List.mem_append_right _ (List.mem_singleton.mpr rfl), by rw [List.length_append, List.length_singleton]; omega, ?_⟩
      have efu : N.p.toNat + 1 - (seen ++ [z]).length = m' + 1 := by rw [List.length_append, List.length_singleton]; omega
      rw [efu]
      dsimp only
      rw [List.map_map]
      have hgl : (grownP N.ls e (m' + 1) z (seen ++ [z])).length ≤ 8 ^ 5 := Nat.le_trans (grown_len hl8 e m' z _) (Nat.pow_le_pow_right (by decide) (by omega))
      refine lc_m (W.d ∘ lnD) (fun r => W.d (lnD (l :: r))) trivial _ (fun r hr Q hQ => ?_) (Nat.le_trans hgl (by decide)) ?_
      · have hrl := grown_short e _ z _ r hr
        show wOp oAdd _ _ xq0 [_, _, _, _, _, _, _, some (W.d (.tuple (r.map nD)))] M' Q
        walk_at "dl2"
        exact ⟨by omega, hQ⟩
      · intro t ht
        generalize hM2 : mset M' t _ = M2
        have hS2 := (hS.new' ht hM2).swap
        simp only [hS2.at0]
        refine ⟨?_, ?_⟩
        · have h1 : ((List.range l).flatMap (stepG N.ls e (m' + 1) p seen)).length ≤ l * 8 ^ 5 := flat_len (fun l' => by
            unfold stepG
            cases nextP N.ls p l' with
            | none => exact Nat.zero_le _
            | some q' =>
              simp only
              split
              · exact Nat.zero_le _
              · rw [List.length_map]; exact Nat.le_trans (grown_len hl8 e m' q' _) (Nat.pow_le_pow_right (by decide) (by omega))) l
          have h2 : l * 8 ^ 5 ≤ 8 * 8 ^ 5 := Nat.mul_le_mul_right _ (by omega)
          rw [List.length_map, List.length_map]
          have h3 : (8 : Nat) * 8 ^ 5 + 8 ^ 5 ≤ 16777216 := by decide
          omega
        · generalize hM3 : mset M2 q _ = M3
          have hS3 := (hS2.set0' hM3).drop1
          refine hend _ _ _ ?_
          have e4 : List.map (fun l => W.d (lnD l)) (List.flatMap (stepG N.ls e (m' + 1) p seen) (List.range l)) ++ List.map (fun r => W.d (lnD (l :: r))) (grownP N.ls e (m' + 1) z (seen ++ [z])) =
              (List.flatMap (stepG N.ls e (m' + 1) p seen) (List.range l) ++ List.map (fun x => l :: x) (grownP N.ls e (m' + 1) z (seen ++ [z]))).map fun l => W.d (lnD l) := by
            rw [List.map_append, List.map_map]; rfl
          rw [← e4]
          exact hS3
/-! ### what grown tells: the lines of all ways on, each once -/
theorem grown_mem {ls : List (Int × Int)} {e : Int} : ∀ {n : Nat} {p : Int} {seen : List Int} {r : List Nat}, p ∈ seen → (r ∈ grownP ls e n p seen ↔ ∃ ps, Pth ls (p :: ps) r ∧ (p :: ps).getLast (List.cons_ne_nil _ _) = e ∧ (p :: ps).Nodup ∧ (∀ x ∈ ps, x ∉ seen) ∧ ps.length < n)
  | 0, p, seen, r, hp => by
    rw [grownP]
    exact ⟨fun h => (nomatch h), fun ⟨_, _, _, _, _, h⟩ => absurd h (Nat.not_lt_zero _)⟩
  | n + 1, p, seen, r, hp => by
    by_cases hpe : p = e
    · subst hpe
      rw [grownP_end]
      constructor
      · intro h
        cases List.mem_singleton.mp h
        exact ⟨[], .one p, rfl, List.pairwise_singleton _ _, (fun _ h => nomatch h), Nat.succ_pos _⟩
      · rintro ⟨ps, h1, h2, h3, h4, h5⟩
        cases ps with
        | nil =>
          cases h1
          exact List.mem_singleton.mpr rfl
        | cons a t =>
          have : p ∈ a :: t := by
            rw [List.getLast_cons (List.cons_ne_nil _ _)] at h2
            rw [← h2]
            exact List.getLast_mem _
          exact absurd this (List.nodup_cons.mp h3).1
    · rw [grownP_step n seen hpe]
      constructor
      · intro h
        obtain ⟨l, hl, hr⟩ := List.mem_flatMap.mp h
        unfold stepG at hr
        cases hn : nextP ls p l with
        | none => rw [hn] at hr; cases hr
        | some q =>
          rw [hn] at hr
          simp only at hr
          by_cases hq : q ∈ seen
          · rw [if_pos hq] at hr; cases hr
          · rw [if_neg hq] at hr
            obtain ⟨r', hr', rfl⟩ := List.mem_map.mp hr
            obtain ⟨ps, h1, h2, h3, h4, h5⟩ := (grown_mem (List.mem_append_right _ (List.mem_singleton.mpr rfl))).mp hr'
            have hx : ∀ x ∈ q :: ps, x ∉ seen := fun x hx => by
              rcases List.mem_cons.mp hx with rfl | hx
              · exact hq
              · exact fun z => h4 x hx (List.mem_append_left _ z)
            refine ⟨q :: ps, .more hn h1, by rw [List.getLast_cons (List.cons_ne_nil _ _)]; exact h2, List.nodup_cons.mpr ⟨fun z => hx p z hp, h3⟩, hx, by rw [List.length_cons]; omega⟩
      · rintro ⟨ps, h1, h2, h3, h4, h5⟩
        cases h1 with
        | one => exact absurd h2 hpe
        | more hn h1 =>
          rename_i q l qs lns
          have hl : l < ls.length := by
            unfold nextP at hn
            cases e : ls[l]? with
            | none => rw [e] at hn; cases hn
            | some _ => exact (List.getElem?_eq_some_iff.mp e).1
          refine List.mem_flatMap.mpr ⟨l, List.mem_range.mpr hl, ?_⟩
          unfold stepG
          rw [hn]
          simp only
          rw [if_neg (h4 q List.mem_cons_self)]
          refine List.mem_map.mpr ⟨lns, (grown_mem (List.mem_append_right _ (List.mem_singleton.mpr rfl))).mpr ⟨qs, h1, ?_, (List.nodup_cons.mp h3).2, fun x hx z => ?_, by rw [List.length_cons] at h5; omega⟩, rfl⟩
          · rw [List.getLast_cons (List.cons_ne_nil _ _)] at h2; exact h2
          · rcases List.mem_append.mp z with z | z
            · exact h4 x (List.mem_cons_of_mem _ hx) z
            · cases List.mem_singleton.mp z
              exact (List.nodup_cons.mp (List.nodup_cons.mp h3).2).1 hx
theorem nodup_cons_map {l : Nat} : ∀ {rs : List (List Nat)}, rs.Nodup → (rs.map (l :: ·)).Nodup := fun h => by
  unfold List.Nodup
  rw [List.pairwise_map]
  exact h.imp fun z e => z (List.cons.inj e).2
theorem grown_nodup {ls : List (Int × Int)} {e : Int} : ∀ (n : Nat) (p : Int) (seen : List Int), (grownP ls e n p seen).Nodup
  | 0, p, seen => by rw [grownP]; exact List.nodup_nil
  | n + 1, p, seen => by
    by_cases hpe : p = e
    · subst hpe; rw [grownP_end]; exact List.pairwise_singleton _ _
    · rw [grownP_step n seen hpe]
      unfold List.Nodup
      rw [List.pairwise_flatMap]
      have shape : ∀ l, ∀ r ∈ stepG ls e n p seen l, ∃ r', r = l :: r' := fun l r h => by
        unfold stepG at h
        cases hn : nextP ls p l with
        | none => rw [hn] at h; cases h
        | some q =>
          rw [hn] at h
          simp only at h
          split at h
          · cases h
          · obtain ⟨r', _, rfl⟩ := List.mem_map.mp h
            exact ⟨r', rfl⟩
      refine ⟨fun l _ => ?_, List.nodup_range.imp fun {a b} hab x hx y hy z => ?_⟩
      · unfold stepG
        cases nextP ls p l with
        | none => exact List.nodup_nil
        | some q =>
          simp only
          split
          · exact List.nodup_nil
          · exact nodup_cons_map (grown_nodup n q _)
      · obtain ⟨_, rfl⟩ := shape a x hx
        obtain ⟨_, rfl⟩ := shape b y hy
        exact hab (List.cons.inj z).1
end DL
namespace DL
open PySem PySem.Spec PyProof.Rows L2
local macro_rules | `(tactic| walk_at "dl2") => `(tactic| simp only [wAsg, wOp, wVar, wC, wgN, wgTup, wgCons, wgNil, wgSub, setW, wIf, wTest, wNext, wRet, wRetN, wDrop, wAndT, wOrT, wNotT, wAndV, wOrV, wNotV, wIfE, wNeg, wNil, wCons, wTup, wTupR, wLst, wBlt, wCall, wFrz, wFz, frz, wSl, wNoP, wSoP, wPar2, wPar3, wMethL, mAppend, isLst,
  wRev, wInR, wLenSet, bStr, bMax2, bMin2, wChain, wLc, wipeW, wYes, xq0, mkL, mkT, allD, allD_map, seeL, seeD, seeT, seeS, ownL, oIx, ixW, oAdd, oSub, oMul, oMod, oDiv, oPow, oLt, oLe, oGt, oGe, oB, isInts, oEq, oIsN, isNon, oIsB, oIn, oCat, oRep, bLen, bInt, bAbs, bList, bTuple, seeA, bSum, bInts, bAll, bAny, bBools, bIsi, tyName, bReprS,
  wFor, iR1, iR2, iS, iE, iEB, enW, iZ, stL, startD, dEnds, fin, at0, at1, at2, at3, at4, atm1, atm1', ix40, ix41, ix42, ix43, eqv_int, eqv_none_int, eqv_int_none, eqv_none, eqv_lnil, eqv_tnil, eqv_str, sh_int, sh_none, sh_bool, sh_ints, sh_nil, sh_tints, sh_tnil,
  kit_NoneType_bool, kit_NoneType_int, kit_NoneType_str, kit_NoneType_list, kit_NoneType_tuple, kit_bool_bool, kit_bool_int, kit_bool_str, kit_bool_list, kit_bool_tuple, kit_int_bool, kit_int_int, kit_int_str, kit_int_list, kit_int_tuple, kit_str_bool, kit_str_int, kit_str_str, kit_str_list, kit_str_tuple,
  kit_list_bool, kit_list_int, kit_list_str, kit_list_list, kit_list_tuple, kit_tuple_bool, kit_tuple_int, kit_tuple_str, kit_tuple_list, kit_tuple_tuple, kit_dict_bool, kit_dict_int, kit_dict_str, kit_dict_list, kit_dict_tuple,
  List.map_cons, List.map_nil, List.length_cons, List.length_nil, List.length_map, List.replicate, List.cons_append, List.nil_append, List.getElem?_cons_zero, List.getElem?_cons_succ, List.set_cons_zero, List.set_cons_succ, List.isEmpty_map,
  Bool.false_eq_true, reduceCtorEq, Nat.reduceAdd, Nat.reduceSub, Nat.reduceLeDiff, Option.map_some, Option.bind_some, true_and, and_true, decide_eq_true_eq, Bool.not_eq_true', Bool.not_true, Bool.not_false, decide_eq_false_iff_not, if_true, if_false, ite_true, ite_false, reduceIte, mset_same, cut_map, allD_f, allD_app, allD_rev, rep_map, Option.map_none, wSortK, bSorted, wMinD, bMinL, mExtend, iZA])
/-! ### an int and a row of numbers, in order -/
abbrev pD (x : Int) (a : List Nat) : PyData := .tuple [.int x, lnD a]
theorem pD_rD (x : Int) (a : List Nat) : rD x a = pD x a := rfl
theorem eqv_ints : ∀ xs ys : List Int, PyData.eqvAll (xs.map .int) (ys.map .int) = decide (xs = ys)
  | [], [] => by rw [List.map_nil, PyData.eqvAll]; rfl
  | [], _ :: _ => by rw [List.map_nil, List.map_cons, PyData.eqvAll]; rfl
  | _ :: _, [] => by rw [List.map_nil, List.map_cons, PyData.eqvAll]; rfl
  | x :: xs, y :: ys => by
    rw [List.map_cons, List.map_cons, PyData.eqvAll, eqv_int, eqv_ints xs ys]
    by_cases h : x = y
    · subst h
      by_cases h2 : xs = ys
      · subst h2; simp
      · simp [h2]
    · simp [h]
theorem nD_ints (a : List Nat) : a.map nD = (a.map fun n : Nat => (n : Int)).map PyData.int := by rw [List.map_map]; rfl
theorem map_cast_inj {a b : List Nat} (h : (a.map fun n : Nat => (n : Int)) = b.map fun n : Nat => (n : Int)) : a = b := by
  have : ∀ {a b : List Nat}, (a.map fun n : Nat => (n : Int)) = (b.map fun n : Nat => (n : Int)) → a = b := by
    intro a
    induction a with
    | nil => intro b h; cases b with | nil => rfl | cons => cases h
    | cons x r ih =>
      intro b h
      cases b with
      | nil => cases h
      | cons y t =>
        rw [List.map_cons, List.map_cons] at h
        obtain ⟨h1, h2⟩ := List.cons.inj h
        rw [Int.ofNat_inj.mp h1, ih h2]
  exact this h
theorem eqv_lnD (a b : List Nat) : PyData.eqv (lnD a) (lnD b) = decide (a = b) := by
  unfold lnD
  rw [nD_ints, nD_ints, PyData.eqv, eqv_ints]
  exact decide_eq_decide.mpr ⟨map_cast_inj, fun h => by rw [h]⟩
theorem alike_lnD (a b : List Nat) : PySem.W.alike (lnD a) (lnD b) = true := by
  unfold lnD
  rw [nD_ints, nD_ints, PySem.W.alike]
  exact PySem.W.alike_ints _ _
theorem lt_lnD (a b : List Nat) : PySem.W.dataLt (lnD a) (lnD b) = decide ((a.map fun n : Nat => (n : Int)) < b.map fun n : Nat => (n : Int)) := by
  unfold lnD
  rw [PySem.W.dataLt_tuple, nD_ints, nD_ints]
  exact PySem.W.dataLt_ints _ _
theorem lt_pD (x y : Int) (a b : List Nat) : PySem.W.dataLt (pD x a) (pD y b) = decide (x < y ∨ (x = y ∧ (a.map fun n : Nat => (n : Int)) < b.map fun n : Nat => (n : Int))) := by
  rw [PySem.W.dataLt_pair rfl (alike_lnD a b), eqv_int, eqv_lnD, PySem.W.dataLt_int, lt_lnD]
  by_cases h : x = y
  · subst h
    by_cases h2 : a = b
    · subst h2
      simp [List.lt_irrefl]
    · simp [h2]
  · simp [h]
theorem alike_pD (x y : Int) (a b : List Nat) : PySem.W.alike (pD x a) (pD y b) = true := by
  rw [PySem.W.alike, PySem.W.alikeAll, PySem.W.alikeAll, PySem.W.alikeAll, alike_lnD]; rfl
theorem depth_pD (x : Int) (a : List Nat) : (pD x a).depth ≤ 60 := by
  have : PyData.depthAll (a.map nD) = 0 := by rw [nD_ints]; exact PySem.W.depth_ints _
  simp only [pD, lnD, PyData.depth, PyData.depthAll, this]
  omega
theorem srt_pD {α : Type} (f : α → Int) (g : α → List Nat) (l : List α) : SrtOk (l.map fun z => pD (f z) (g z)) := by
  refine ⟨fun d hd d' hd' => ?_, .inl fun d hd => ?_, fun d hd => ?_⟩
  · obtain ⟨z, _, rfl⟩ := List.mem_map.mp hd
    obtain ⟨z', _, rfl⟩ := List.mem_map.mp hd'
    exact alike_pD _ _ _ _
  · obtain ⟨z, _, rfl⟩ := List.mem_map.mp hd
    exact ⟨_, _, rfl⟩
  · obtain ⟨z, _, rfl⟩ := List.mem_map.mp hd
    exact depth_pD _ _
/-- two such that neither is ahead are the same -/
theorem pD_anti {x y : Int} {a b : List Nat} (h1 : PySem.W.dataLt (pD x a) (pD y b) = false) (h2 : PySem.W.dataLt (pD y b) (pD x a) = false) : x = y ∧ a = b := by
  rw [lt_pD] at h1 h2
  have h1 := of_decide_eq_false h1
  have h2 := of_decide_eq_false h2
  have hx : x = y := by
    have : ¬ x < y := fun z => h1 (.inl z)
    have : ¬ y < x := fun z => h2 (.inl z)
    omega
  subst hx
  refine ⟨rfl, map_cast_inj ?_⟩
  have l1 : ¬ (a.map fun n : Nat => (n : Int)) < b.map fun n : Nat => (n : Int) := fun z => h1 (.inr ⟨rfl, z⟩)
  have l2 : ¬ (b.map fun n : Nat => (n : Int)) < a.map fun n : Nat => (n : Int) := fun z => h2 (.inr ⟨rfl, z⟩)
  exact List.le_antisymm (List.not_lt.mp l2) (List.not_lt.mp l1)
/-- sorting by such keys: of the same things comes the same row -/
theorem sort_same {α : Type} {key : α → PyData} {f : α → Int} {g : α → List Nat} (hk : ∀ z, key z = pD (f z) (g z)) {l m : List α} (hinj : ∀ a ∈ l, ∀ b ∈ m, f a = f b → g a = g b → a = b) (hp : l.Perm m) : l.mergeSort (PySem.W.dataLe false key) = m.mergeSort (PySem.W.dataLe false key) := by
  refine List.Perm.eq_of_pairwise (le := fun a b => PySem.W.dataLe false key a b = true) (fun a b ha hb h1 h2 => ?_) (PySem.W.sort_pairwise (PySem.W.sortLe_total _ false _) _) (PySem.W.sort_pairwise (PySem.W.sortLe_total _ false _) _) (((List.mergeSort_perm l _).trans hp).trans (List.mergeSort_perm m _).symm)
  have e1 : (!PySem.W.dataLt (key b) (key a)) = true := h1
  have e2 : (!PySem.W.dataLt (key a) (key b)) = true := h2
  rw [Bool.not_eq_true', hk, hk] at e1 e2
  obtain ⟨i1, i2⟩ := pD_anti e2 e1
  exact hinj a (List.mem_mergeSort.mp ha) b (List.mem_mergeSort.mp hb) i1 i2
theorem sortD_map {α : Type} (f : α → PyData) (l : List α) : sortD (l.map f) = (l.mergeSort (PySem.W.dataLe false f)).map f := by
  rw [List.map_mergeSort (s := PySem.W.dataLe false id)]
  intro a _ b _
  rfl
/-! ### routes -/
abbrev keyN (l : List Nat) : PyData := pD (l.length : Int) l
theorem key_lnD (l : List Nat) : key_by_lines (lnD l) = keyN l := by
  show PyData.tuple [.int ((l.map nD).length : Int), .tuple (l.map nD)] = _
  rw [List.length_map]
  rfl
def sortN (ls : List (List Nat)) : List (List Nat) := ls.mergeSort (PySem.W.dataLe false keyN)
theorem sortN_perm (ls : List (List Nat)) : (sortN ls).Perm ls := List.mergeSort_perm _ _
theorem sortN_same {l m : List (List Nat)} (h : l.Perm m) : sortN l = sortN m := sort_same (key := keyN) (f := fun l => (l.length : Int)) (g := fun l => l) (fun _ => rfl) (fun _ _ _ _ _ e => e) h
def routesP (N : Net) (s e : Int) : List (List Nat) := sortN (grownP N.ls e N.p.toNat s [s])
def sp_grown : DSp := spr_grown 8
def sp_by_lines : DSp := fun ws M R xr => ∃ l : List Nat, ws = [.d (lnD l)] ∧ R (.d (keyN l)) M
theorem pure_by_lines (ws : List W) (M : MM) (R : KW) (xr : XR) (h : sp_by_lines ws M R xr) : w_by_lines (dEnds R xr) (startD ["lines"] ws) M := by
  obtain ⟨l, rfl, k⟩ := h
  unfold w_by_lines lnD
  walk_at "dl2"
  exact ⟨_, Sub.refl _, k⟩
def sp_routes : DSp := fun ws M R xr => ∃ (N : Net) (s e : Int), ws = [.d N.d, .d (.int s), .d (.int e)] ∧ N.Ok ∧ 0 ≤ s ∧ s < N.p ∧ R (.d (.tuple ((routesP N s e).map fun l => rD s l))) M
theorem routes_len {N : Net} (hN : N.Ok) {s e : Int} (h0 : 0 ≤ s) (h1 : s < N.p) : (routesP N s e).length ≤ 32768 := by
  have hp6 := hN.p6
  unfold routesP
  rw [(sortN_perm _).length_eq]
  obtain ⟨m, hm⟩ : ∃ m, N.p.toNat = m + 1 := ⟨N.p.toNat - 1, by omega⟩
  rw [hm]
  exact Nat.le_trans (grown_len hN.l8 e m s _) (Nat.le_trans (Nat.pow_le_pow_right (by decide) (show m ≤ 5 by omega)) (by decide))
theorem pure_routes (ws : List W) (M : MM) (R : KW) (xr : XR) (h : sp_routes ws M R xr) : w_routes sp_grown sp_by_lines (dEnds R xr) (startD ["net", "start", "end", "found", "lines"] ws) M := by
  obtain ⟨N, s, e, rfl, hN, h0, h1, k⟩ := h
  have hrl := routes_len hN (e := e) h0 h1
  unfold routesP at k hrl
  have hp6 := hN.p6
  unfold w_routes
  refine wSeq_i fun κ hκ => ?_
  walk_at "dl2"
  refine ⟨N, s, e, [s], rfl, hN, List.pairwise_singleton _ _, fun x hx => by cases List.mem_singleton.mp hx; exact ⟨h0, h1⟩, List.mem_singleton.mpr rfl, by simp only [List.length_cons, List.length_nil]; omega, ?_⟩
  have ef : N.p.toNat + 1 - [s].length = N.p.toNat := by simp only [List.length_cons, List.length_nil]; omega
  rw [ef]
  generalize grownP N.ls e N.p.toNat s [s] = L at k hrl ⊢
  walk_at "dl2"
  have e1 : (List.map lnD L).mergeSort (PySem.W.dataLe false key_by_lines) = (sortN L).map lnD := by
    unfold sortN
    rw [List.map_mergeSort (s := PySem.W.dataLe false key_by_lines)]
    intro a _ b _
    show (!PySem.W.dataLt (keyN b) (keyN a)) = !PySem.W.dataLt (key_by_lines (lnD b)) (key_by_lines (lnD a))
    rw [key_lnD, key_lnD]
  refine ⟨⟨?_, fun d hd => ?_⟩, ?_⟩
  · rw [List.map_map]
    have : (key_by_lines ∘ lnD) = fun l => pD (l.length : Int) l := funext key_lnD
    rw [this]
    exact srt_pD _ _ _
  · obtain ⟨l, _, rfl⟩ := List.mem_map.mp hd
    exact ⟨l, rfl, by rw [key_lnD], rfl⟩
  rw [e1]
  subst hκ
  walk_at "dl2"
  rw [List.map_map]
  refine lc_m (W.d ∘ lnD) (fun l => W.d (rD s l)) trivial _ (fun l hl Q hQ => ?_) (by omega) ?_
  · show wTup _ xq0 [_, _, _, _, some (W.d (lnD l))] M Q
    walk_at "dl2"
    exact hQ
  rw [allD_f]
  walk_at "dl2"
  exact ⟨_, Sub.refl _, k⟩
theorem Pth.rng {N : Net} (hN : N.Ok) : ∀ {ps : List Int} {s : Int} {r : List Nat}, Pth N.ls (s :: ps) r → 0 ≤ s → s < N.p → ∀ x ∈ s :: ps, 0 ≤ x ∧ x < N.p
  | [], s, r, _, h0, h1, x, hx => by
    cases List.mem_singleton.mp hx
    exact ⟨h0, h1⟩
  | q :: ps, s, r, a, h0, h1, x, hx => by
    cases a with
    | more hn h =>
      obtain ⟨_, z0, z1, _⟩ := nextP_back hN hn
      rcases List.mem_cons.mp hx with rfl | hx
      · exact ⟨h0, h1⟩
      · exact Pth.rng hN h z0 z1 x hx
/-- routes are ways between two places that come to no place twice -/
theorem routes_mem {N : Net} (hN : N.Ok) {s e : Int} (h0 : 0 ≤ s) (h1 : s < N.p) {r : List Nat} : r ∈ routesP N s e ↔ ∃ ps, Pth N.ls (s :: ps) r ∧ (s :: ps).getLast (List.cons_ne_nil _ _) = e ∧ (s :: ps).Nodup := by
  unfold routesP sortN
  rw [List.mem_mergeSort, grown_mem (List.mem_singleton.mpr rfl)]
  constructor
  · rintro ⟨ps, a, b, c, _, _⟩
    exact ⟨ps, a, b, c⟩
  · rintro ⟨ps, a, b, c⟩
    have hin : ∀ x ∈ s :: ps, 0 ≤ x ∧ x < N.p := a.rng hN h0 h1
    refine ⟨ps, a, b, c, fun x hx z => ?_, ?_⟩
    · cases List.mem_singleton.mp z
      exact (List.nodup_cons.mp c).1 hx
    · have := card_le c hin
      rw [List.length_cons] at this
      omega
theorem routes_nodup (N : Net) (s e : Int) : (routesP N s e).Nodup := by
  unfold routesP
  exact ((sortN_perm _).nodup_iff).mpr (grown_nodup _ _ _)
theorem routes_rt {N : Net} (hN : N.Ok) {s e : Int} (h0 : 0 ≤ s) (h1 : s < N.p) (hne : s ≠ e) {r : List Nat} (h : r ∈ routesP N s e) : ∃ ps, Rt N (s :: ps) r ∧ (s :: ps).reverse.headD 0 = e := by
  obtain ⟨ps, a, b, c⟩ := (routes_mem hN h0 h1).mp h
  refine ⟨ps, ⟨a, c, fun z => ?_⟩, ?_⟩
  · subst z
    cases a
    exact hne b
  · rw [← b, List.headD_eq_head?_getD, List.head?_reverse, List.getLast?_eq_some_getLast (List.cons_ne_nil _ _)]; rfl
end DL
namespace DL
open PySem PySem.Spec PyProof.Rows L2
local macro_rules | `(tactic| walk_at "dl2") => `(tactic| simp only [wAsg, wOp, wVar, wC, wgN, wgTup, wgCons, wgNil, wgSub, setW, wIf, wTest, wNext, wRet, wRetN, wDrop, wAndT, wOrT, wNotT, wAndV, wOrV, wNotV, wIfE, wNeg, wNil, wCons, wTup, wTupR, wLst, wBlt, wCall, wFrz, wFz, frz, wSl, wNoP, wSoP, wPar2, wPar3, wMethL, mAppend, isLst,
  wRev, wInR, wLenSet, bStr, bMax2, bMin2, wChain, wLc, wipeW, wYes, xq0, mkL, mkT, allD, allD_map, seeL, seeD, seeT, seeS, ownL, oIx, ixW, oAdd, oSub, oMul, oMod, oDiv, oPow, oLt, oLe, oGt, oGe, oB, isInts, oEq, oIsN, isNon, oIsB, oIn, oCat, oRep, bLen, bInt, bAbs, bList, bTuple, seeA, bSum, bInts, bAll, bAny, bBools, bIsi, tyName, bReprS,
  wFor, iR1, iR2, iS, iE, iEB, enW, iZ, stL, startD, dEnds, fin, at0, at1, at2, at3, at4, atm1, atm1', ix40, ix41, ix42, ix43, eqv_int, eqv_none_int, eqv_int_none, eqv_none, eqv_lnil, eqv_tnil, eqv_str, sh_int, sh_none, sh_bool, sh_ints, sh_nil, sh_tints, sh_tnil,
  kit_NoneType_bool, kit_NoneType_int, kit_NoneType_str, kit_NoneType_list, kit_NoneType_tuple, kit_bool_bool, kit_bool_int, kit_bool_str, kit_bool_list, kit_bool_tuple, kit_int_bool, kit_int_int, kit_int_str, kit_int_list, kit_int_tuple, kit_str_bool, kit_str_int, kit_str_str, kit_str_list, kit_str_tuple,
  kit_list_bool, kit_list_int, kit_list_str, kit_list_list, kit_list_tuple, kit_tuple_bool, kit_tuple_int, kit_tuple_str, kit_tuple_list, kit_tuple_tuple, kit_dict_bool, kit_dict_int, kit_dict_str, kit_dict_list, kit_dict_tuple,
  List.map_cons, List.map_nil, List.length_cons, List.length_nil, List.length_map, List.replicate, List.cons_append, List.nil_append, List.getElem?_cons_zero, List.getElem?_cons_succ, List.set_cons_zero, List.set_cons_succ, List.isEmpty_map,
  Bool.false_eq_true, reduceCtorEq, Nat.reduceAdd, Nat.reduceSub, Nat.reduceLeDiff, Option.map_some, Option.bind_some, true_and, and_true, decide_eq_true_eq, Bool.not_eq_true', Bool.not_true, Bool.not_false, decide_eq_false_iff_not, if_true, if_false, ite_true, ite_false, reduceIte, mset_same, cut_map, allD_f, allD_app, allD_rev, rep_map, Option.map_none, wSortK, bSorted, wMinD, bMinL, mExtend, iZA])
def w_shortest (sp_routes : DSp) (sp_length_of : DSp) : WS := (wSeq (wAsg (wCall sp_routes (wCons (wVar 0) (wCons (wVar 2) (wCons (wVar 3) wNil)))) (wgN 4))
    (wSeq (wAsg (wLc false (iS (wVar 4)) (wgN 7) wYes (wCall sp_length_of (wCons (wVar 0) (wCons (wVar 1) (wCons (wVar 7) wNil)))) [7]) (wgN 5))
    (wSeq (wAsg (wMinD (wCons (wVar 5) wNil) (wC (.d (.int 0)))) (wgN 6))
    (wRet (wBlt bTuple (wCons (wLc false (iZA (wCons (wVar 4) (wCons (wVar 5) wNil))) (wgTup 2 (wgCons (wgN 7) (wgCons (wgN 8) wgNil))) (wTest (wOp (oEq false) (wVar 8) (wVar 6))) (wVar 7) [7, 8]) wNil))))))
theorem nodup_map_inj {α β : Type} {f : α → β} (hf : ∀ a b, f a = f b → a = b) {l : List α} (h : l.Nodup) : (l.map f).Nodup := by
  unfold List.Nodup
  rw [List.pairwise_map]
  exact h.imp fun z e => z (hf _ _ e)
theorem snoc_inj {α : Type} {a b : List α} {x y : α} (h : a ++ [x] = b ++ [y]) : a = b ∧ x = y := by
  have h1 := List.append_inj' h rfl
  exact ⟨h1.1, (List.cons.inj h1.2).1⟩
theorem Pth.det {ls : List (Int × Int)} {s : Int} {ps qs : List Int} {r : List Nat} (h : Pth ls (s :: ps) r) (g : Pth ls (s :: qs) r) : ps = qs := by
  induction r generalizing s ps qs with
  | nil => cases h; cases g; rfl
  | cons l r ih =>
    cases h with
    | more h1 h2 =>
      cases g with
      | more g1 g2 =>
        rw [h1] at g1
        cases g1
        rw [ih h2 g2]
theorem eqv_prD (x : Int × Int) (a b : Int) : PyData.eqv (prD x) (.tuple [.int a, .int b]) = decide (x = (a, b)) := by
  obtain ⟨u, v⟩ := x
  show PyData.eqv (.tuple ([u, v].map .int)) (.tuple ([a, b].map .int)) = _
  rw [PyData.eqv, eqv_ints]
  exact decide_eq_decide.mpr ⟨fun z => by simpa using z, fun z => by simpa using z⟩
theorem rp_digit {i : Int} (h0 : 0 ≤ i) (h1 : i < 10) : Rp 0 1 (.int i) := by
  have : i = 0 ∨ i = 1 ∨ i = 2 ∨ i = 3 ∨ i = 4 ∨ i = 5 ∨ i = 6 ∨ i = 7 ∨ i = 8 ∨ i = 9 := by omega
  rcases this with rfl | rfl | rfl | rfl | rfl | rfl | rfl | rfl | rfl | rfl <;> exact ⟨by decide +kernel, by decide +kernel, by decide +kernel, by decide +kernel⟩
theorem rp_rD {s : Int} {l : List Nat} (h0 : 0 ≤ s) (h1 : s < 10) (hl : l.length ≤ 6) (hx : ∀ z ∈ l, z < 10) : Rp 2 60 (rD s l) :=
  (rp_pair ((rp_digit h0 h1).mono (k' := 1) (n' := 22) (by decide) (by decide)) ((Rp.tuple' (k := 0) (n := 1) (m := 6) (ds := l.map nD) (fun d hd => by
    obtain ⟨z, hz, rfl⟩ := List.mem_map.mp hd
    have := hx z hz
    exact rp_digit (by omega) (by omega)) (by rw [List.length_map]; exact hl)).mono (k' := 1) (n' := 22) (by decide) (by decide))).mono (by decide) (by decide)
theorem rt_le {N : Net} (hN : N.Ok) {ps : List Int} {l : List Nat} (r : Rt N ps l) (h0 : 0 ≤ ps.headD 0) (h1 : ps.headD 0 < N.p) : l.length ≤ 5 ∧ ∀ z ∈ l, z < N.ls.length := by
  obtain ⟨s, qs, rfl, _⟩ := r.shape
  have := card_le r.nd (r.pth.rng hN h0 h1)
  have e := r.pth.len
  have := hN.p6
  exact ⟨by omega, r.pth.ln hN⟩
theorem back_perm {N : Net} (hN : N.Ok) {s e : Int} (h0 : 0 ≤ s) (h1 : s < N.p) (h2 : 0 ≤ e) (h3 : e < N.p) : ((routesP N s e).map List.reverse).Perm (routesP N e s) := by
  have half : ∀ {s e : Int} {r : List Nat}, 0 ≤ s → s < N.p → 0 ≤ e → e < N.p → r ∈ routesP N s e → r.reverse ∈ routesP N e s := fun {s e r} h0 h1 h2 h3 h => by
    obtain ⟨ps, a, b, c⟩ := (routes_mem hN h0 h1).mp h
    have hr := a.reverse hN
    obtain ⟨qs, hq⟩ : ∃ qs, (s :: ps).reverse = e :: qs := by
      have e1 := List.dropLast_concat_getLast (List.cons_ne_nil s ps)
      rw [b] at e1
      exact ⟨_, by rw [← e1, List.reverse_append]; rfl⟩
    refine (routes_mem hN h2 h3).mpr ⟨qs, by rw [← hq]; exact hr, ?_, by rw [← hq]; exact List.pairwise_reverse.mpr (c.imp fun z e => z e.symm)⟩
    have : (e :: qs).getLast (List.cons_ne_nil _ _) = ((s :: ps).reverse).getLast (by rw [hq]; exact List.cons_ne_nil _ _) := by simp only [hq]
    rw [this, List.getLast_reverse]; rfl
  refine (List.perm_ext_iff_of_nodup ?_ (routes_nodup N e s)).mpr fun r => ?_
  · exact nodup_map_inj (fun a b z => List.reverse_inj.mp z) (routes_nodup N s e)
  · rw [List.mem_map]
    constructor
    · rintro ⟨r', h, rfl⟩
      exact half h0 h1 h2 h3 h
    · intro h
      exact ⟨r.reverse, half h2 h3 h0 h1 h, List.reverse_reverse r⟩
theorem alikeAll_of : ∀ {ds : List PyData}, (∀ d ∈ ds, PySem.W.alike d d = true) → PySem.W.alikeAll ds ds = true
  | [], _ => by rw [PySem.W.alikeAll]
  | d :: r, h => by
    rw [PySem.W.alikeAll, h d List.mem_cons_self, alikeAll_of fun x hx => h x (List.mem_cons_of_mem _ hx)]; rfl
/-! ### shortest -/
theorem zpW_maps {α : Type} (f g : α → PyData) : ∀ xs : List α, zpW (xs.map f) (xs.map g) = xs.map fun x => W.d (.tuple [f x, g x])
  | [] => rfl
  | x :: r => by
    rw [List.map_cons, List.map_cons, zpW, zpW_maps f g r]; rfl
def shortP (N : Net) (xs : List Int) (s e : Int) : List (List Nat) := (routesP N s e).filter fun l => decide (lenP xs l = minOr 0 ((routesP N s e).map (lenP xs)))
def sp_shortest : DSp := fun ws M R xr => ∃ (N : Net) (xs : List Int) (s e : Int), ws = [.d N.d, .d (.tuple (xs.map .int)), .d (.int s), .d (.int e)] ∧ N.Ok ∧ xs.length = N.ls.length ∧ 0 ≤ s ∧ s < N.p ∧ R (.d (.tuple ((shortP N xs s e).map fun l => rD s l))) M
theorem routes_short {N : Net} (hN : N.Ok) {s e : Int} (h0 : 0 ≤ s) (h1 : s < N.p) {l : List Nat} (h : l ∈ routesP N s e) : l.length ≤ 5 ∧ ∀ z ∈ l, z < N.ls.length := by
  obtain ⟨ps, a, _, c⟩ := (routes_mem hN h0 h1).mp h
  have := card_le c (a.rng hN h0 h1)
  have e2 := a.len
  have := hN.p6
  exact ⟨by omega, a.ln hN⟩
theorem pure_shortest (ws : List W) (M : MM) (R : KW) (xr : XR) (h : sp_shortest ws M R xr) : w_shortest sp_routes sp_length_of (dEnds R xr) (startD ["net", "lengths", "start", "end", "every", "sizes", "least", "route", "size"] ws) M := by
  obtain ⟨N, xs, s, e, rfl, hN, hx, h0, h1, k⟩ := h
  have hrl := routes_len hN (e := e) h0 h1
  have hsh : ∀ l ∈ routesP N s e, l.length ≤ 5 ∧ ∀ z ∈ l, z < N.ls.length := fun l hl => routes_short hN h0 h1 hl
  unfold shortP at k
  unfold w_shortest
  refine wSeq_i fun κ hκ => ?_
  walk_at "dl2"
  refine ⟨N, s, e, rfl, hN, h0, h1, ?_⟩
  generalize routesP N s e = L at k hrl hsh ⊢
  subst hκ
  refine wSeq_i fun κ hκ => ?_
  walk_at "dl2"
  rw [List.map_map]
  refine lc_m (W.d ∘ fun l => rD s l) (fun l => W.d (.int (lenP xs l))) trivial _ (fun l hl Q hQ => ?_) (by omega) ?_
  · obtain ⟨a, b⟩ := hsh l hl
    show wCall sp_length_of _ xq0 [_, _, _, _, _, _, _, some (W.d (rD s l)), _] M Q
    walk_at "dl2"
    exact ⟨_, xs, s, l, rfl, fun z hz => by rw [hx]; exact b z hz, by omega, hQ⟩
  rw [allD_f]
  subst hκ
  refine wSeq_i fun κ hκ => ?_
  walk_at "dl2"
  simp only [intsD_f]
  subst hκ
  walk_at "dl2"
  rw [zpW_maps]
  refine lc_fm2 (fun l => rD s l) (fun l => PyData.int (lenP xs l)) (fun l => decide (lenP xs l = minOr 0 (L.map (lenP xs)))) (fun l => W.d (rD s l)) trivial _ [] (fun l hl Q hQ => ?_) (fun l hl _ Q hQ => ?_) (by simp only [List.length_nil]; omega) ?_
  · show wTest _ xq0 [_, _, _, _, _, _, some (W.d (.int _)), some (W.d (rD s l)), some (W.d (.int (lenP xs l)))] M Q
    walk_at "dl2"
    exact hQ
  · exact hQ
  rw [List.nil_append, allD_f]
  walk_at "dl2"
  exact ⟨_, Sub.refl _, k⟩
end DL
namespace DL
open PySem PySem.Spec PyProof.Rows L2
section
variable {X : Cx} {Wx : WX} {k : Nat}
theorem _root_.L2.Room.units65 {k : Nat} {A : Around} (r : Room k A) : A.units + 65 < cLine := by
  have := r.un
  omega
/-! ### in: data in a tuple -/
def rInT (K : PySem.W.Frag) (neg : Bool) : R2 := fun x y H Q => ∃ d ds, Dp K H x d ∧ Dp K H y (.tuple ds) ∧ SeqAt.shaped d = true ∧ SeqAt.shaped (.tuple ds) = true ∧ Q (.bl (if neg then !(ds.any fun z => PyData.eqv z d) else ds.any fun z => PyData.eqv z d)) H
theorem op_inT (hu : X.A.units + 65 < cLine) : OpR X (compareOp .In) (rInT X.K false) := by
  intro pins s σ H x y v u Q I rx ry h
  obtain ⟨d, e, hd, he, sd, se, q⟩ := h
  obtain ⟨as, r1⟩ := Dp.reads I d x v hd rx
  obtain ⟨bs, r2⟩ := Dp.reads I _ y u he ry
  exact SeqAt.in_tuple_reads r2 r1 (SeqAt.canLay_of_shaped se) (SeqAt.canLay_of_shaped sd) (room_in_shaped sd hu) ⟨.bl _, H, I, rfl, q⟩
theorem op_notInT (hu : X.A.units + 65 < cLine) : OpR X (compareOp .NotIn) (rInT X.K true) := by
  intro pins s σ H x y v u Q I rx ry h
  obtain ⟨d, e, hd, he, sd, se, q⟩ := h
  obtain ⟨as, r1⟩ := Dp.reads I d x v hd rx
  obtain ⟨bs, r2⟩ := Dp.reads I _ y u he ry
  exact SeqAt.notIn_tuple_reads r2 r1 (SeqAt.canLay_of_shaped se) (SeqAt.canLay_of_shaped sd) (room_in_shaped sd hu) ⟨.bl _, H, I, rfl, q⟩
def oInT (neg : Bool) : WO := fun x y M Q => match seeD M x, seeD M y with
  | some d, some (.tuple ds) => SeqAt.shaped d = true ∧ SeqAt.shaped (.tuple ds) = true ∧ Q (.d (.bool (if neg then !(ds.any fun z => PyData.eqv z d) else ds.any fun z => PyData.eqv z d))) M
  | _, _ => False
theorem so_inT {neg : Bool} : SndO X.K (rInT X.K neg) (oInT neg) := fun M G H x y v u Q R s r1 r2 h kk => by
  unfold oInT at h
  cases e1 : seeD M x with
  | none => rw [e1] at h; exact h.elim
  | some d =>
    cases e2 : seeD M y with
    | none => rw [e1, e2] at h; exact h.elim
    | some e =>
      rw [e1, e2] at h
      cases e <;> try (exact h.elim)
      obtain ⟨c1, c2, q⟩ := h
      exact ⟨d, _, seeD_ok s r1 e1, seeD_ok s r2 e2, c1, c2, kk _ _ _ _ _ (Stp.refl s) (Dp.bl _) q⟩
/-! ### xs.pop(i) of an owned list; ds.index(d) of data -/
def mPop : WM := fun o xs M Q => match o, xs with
  | .r (.ref p), [.d (.int i)] => (match M p with
    | some (.lst ws) => ∃ k x, (-(2 ^ 63) ≤ i ∧ i < 2 ^ 63) ∧ seqIndex? i ws.length = some k ∧ ws[k]? = some x ∧ Q x (mset M p (.lst (ws.eraseIdx k)))
    | _ => False)
  | _, _ => False
theorem paired_erase {α β : Type} {F : α → β → Prop} : ∀ {xs : List α} {ys : List β}, Paired F xs ys → ∀ k, Paired F (xs.eraseIdx k) (ys.eraseIdx k)
  | _, _, .nil, _ => .nil
  | _, _, .cons h t, 0 => t
  | _, _, .cons h t, k + 1 => .cons h (paired_erase t k)
theorem sm_pop : SndM X.K rPopAt mPop := fun M G H o xs v vs Q R s ro r h kk => by
  cases o with
  | d d => exact h.elim
  | r z =>
    have e : z = v := ro
    subst e
    cases z <;> try (exact h.elim)
    rename_i p
    match xs, h with
    | [.d (.int i)], h =>
      obtain ⟨u, rfl, rx⟩ := paired1 r
      cases rx
      have h' : (match M p with | some (.lst ws) => ∃ k x, (-(2 ^ 63) ≤ i ∧ i < 2 ^ 63) ∧ seqIndex? i ws.length = some k ∧ ws[k]? = some x ∧ Q x (mset M p (.lst (ws.eraseIdx k))) | _ => False) := h
      cases e : M p with
      | none => rw [e] at h'; exact h'.elim
      | some mo =>
        rw [e] at h'
        cases mo <;> try (exact h'.elim)
        rename_i ws
        obtain ⟨k, x, ⟨h1, h2⟩, h3, h4, q⟩ := h'
        obtain ⟨us, hh, rr⟩ := own_of s e
        obtain ⟨y, h5, h6⟩ := paired_at rr h4
        exact ⟨p, us, i, k, y, rfl, rfl, hh, h1, h2, by rw [← paired_len rr]; exact h3, h5, kk _ _ _ _ _ (Stp.mut s e (show RelMO X.K G (.lst (ws.eraseIdx k)) (.lst (us.eraseIdx k)) from paired_erase rr k)) h6 q⟩
theorem de_pop {o e : Expr} {wo : WE} {wa : WA} {apos cpos : Pos} (ho : DE X Wx o wo) (ha : DA X Wx [e] wa) (hbase : attributeBase o "pop" X.env (eval o X.env) = eval o X.env := by rfl)
    (hfew : ((backTo cpos (starEach [e] X.env)).all (fun x => !x.1) && (backToKw cpos (keywordEach [] X.env)).all (fun x => x.1.isSome)
      && decide ([e].length + ([] : List Keyword).length + (if ([] : List Keyword).isEmpty then 0 else 1) < 30)) = true := by rfl)
    (hline : (apos.endLine == cpos.line) = true := by rfl) (hst : starEach [e] X.env = (false, eval e X.env) :: starEach [] X.env := by rfl) (hplain : (backTo cpos (starEach [] X.env)).any (·.1) = false := by rfl) :
    DE X Wx (.Call (.Attribute o "pop" apos) [e] [] cpos) (wMethL mPop wo wa) :=
  de_meth (T := "list") PySem.F.plainAttrs_list PySem.F.slot_list_pop PySem.F.type_list_pop mt_popAt sm_pop ho ha hbase hfew hline hst hplain
def mIndex : WM := fun o xs M Q => match seeD M o, xs with
  | some (.list ds), [y] => (match seeD M y with
    | some d => ∃ (j : Nat) (z : PyData), SeqAt.shaped (.list ds) = true ∧ SeqAt.shaped d = true ∧ ds[j]? = some z ∧ PyData.eqv z d = true ∧ (∀ (m : Nat) (z' : PyData), m < j → ds[m]? = some z' → PyData.eqv z' d = false) ∧ Q (.d (.int (j : Nat))) M
    | none => False)
  | _, _ => False
theorem sm_index : SndM X.K (rIndexD X.K) mIndex := fun M G H o xs v vs Q R s ro r h kk => by
  unfold mIndex at h
  cases e1 : seeD M o with
  | none => rw [e1] at h; exact h.elim
  | some dl =>
    rw [e1] at h
    cases dl <;> try (exact h.elim)
    rename_i ds
    match xs, h with
    | [y], h =>
      obtain ⟨u, rfl, rx⟩ := paired1 r
      cases e2 : seeD M y with
      | none =>
        have h' : (match seeD M y with | some d => _ | none => False) := h
        rw [e2] at h'; exact h'.elim
      | some d =>
        have h' : (match seeD M y with | some d => ∃ (j : Nat) (z : PyData), SeqAt.shaped (.list ds) = true ∧ SeqAt.shaped d = true ∧ ds[j]? = some z ∧ PyData.eqv z d = true ∧ (∀ (m : Nat) (z' : PyData), m < j → ds[m]? = some z' → PyData.eqv z' d = false) ∧ Q (.d (.int (j : Nat))) M | none => False) := h
        rw [e2] at h'
        obtain ⟨j, z, h1, h2, h3, h4, h5, q⟩ := h'
        have hd := seeD_ok s ro e1
        have hy := seeD_ok s rx e2
        have hv : ∃ a, v = V.ref a := by cases hd with | lst a b => exact ⟨_, rfl⟩
        obtain ⟨a, rfl⟩ := hv
        exact ⟨a, u, d, ds, j, z, rfl, rfl, hd, hy, h1, h2, h3, h4, h5, kk _ _ _ _ _ (Stp.refl s) (Dp.int _) q⟩
theorem de_index {o e : Expr} {wo : WE} {wa : WA} {apos cpos : Pos} (hu : X.A.units + 65 < cLine) (ho : DE X Wx o wo) (ha : DA X Wx [e] wa) (hbase : attributeBase o "index" X.env (eval o X.env) = eval o X.env := by rfl)
    (hfew : ((backTo cpos (starEach [e] X.env)).all (fun x => !x.1) && (backToKw cpos (keywordEach [] X.env)).all (fun x => x.1.isSome)
      && decide ([e].length + ([] : List Keyword).length + (if ([] : List Keyword).isEmpty then 0 else 1) < 30)) = true := by rfl)
    (hline : (apos.endLine == cpos.line) = true := by rfl) (hst : starEach [e] X.env = (false, eval e X.env) :: starEach [] X.env := by rfl) (hplain : (backTo cpos (starEach [] X.env)).any (·.1) = false := by rfl) :
    DE X Wx (.Call (.Attribute o "index" apos) [e] [] cpos) (wMethL mIndex wo wa) :=
  de_meth (T := "list") PySem.F.plainAttrs_list PySem.F.slot_list_index PySem.F.type_list_index (mt_indexD hu) sm_index ho ha hbase hfew hline hst hplain
/-! ### list(range(n)) -/
theorem paired_maps {ι α β : Type} {F : α → β → Prop} {f : ι → α} {g : ι → β} (h : ∀ i, F (f i) (g i)) : ∀ l : List ι, Paired F (l.map f) (l.map g)
  | [] => .nil
  | i :: r => .cons (h i) (paired_maps h r)
def wLstRg (o : Bool) (w : WE) : WE := fun xq ρ M Q => w xq ρ M fun x M1 => match x with
  | .d (.int n) => (0 ≤ n ∧ n ≤ 16777216) ∧ mkL o ((List.range n.toNat).map fun i : Nat => W.d (.int (i : Int))) M1 Q
  | _ => False
theorem de_lstRg1 {a : Expr} {w : WE} {p p2 pos q : Pos} (o : Bool) (hm : X.mg "list" = none) (hm2 : X.mg "range" = none) (c : Cq X Wx k) (ha : DE X Wx a w) (hg : Gl X "list" := by rfl) (hg2 : Gl X "range" := by rfl)
    (na : starEach [a] X.env = (false, eval a X.env) :: starEach [] X.env := by rfl) (nb : starEach [Expr.Call (.Name "range" p2) [a] [] q] X.env = (false, eval (.Call (.Name "range" p2) [a] [] q) X.env) :: starEach [] X.env := by rfl) :
    DE X Wx (.Call (.Name "list" p) [.Call (.Name "range" p2) [a] [] q] [] pos) (wLstRg o w) := by
  obtain ⟨t, pt, st⟩ := ha
  refine ⟨_, pe_listRg c.calm hg hm (prg_1 hg2 hm2 pt na) nb, fun xq ρ M σ G H Q R rl h kk => ?_⟩
  refine st xq ρ M σ G H _ _ rl h fun v H1 G1 M1 x s1 r1 q1 => ?_
  cases x with
  | r z => exact q1.elim
  | d d =>
    cases d <;> try (exact q1.elim)
    rename_i n
    cases r1
    obtain ⟨⟨n0, n1⟩, q1⟩ := q1
    refine ⟨n, rfl, RgOk.of_le (Int.le_refl 0) n1 (by decide) n0, ?_⟩
    refine mkL_ok s1.sim ?_ q1 fun v' H' G' M' x' s2 => kk v' H' G' M' x' (s1.trans s2)
    unfold rgV
    have e : (n - 0).toNat = n.toNat := by rw [Int.sub_zero]
    rw [e]
    exact paired_maps (fun i => by rw [Int.zero_add]; exact Dp.int _) _
end
end DL
namespace DL
open PySem PySem.Spec PyProof.Rows L2
/-! ### walks and shortest routes -/
theorem pre_pth {N : Net} {xs : List Int} (hx : ∀ x ∈ xs, 1 ≤ x) : ∀ {ps : List Int} {p v : Int} {r : List Nat}, Pth N.ls (p :: ps) r → v ∈ p :: ps → ∃ qs r', Pth N.ls (p :: qs) r' ∧ (p :: qs).getLast (List.cons_ne_nil _ _) = v ∧ (p :: qs).Sublist (p :: ps) ∧ lenP xs r' ≤ lenP xs r := by
  have pos : ∀ l : Nat, 0 ≤ xs.getD l 0 := fun l => by
    rw [List.getD_eq_getElem?_getD]
    cases e : xs[l]? with
    | none => exact Int.le_refl _
    | some x => have := hx x (List.mem_of_getElem? e); show 0 ≤ x; omega
  have cons : ∀ l r, lenP xs (l :: r) = xs.getD l 0 + lenP xs r := fun l r => by unfold lenP; rw [List.map_cons, List.sum_cons]
  have posL : ∀ r : List Nat, 0 ≤ lenP xs r := fun r => by
    induction r with
    | nil => simp [lenP]
    | cons l r ih => rw [cons]; have := pos l; omega
  intro ps
  induction ps with
  | nil =>
    intro p v r h hv
    cases List.mem_singleton.mp hv
    exact ⟨[], r, h, rfl, List.Sublist.refl _, Int.le_refl _⟩
  | cons q ps ih =>
    intro p v r h hv
    by_cases e : v = p
    · subst e
      exact ⟨[], [], .one _, rfl, by simp, by have := posL r; simp only [lenP, List.map_nil, List.sum_nil] at this ⊢; exact this⟩
    · cases h with
      | more hn h =>
        obtain ⟨qs, r', h1, h2, h3, h4⟩ := ih h ((List.mem_cons.mp hv).resolve_left e)
        refine ⟨q :: qs, _ :: r', .more hn h1, by rw [List.getLast_cons (List.cons_ne_nil _ _)]; exact h2, h3.cons_cons _, ?_⟩
        rw [cons, cons]; omega
theorem lenP_snoc (xs : List Int) (r : List Nat) (l : Nat) : lenP xs (r ++ [l]) = lenP xs r + xs.getD l 0 := by
  unfold lenP
  rw [List.map_append, List.sum_append]; simp
theorem route_ext {N : Net} (hN : N.Ok) {xs : List Int} (hx : ∀ x ∈ xs, 1 ≤ x) {s u v : Int} {l : Nat} (h0 : 0 ≤ s) (h1 : s < N.p) {r : List Nat} (hr : r ∈ routesP N s u) (hn : nextP N.ls u l = some v) : ∃ r' ∈ routesP N s v, lenP xs r' ≤ lenP xs r + xs.getD l 0 := by
  obtain ⟨ps, a, b, c⟩ := (routes_mem hN h0 h1).mp hr
  by_cases hv : v ∈ s :: ps
  · obtain ⟨qs, r', g1, g2, g3, g4⟩ := pre_pth hx a hv
    refine ⟨r', (routes_mem hN h0 h1).mpr ⟨qs, g1, g2, c.sublist g3⟩, ?_⟩
    have : 0 ≤ xs.getD l 0 := by
      rw [List.getD_eq_getElem?_getD]
      cases e : xs[l]? with
      | none => exact Int.le_refl _
      | some x => have := hx x (List.mem_of_getElem? e); show 0 ≤ x; omega
    omega
  · have e1 : (s :: ps).dropLast ++ [u] = s :: ps := by
      rw [← b]; exact List.dropLast_concat_getLast _
    have a' : Pth N.ls ((s :: ps).dropLast ++ [u]) r := by rw [e1]; exact a
    have h2 := a'.snoc hn
    rw [e1] at h2
    refine ⟨r ++ [l], (routes_mem hN h0 h1).mpr ⟨ps ++ [v], h2, ?_, ?_⟩, by rw [lenP_snoc]; exact Int.le_refl _⟩
    · have : (s :: (ps ++ [v])) = (s :: ps) ++ [v] := rfl
      simp only [this, List.getLast_concat]
    · have : (s :: (ps ++ [v])) = (s :: ps) ++ [v] := rfl
      rw [this]
      exact List.nodup_append.mpr ⟨c, List.pairwise_singleton _ _, fun x hx' y hy => by
        cases List.mem_singleton.mp hy
        exact fun z => hv (z ▸ hx')⟩
theorem foldl_min : ∀ (r : List Int) (n : Int), (r.foldl min n ≤ n) ∧ (∀ x ∈ r, r.foldl min n ≤ x) ∧ (r.foldl min n = n ∨ r.foldl min n ∈ r)
  | [], n => ⟨Int.le_refl _, fun _ h => (nomatch h), .inl rfl⟩
  | x :: r, n => by
    obtain ⟨a, b, c⟩ := foldl_min r (min n x)
    rw [List.foldl_cons]
    refine ⟨by omega, fun y hy => ?_, ?_⟩
    · rcases List.mem_cons.mp hy with rfl | hy
      · omega
      · exact b y hy
    · rcases c with c | c
      · by_cases z : n ≤ x
        · left; omega
        · right; rw [c, show min n x = x by omega]; exact List.mem_cons_self
      · exact .inr (List.mem_cons_of_mem _ c)
theorem minOr_is {l : List Int} {d : Int} (h1 : ∃ x ∈ l, x ≤ d) (h2 : ∀ x ∈ l, d ≤ x) : minOr 0 l = d := by
  cases l with
  | nil => obtain ⟨_, h, _⟩ := h1; cases h
  | cons n r =>
    obtain ⟨a, b, c⟩ := foldl_min r n
    show r.foldl min n = d
    obtain ⟨x, hx, hl⟩ := h1
    have u : r.foldl min n ≤ x := by
      rcases List.mem_cons.mp hx with rfl | hx
      · exact a
      · exact b x hx
    have v : d ≤ r.foldl min n := by
      rcases c with c | c
      · rw [c]; exact h2 n List.mem_cons_self
      · exact h2 _ (List.mem_cons_of_mem _ c)
    omega
theorem cut_to' {α : Type} (xs : List α) (n : Nat) : cut xs none (some (n : Int)) = xs.take n := by
  unfold cut
  rw [HT.sIx_none, HT.sIx_nat, List.drop_zero, Nat.sub_zero]
  by_cases h : n ≤ xs.length
  · rw [Nat.min_eq_left h]
  · rw [Nat.min_eq_right (by omega), List.take_of_length_le (Nat.le_refl _), List.take_of_length_le (by omega)]
theorem routes_ne {N : Net} (hN : N.Ok) {s e : Int} (h0 : 0 ≤ s) (h1 : s < N.p) (hse : s ≠ e) : ∀ z ∈ routesP N s e, z ≠ [] := fun z hz => by
  obtain ⟨ps, h, _⟩ := routes_rt hN h0 h1 hse hz
  exact h.ne
theorem lenP_cons (xs : List Int) (l : Nat) (r : List Nat) : lenP xs (l :: r) = xs.getD l 0 + lenP xs r := by unfold lenP; rw [List.map_cons, List.sum_cons]
theorem lenP_app (xs : List Int) (a b : List Nat) : lenP xs (a ++ b) = lenP xs a + lenP xs b := by
  unfold lenP
  rw [List.map_append, List.sum_append]
/-- a walk behind a route gives a route no longer -/
theorem route_walk {N : Net} (hN : N.Ok) {xs : List Int} (hx : ∀ x ∈ xs, 1 ≤ x) {s : Int} (h0 : 0 ≤ s) (h1 : s < N.p) : ∀ {q : List Nat} {u : Int} {qs : List Int} {r : List Nat}, r ∈ routesP N s u → Pth N.ls (u :: qs) q → ∃ r' ∈ routesP N s ((u :: qs).getLast (List.cons_ne_nil _ _)), lenP xs r' ≤ lenP xs r + lenP xs q
  | [], u, qs, r, hr, hp => by
    cases hp
    exact ⟨r, hr, by simp [lenP]⟩
  | l :: q, u, qs, r, hr, hp => by
    cases hp with
    | more hn hp =>
      obtain ⟨r1, h2, h3⟩ := route_ext hN hx h0 h1 hr hn
      obtain ⟨r2, h4, h5⟩ := route_walk hN hx h0 h1 h2 hp
      refine ⟨r2, by rw [List.getLast_cons (List.cons_ne_nil _ _)]; exact h4, ?_⟩
      rw [lenP_cons]; omega
theorem short_dec {N : Net} {xs : List Int} {s e : Int} {l : List Nat} (hl : l ∈ routesP N s e) : lenP xs l = minOr 0 ((routesP N s e).map (lenP xs)) ↔ ∀ l' ∈ routesP N s e, lenP xs l ≤ lenP xs l' := by
  have key : (∀ x ∈ (routesP N s e).map (lenP xs), minOr 0 ((routesP N s e).map (lenP xs)) ≤ x) := by
    generalize (routesP N s e).map (lenP xs) = L
    intro x hx
    cases L with
    | nil => cases hx
    | cons n r =>
      obtain ⟨a, b, _⟩ := foldl_min r n
      rcases List.mem_cons.mp hx with rfl | hx
      · exact a
      · exact b x hx
  constructor
  · intro h l' hl'
    rw [h]
    exact key _ (List.mem_map.mpr ⟨l', hl', rfl⟩)
  · intro h
    exact (minOr_is ⟨_, List.mem_map.mpr ⟨l, hl, rfl⟩, Int.le_refl _⟩ fun x hx => by
      obtain ⟨l', hl', rfl⟩ := List.mem_map.mp hx
      exact h l' hl').symm
theorem short_iff {N : Net} {xs : List Int} {s e : Int} {l : List Nat} : l ∈ shortP N xs s e ↔ l ∈ routesP N s e ∧ ∀ l' ∈ routesP N s e, lenP xs l ≤ lenP xs l' := by
  unfold shortP
  rw [List.mem_filter]
  constructor
  · rintro ⟨h1, h2⟩
    exact ⟨h1, (short_dec h1).mp (of_decide_eq_true h2)⟩
  · rintro ⟨h1, h2⟩
    exact ⟨h1, decide_eq_true ((short_dec h1).mpr h2)⟩
theorem short_same {N : Net} {xs ys : List Int} {s e : Int} {p : List Nat → Bool} (h : ∀ l ∈ routesP N s e, (∀ l' ∈ routesP N s e, lenP ys l ≤ lenP ys l') ↔ ((∀ l' ∈ routesP N s e, lenP xs l ≤ lenP xs l') ∧ p l = true)) : shortP N ys s e = (shortP N xs s e).filter p := by
  unfold shortP
  rw [List.filter_filter]
  refine List.filter_congr fun l hl => ?_
  rw [Bool.eq_iff_iff, Bool.and_eq_true, decide_eq_true_iff, decide_eq_true_iff, short_dec hl, short_dec hl, h l hl]
  exact and_comm
theorem short_nil {N : Net} {xs : List Int} {s e : Int} : shortP N xs s e = [] ↔ routesP N s e = [] := by
  constructor
  · intro h
    unfold shortP at h
    generalize routesP N s e = L at h
    cases L with
    | nil => rfl
    | cons l r =>
      obtain ⟨_, _, c⟩ := foldl_min (r.map (lenP xs)) (lenP xs l)
      have : ∃ x ∈ l :: r, lenP xs x = minOr 0 ((l :: r).map (lenP xs)) := by
        rcases c with c | c
        · exact ⟨l, List.mem_cons_self, c.symm⟩
        · obtain ⟨y, hy, e⟩ := List.mem_map.mp c
          exact ⟨y, List.mem_cons_of_mem _ hy, e⟩
      obtain ⟨x, hx, e⟩ := this
      exact absurd (decide_eq_true e) (List.filter_eq_nil_iff.mp h x hx)
  · intro h; unfold shortP; rw [h]; rfl
theorem short_back {N : Net} (hN : N.Ok) {xs : List Int} {s e : Int} (h0 : 0 ≤ s) (h1 : s < N.p) (h2 : 0 ≤ e) (h3 : e < N.p) : ((shortP N xs s e).map List.reverse).Perm (shortP N xs e s) := by
  have hp := back_perm hN h0 h1 h2 h3
  have half : ∀ {l}, l ∈ routesP N s e → l.reverse ∈ routesP N e s := fun {l} h => hp.mem_iff.mp (List.mem_map.mpr ⟨l, h, rfl⟩)
  have half2 : ∀ {l}, l ∈ routesP N e s → ∃ l' ∈ routesP N s e, l'.reverse = l := fun {l} h => List.mem_map.mp (hp.mem_iff.mpr h)
  refine (List.perm_ext_iff_of_nodup (nodup_map_inj (fun a b z => List.reverse_inj.mp z) ((routes_nodup N s e).filter _)) ((routes_nodup N e s).filter _)).mpr fun r => ?_
  show r ∈ (shortP N xs s e).map List.reverse ↔ r ∈ shortP N xs e s
  rw [List.mem_map, short_iff]
  constructor
  · rintro ⟨l, hl, rfl⟩
    obtain ⟨g1, g2⟩ := short_iff.mp hl
    refine ⟨half g1, fun l' hl' => ?_⟩
    obtain ⟨l2, hl2, rfl⟩ := half2 hl'
    rw [lenP_rev, lenP_rev]
    exact g2 l2 hl2
  · rintro ⟨g1, g2⟩
    obtain ⟨l2, hl2, rfl⟩ := half2 g1
    refine ⟨l2, short_iff.mpr ⟨hl2, fun l' hl' => ?_⟩, rfl⟩
    have := g2 _ (half hl')
    rw [lenP_rev, lenP_rev] at this
    exact this
theorem lenP_scale (t : Int) (xs : List Int) : ∀ l : List Nat, lenP (xs.map (t * ·)) l = t * lenP xs l
  | [] => by simp [lenP]
  | z :: r => by
    rw [lenP_cons, lenP_cons, lenP_scale t xs r, Int.mul_add]
    congr 1
    rw [List.getD_eq_getElem?_getD, List.getD_eq_getElem?_getD, List.getElem?_map]
    cases xs[z]? with
    | none => show (0 : Int) = t * 0; rw [Int.mul_zero]
    | some x => rfl
theorem short_scale {N : Net} {xs : List Int} {s e t : Int} (ht : 1 ≤ t) : shortP N (xs.map (t * ·)) s e = shortP N xs s e := by
  have := short_same (N := N) (xs := xs) (ys := xs.map (t * ·)) (s := s) (e := e) (p := fun _ => true) fun l hl => by
    simp only [lenP_scale, and_true]
    constructor
    · exact fun h l' hl' => Int.le_of_mul_le_mul_left (h l' hl') (by omega)
    · exact fun h l' hl' => Int.mul_le_mul_of_nonneg_left (h l' hl') (by omega)
  rw [this]
  exact List.filter_eq_self.mpr fun _ _ => rfl
/-- one line longer -/
def longX (xs : List Int) (j : Nat) (m : Int) : List Int := xs.take j ++ [m] ++ xs.drop (j + 1)
theorem long_getD {xs : List Int} {j : Nat} {m : Int} (hj : j < xs.length) (l : Nat) : (longX xs j m).getD l 0 = if l = j then m else xs.getD l 0 := by
  unfold longX
  rw [List.getD_eq_getElem?_getD, List.getD_eq_getElem?_getD, List.append_assoc, List.getElem?_append, List.length_take, Nat.min_eq_left (by omega)]
  by_cases h1 : l < j
  · rw [if_pos h1, if_neg (by omega), List.getElem?_take_of_lt h1]
  · rw [if_neg h1]
    by_cases h2 : l = j
    · subst h2
      rw [Nat.sub_self, if_pos rfl]; rfl
    · rw [if_neg h2]
      obtain ⟨k, rfl⟩ : ∃ k, l = j + 1 + k := ⟨l - j - 1, by omega⟩
      rw [show j + 1 + k - j = k + 1 by omega, List.singleton_append, List.getElem?_cons_succ, List.getElem?_drop]
theorem lenP_long {xs : List Int} {j : Nat} {m : Int} (hj : j < xs.length) (hm : xs.getD j 0 + 1 ≤ m) : ∀ l : List Nat, lenP xs l ≤ lenP (longX xs j m) l ∧ (j ∈ l → lenP xs l + 1 ≤ lenP (longX xs j m) l) ∧ (j ∉ l → lenP (longX xs j m) l = lenP xs l)
  | [] => ⟨Int.le_refl _, fun h => (nomatch h), fun _ => rfl⟩
  | z :: r => by
    obtain ⟨a, b, c⟩ := lenP_long hj hm r
    rw [lenP_cons, lenP_cons, long_getD hj]
    by_cases h : z = j
    · subst h
      rw [if_pos rfl]
      exact ⟨by omega, fun _ => by omega, fun h => absurd List.mem_cons_self h⟩
    · rw [if_neg h]
      refine ⟨by omega, fun h' => ?_, fun h' => ?_⟩
      · have := b ((List.mem_cons.mp h').resolve_left (Ne.symm h))
        omega
      · rw [c fun q => h' (List.mem_cons_of_mem _ q)]
theorem short_long {N : Net} {xs : List Int} {s e : Int} {j : Nat} {m : Int} (hj : j < xs.length) (hm : xs.getD j 0 + 1 ≤ m) (hk : (shortP N xs s e).filter (fun l => !decide (j ∈ l)) ≠ []) : shortP N (longX xs j m) s e = (shortP N xs s e).filter (fun l => !decide (j ∈ l)) := by
  obtain ⟨k0, hk0⟩ := List.exists_mem_of_ne_nil _ hk
  obtain ⟨k1, k2⟩ := List.mem_filter.mp hk0
  obtain ⟨k3, k4⟩ := short_iff.mp k1
  have k5 : j ∉ k0 := by simpa using k2
  refine short_same fun l hl => ?_
  obtain ⟨a, b, c⟩ := lenP_long (m := m) hj hm l
  have e0 := (lenP_long (m := m) hj hm k0).2.2 k5
  constructor
  · intro h
    have h0 := h k0 k3
    have hnot : j ∉ l := fun hjl => by
      have := b hjl
      have := k4 l hl
      omega
    refine ⟨fun l' hl' => ?_, by simpa using hnot⟩
    have := k4 l' hl'
    omega
  · rintro ⟨h1, h2⟩ l' hl'
    have h3 : j ∉ l := by simpa using h2
    have := h1 l' hl'
    have := (lenP_long (m := m) hj hm l').1
    rw [c h3]; omega
/-! parts of a path -/
theorem Pth.part {ls : List (Int × Int)} : ∀ (i : Nat) {P : List Int} {r : List Nat}, Pth ls P r → i ≤ r.length → Pth ls (P.take (i + 1)) (r.take i) ∧ Pth ls (P.drop i) (r.drop i)
  | 0, P, r, h, _ => by
    cases h with
    | one s => exact ⟨.one _, .one _⟩
    | more hn h => exact ⟨.one _, .more hn h⟩
  | i + 1, P, r, h, hi => by
    cases h with
    | one s => exact absurd hi (Nat.not_succ_le_zero _)
    | more hn h =>
      obtain ⟨a, b⟩ := Pth.part i h (by rw [List.length_cons] at hi; omega)
      refine ⟨?_, b⟩
      cases hq : (_ : List Int).take (i + 1) with
      | nil => rw [hq] at a; cases a
      | cons y ys =>
        rw [List.take_succ_cons] at hq
        rw [List.take_succ_cons, List.take_succ_cons, List.take_succ_cons]
        rw [List.take_succ_cons] at a
        exact .more hn a
theorem short_part {N : Net} (hN : N.Ok) {xs : List Int} (hx : ∀ x ∈ xs, 1 ≤ x) {s e : Int} (h0 : 0 ≤ s) (h1 : s < N.p) {ps : List Int} {r : List Nat} (hr : r ∈ shortP N xs s e) (hp : Pth N.ls (s :: ps) r) {i j : Nat} (hij : i < j) (hj : j ≤ r.length) :
    ∃ u v qs, (s :: ps)[i]? = some u ∧ 0 ≤ u ∧ u < N.p ∧ Rt N (u :: qs) ((r.drop i).take (j - i)) ∧ (u :: qs).reverse.headD 0 = v ∧ (r.drop i).take (j - i) ∈ shortP N xs u v := by
  obtain ⟨hr1, hmin⟩ := short_iff.mp hr
  obtain ⟨ps', a1, a2, a3⟩ := (routes_mem hN h0 h1).mp hr1
  have := a1.det hp
  subst this
  have hlen := hp.len
  obtain ⟨P, hP⟩ : ∃ P, P = s :: ps' := ⟨_, rfl⟩
  have hpl : P.length = r.length + 1 := by rw [hP]; exact hlen
  have hin : i < P.length := by omega
  have hjn : j < P.length := by omega
  obtain ⟨A, B⟩ := hp.part i (by omega)
  obtain ⟨C, D⟩ := B.part (j - i) (by rw [List.length_drop]; omega)
  rw [← hP] at A B C D
  have e1 : P.drop i = P[i] :: P.drop (i + 1) := List.drop_eq_getElem_cons hin
  have e2 : (P.drop i).drop (j - i) = P[j] :: P.drop (j + 1) := by
    rw [List.drop_drop, show i + (j - i) = j by omega]
    exact List.drop_eq_getElem_cons hjn
  have e3 : (r.drop i).drop (j - i) = r.drop j := by rw [List.drop_drop, show i + (j - i) = j by omega]
  have e4 : (P.drop i).take (j - i + 1) = P[i] :: (P.drop (i + 1)).take (j - i) := by rw [e1, List.take_succ_cons]
  have e5 : (P.drop i).take (j - i + 1) = (P.drop i).take (j - i) ++ [P[j]] := by
    have hk : j - i < (P.drop i).length := by rw [List.length_drop]; omega
    rw [List.take_succ_eq_append_getElem hk]
    congr 2
    rw [List.getElem_drop]
    congr 1
    omega
  have e6 : P.take (i + 1) = s :: ps'.take i := by rw [hP, List.take_succ_cons]
  have e7 : P.take (i + 1) = P.take i ++ [P[i]] := List.take_succ_eq_append_getElem hin
  have nd : P.Nodup := by rw [hP]; exact a3
  have hin2 : ∀ x ∈ P, 0 ≤ x ∧ x < N.p := by rw [hP]; exact a1.rng hN h0 h1
  obtain ⟨u0, u1⟩ := hin2 P[i] (List.getElem_mem _)
  have ra : r.take i ∈ routesP N s P[i] := by
    refine (routes_mem hN h0 h1).mpr ⟨ps'.take i, by rw [← e6]; exact A, ?_, by rw [← e6]; exact nd.sublist (List.take_sublist _ _)⟩
    have e8 : s :: ps'.take i = P.take i ++ [P[i]] := by rw [← e6, e7]
    simp only [e8, List.getLast_concat]
  have lastC : (P[i] :: (P.drop (i + 1)).take (j - i)).getLast (List.cons_ne_nil _ _) = P[j] := by
    have e8 : P[i] :: (P.drop (i + 1)).take (j - i) = (P.drop i).take (j - i) ++ [P[j]] := by rw [← e4, e5]
    simp only [e8, List.getLast_concat]
  rw [e4] at C
  have ndC : (P[i] :: (P.drop (i + 1)).take (j - i)).Nodup := by
    rw [← e4]
    exact nd.sublist ((List.take_sublist _ _).trans (List.drop_sublist _ _))
  have hne : (r.drop i).take (j - i) ≠ [] := fun z => by
    have := congrArg List.length z
    rw [List.length_take, List.length_drop, List.length_nil] at this
    omega
  refine ⟨P[i], P[j], (P.drop (i + 1)).take (j - i), by rw [← hP]; exact List.getElem?_eq_getElem hin, u0, u1, ⟨C, ndC, hne⟩, ?_, short_iff.mpr ⟨(routes_mem hN u0 u1).mpr ⟨_, C, lastC, ndC⟩, fun q hq => ?_⟩⟩
  · rw [← lastC, List.headD_eq_head?_getD, List.head?_reverse, List.getLast?_eq_some_getLast (List.cons_ne_nil _ _)]; rfl
  · obtain ⟨qs, q1, q2, q3⟩ := (routes_mem hN u0 u1).mp hq
    obtain ⟨r1, w1, w2⟩ := route_walk hN hx h0 h1 ra q1
    rw [q2] at w1
    rw [e2, e3] at D
    obtain ⟨r2, w3, w4⟩ := route_walk hN hx h0 h1 w1 D
    have hlast : (P[j] :: P.drop (j + 1)).getLast (List.cons_ne_nil _ _) = e := by
      have e8 : P[j] :: P.drop (j + 1) = P.drop j := (List.drop_eq_getElem_cons hjn).symm
      simp only [e8, List.getLast_drop]
      subst hP
      exact a2
    rw [hlast] at w3
    have h5 := hmin r2 w3
    have h6 : lenP xs r = lenP xs (r.take i) + (lenP xs ((r.drop i).take (j - i)) + lenP xs (r.drop j)) := by
      rw [← e3, ← lenP_app, List.take_append_drop, ← lenP_app, List.take_append_drop]
    omega
end DL
namespace DL
open PySem PySem.Spec PyProof.Rows L2
section
variable {P : Program} {w : World} {A : Around} {E : Value → Shared → Prop} {s : Shared}
/-! ### set == set, sets of ints -/
/-- a set of ints, but for the order in which it is walked -/
def SetC (h : Heap) (a : Addr) (S : Int → Bool) (n : Nat) : Prop :=
  ∃ o es ep t, h.get? a = some o ∧ o.ExactSet ∧ o.data = .set es ep t ∧ (∀ e ∈ es.toList, GoodE e) ∧ (es.toList.map keyOf).Nodup ∧ (∀ k, S k = true ↔ k ∈ es.toList.map keyOf) ∧ es.size < scanBound ∧ t.fits es.size = true ∧ es.size = n
theorem setC_of {h : Heap} {a : Addr} {S : Int → Bool} {n : Nat} (R : SetR w h a S n) : SetC h a S n := by
  obtain ⟨o, es, ep, t, ho, hex, hd, hg, hnd, hm, hb, hf, hn, _⟩ := R
  exact ⟨o, es, ep, t, ho, hex, hd, hg, hnd, hm, hb, hf, hn⟩
theorem SetC.at {h h' : Heap} {a : Addr} {S : Int → Bool} {n : Nat} (R : SetC h a S n) (k : ∀ o, h.get? a = some o → h'.get? a = some o) : SetC h' a S n := by
  obtain ⟨o, es, ep, t, ho, r⟩ := R
  exact ⟨o, es, ep, t, k o ho, r⟩
theorem SetC.setOf {h : Heap} {a : Addr} {S : Int → Bool} {n : Nat} (R : SetC h a S n) : h.SetOf (intKind P w) a S n := by
  obtain ⟨o, es, ep, t, ho, hex, hd, hg, hnd, hm, hb, hf, hn⟩ := R
  exact ⟨o, es, ep, t, ho, hex, hd, good_elems hg, fun k => (hm k).trans (good_mem hg k), hb, hf, hn⟩
theorem quiet_int {k : Int} {tk : Tok} {Q : Bool → Shared → Prop} (h : Q true s) : wpAny (model P w) A (Builtin.Frozenset.quietEq (.int k tk)) Q E s := wpAny_pure h
theorem walk_at' {a b : Addr} {S T : Int → Bool} {n m : Nat} {o o2 : Obj} {es es2 : Array (Int × Value)} {ep ep2 : Nat} {t t2 : SetTable} (ho : s.heap.get? a = some o) (hd : o.data = .set es ep t) (hf : t.fits es.size = true) (hg : ∀ e ∈ es.toList, GoodE e)
    (ho2 : s.heap.get? b = some o2) (hd2 : o2.data = .set es2 ep2 t2) (hf2 : t2.fits es2.size = true) (hg2 : ∀ e ∈ es2.toList, GoodE e) {Q : List (Int × Value) → Shared → Prop} (h : Q es.toList s) : wpAny (model P w) A (Builtin.Frozenset.walkUnseen a b) Q E s := by
  unfold Builtin.Frozenset.walkUnseen
  refine wpAny_bind (wpAny_setEntries_of ho hd hf ?_)
  refine wpAny_bind (wpAny_setEntries_of ho2 hd2 hf2 ?_)
  refine wpAny_bind (wpAny_forIn_list _ (fun rest b s' => b.1 = none ∧ s' = s ∧ ∀ e ∈ rest, GoodE e) _ ?_ ?_ _ _ ⟨rfl, rfl, fun e he => ?_⟩)
  · rintro ⟨hh, x⟩ rest bb s' ⟨hb, rfl, hr⟩
    obtain ⟨k, tk, e1, e2⟩ := hr (hh, x) List.mem_cons_self
    simp only at e1 e2
    subst e1
    refine wpAny_bind (quiet_int ?_)
    exact wpAny_pure ⟨rfl, rfl, fun e he => hr e (List.mem_cons_of_mem _ he)⟩
  · rintro ⟨b1, b2⟩ s' ⟨hb, rfl, _⟩
    simp only at hb
    subst hb
    exact wpAny_pure h
  · rcases List.mem_append.mp he with he | he
    · exact hg e he
    · exact hg2 e he
theorem subset_at {id : String} {a b : Addr} {S T : Int → Bool} {n m : Nat} (R1 : SetC s.heap a S n) (R2 : SetC s.heap b T m) {Q : Bool → Shared → Prop}
    (h : ∀ r : Bool, (r = true ↔ (n ≤ m ∧ ∀ k, S k = true → T k = true)) → Q r s) : wpAny (model P w) A (Builtin.Frozenset.subsetOf id a b) Q E s := by
  have S2 : s.heap.SetOf (intKind P w) b T m := R2.setOf
  obtain ⟨o, es, ep, t, ho, hex, hd, hg, hnd, hm, hb, hf, hn⟩ := R1
  obtain ⟨o2, es2, ep2, t2, ho2, hex2, hd2, hg2, hnd2, hm2, hb2, hf2, hn2⟩ := R2
  unfold Builtin.Frozenset.subsetOf Builtin.Frozenset.sizeOf
  refine wpAny_bind (wpAny_bind (wpAny_setEntries_of ho hd hf (wpAny_pure ?_)))
  refine wpAny_bind (wpAny_bind (wpAny_setEntries_of ho2 hd2 hf2 (wpAny_pure ?_)))
  rw [hn, hn2]
  by_cases c : n > m
  · rw [if_pos c]
    exact wpAny_pure (h false ⟨fun z => (nomatch z), fun z => absurd z.1 (by omega)⟩)
  rw [if_neg c]
  refine wpAny_bind (wpAny_setEpoch_of ho hd hf ?_)
  refine wpAny_bind (walk_at' (S := S) (T := T) (n := n) (m := m) ho hd hf hg ho2 hd2 hf2 hg2 ?_)
  refine wpAny_bind (wpAny_forIn_list _ (fun rest bb s' => bb.1 = none ∧ s' = s ∧ (∀ e ∈ rest, GoodE e) ∧ ((∀ k, S k = true → T k = true) ↔ ∀ e ∈ rest, T (keyOf e) = true)) _ ?_ ?_ _ _ ⟨rfl, rfl, hg, ?_⟩)
  · rintro ⟨hh, x⟩ rest bb s' ⟨hb, rfl, hr, hiff⟩
    obtain ⟨k, tk, e1, e2⟩ := hr (hh, x) List.mem_cons_self
    simp only at e1 e2
    subst e1 e2
    refine wpAny_bind (wpAny_holding (wpAny_setFind_of (knd := intKind P w) (k := k) (intKind_is P w k tk) rfl S2 fun r hr' => ?_))
    cases hT : T k with
    | false =>
      rw [hT] at hr'
      cases r with
      | some _ => cases hr'
      | none =>
        refine wpAny_pure ?_
        refine wpAny_pure (h false ⟨fun z => (nomatch z), fun z => ?_⟩)
        have := hiff.mp z.2 (hashInt k, .int k tk) List.mem_cons_self
        rw [show keyOf (hashInt k, Value.int k tk) = k from rfl, hT] at this
        cases this
    | true =>
      rw [hT] at hr'
      cases r with
      | none => cases hr'
      | some _ =>
        unfold Builtin.Frozenset.unchanged
        refine wpAny_bind (wpAny_bind (wpAny_setEpoch_of ho hd hf ?_))
        rw [if_neg (by simp)]
        refine wpAny_pure (wpAny_pure ⟨rfl, rfl, fun e he => hr e (List.mem_cons_of_mem _ he), hiff.trans ⟨fun z e he => z e (List.mem_cons_of_mem _ he), fun z e he => ?_⟩⟩)
        rcases List.mem_cons.mp he with rfl | he
        · exact hT
        · exact z e he
  · rintro ⟨b1, b2⟩ s' ⟨hb, rfl, _, hiff⟩
    simp only at hb
    subst hb
    exact wpAny_pure (h true ⟨fun _ => ⟨by omega, hiff.mpr fun e he => nomatch he⟩, fun _ => rfl⟩)
  · constructor
    · intro z e he
      exact z _ ((hm _).mpr (List.mem_map.mpr ⟨e, he, rfl⟩))
    · intro z k hk
      obtain ⟨e, he, rfl⟩ := List.mem_map.mp ((hm k).mp hk)
      exact z e he
theorem set_eq_at {a b : Addr} {S T : Int → Bool} {n m : Nat} (R1 : SetC s.heap a S n) (R2 : SetC s.heap b T m) {Q : PySem.Fin → Shared → Prop}
    (h : ∀ r : Bool, (r = true ↔ ∀ k, S k = T k) → Q (.done (.ret (.bool r))) s) : wpAny (model P w) A (Builtin.«frozenset.__eq__» ⟨[.ref a, .ref b], []⟩) Q E s := by
  show wpAny _ _ (Builtin.Frozenset.slot1 "__eq__" _ >>= _) _ _ _
  refine wpAny_bind ?_
  have hT1 : s.TypeIs (.ref a) "set" := by
    obtain ⟨o, es, ep, t, ho, hex, _⟩ := R1
    exact ⟨o, ho, hex.1⟩
  have hT2 : s.TypeIs (.ref b) "set" := by
    obtain ⟨o, es, ep, t, ho, hex, _⟩ := R2
    exact ⟨o, ho, hex.1⟩
  have f1 := PySem.F.sub_set_set
  have f2 := PySem.F.sub_set_frozenset
  have R1' := R1
  have R2' := R2
  obtain ⟨o, es, ep, t, ho, hex, hd, hg, hnd, hm, hb, hf, hn⟩ := R1'
  obtain ⟨o2, es2, ep2, t2, ho2, hex2, hd2, hg2, hnd2, hm2, hb2, hf2, hn2⟩ := R2'
  unfold Builtin.Frozenset.slot1 slotArgs
  wp_walk using wpAny_setEntries_of ho hd hf, wpAny_setEntries_of ho2 hd2 hf2
  by_cases c : (es.size != es2.size) = true
  · rw [if_pos c]
    refine wpAny_pure (wpAny_pure (h false ⟨fun z => (nomatch z), fun z => ?_⟩))
    exfalso
    have hp : (es.toList.map keyOf).Perm (es2.toList.map keyOf) := (List.perm_ext_iff_of_nodup hnd hnd2).mpr fun k => by rw [← hm k, ← hm2 k, z k]
    have := hp.length_eq
    rw [List.length_map, List.length_map, Array.length_toList, Array.length_toList] at this
    rw [this] at c
    simp at c
  · rw [if_neg c]
    have hsz : es.size = es2.size := by simpa using c
    wp_walk using subset_at R1 R2
    intro r hr
    refine wpAny_pure (h r ?_)
    rw [hr]
    constructor
    · rintro ⟨_, hsub⟩ k
      have hincl : es.toList.map keyOf ⊆ es2.toList.map keyOf := fun x hx => (hm2 x).mp (hsub x ((hm x).mpr hx))
      have hback : es2.toList.map keyOf ⊆ es.toList.map keyOf := by
        intro x hx
        by_cases hc : x ∈ es.toList.map keyOf
        · exact hc
        · have h1 : (x :: es.toList.map keyOf) ⊆ es2.toList.map keyOf := fun y hy => by
            rcases List.mem_cons.mp hy with rfl | hy
            · exact hx
            · exact hincl hy
          have h2 := (List.nodup_cons.mpr ⟨hc, hnd⟩).length_le_of_subset h1
          rw [List.length_cons, List.length_map, List.length_map, Array.length_toList, Array.length_toList] at h2
          omega
      rw [Bool.eq_iff_iff, hm k, hm2 k]
      exact ⟨fun z => hincl z, fun z => hback z⟩
    · intro z
      exact ⟨by omega, fun k hk => by rw [← z k]; exact hk⟩
theorem entry_set_eq : entryFor table "set.__eq__" = some Builtin.«frozenset.__eq__» :=
  entryFor_alias (id' := "frozenset.__eq__") (by kernel_rfl) rfl (by decide +kernel) (by kernel_rfl)
def sameB (ns ms : List Int) : Bool := ns.all (fun k => decide (k ∈ ms)) && ms.all (fun k => decide (k ∈ ns))
theorem sameB_iff (ns ms : List Int) : sameB ns ms = true ↔ ∀ k, k ∈ ns ↔ k ∈ ms := by
  unfold sameB
  rw [Bool.and_eq_true, List.all_eq_true, List.all_eq_true]
  constructor
  · rintro ⟨h1, h2⟩ k
    exact ⟨fun z => of_decide_eq_true (h1 k z), fun z => of_decide_eq_true (h2 k z)⟩
  · intro h
    exact ⟨fun k z => decide_eq_true ((h k).mp z), fun k z => decide_eq_true ((h k).mpr z)⟩
theorem meets_set_eq (a b : Addr) (ns ms : List Int) : Meets (Builtin.«frozenset.__eq__» ⟨[.ref a, .ref b], []⟩)
    (fun A R s => (∃ n, SetC s.heap a (fun j => decide (j ∈ ns)) n) ∧ (∃ m, SetC s.heap b (fun j => decide (j ∈ ms)) m) ∧ R (.ok (.ret (.bool (sameB ns ms)))) s) :=
  .of_wp fun prog w A R s h => by
    obtain ⟨⟨n, R1⟩, ⟨m, R2⟩, hR⟩ := h
    refine set_eq_at R1 R2 fun r hr => ⟨_, rfl, ?_⟩
    have : r = sameB ns ms := by
      rw [Bool.eq_iff_iff, hr, sameB_iff]
      refine forall_congr' fun k => ?_
      rw [Bool.eq_iff_iff, decide_eq_true_iff, decide_eq_true_iff]
    rw [this]
    exact hR
theorem compare_sets {a b : Addr} {ns ms : List Int} {n m : Nat} (R1 : SetC s.heap a (fun j => decide (j ∈ ns)) n) (R2 : SetC s.heap b (fun j => decide (j ∈ ms)) m) (hu : A.units < cLine) {Q : Value → Shared → Prop} (h : Q (.bool (sameB ns ms)) s) :
    wpAny (model P w) A (compareOp .Eq (.ref a) (.ref b)) Q E s := by
  have hT1 : s.TypeIs (.ref a) "set" := by
    obtain ⟨o, es, ep, t, ho, hex, _⟩ := R1
    exact ⟨o, ho, hex.1⟩
  have hT2 : s.TypeIs (.ref b) "set" := by
    obtain ⟨o, es, ep, t, ho, hex, _⟩ := R2
    exact ⟨o, ho, hex.1⟩
  show wpAny (model P w) A (richCompare .Eq (.ref a) (.ref b)) Q E s
  exact richCompare_meets_room hT1 hT2 PySem.F.slot_set_eq entry_set_eq (PySem.F.args_set_eq_2 _ _) (meets_set_eq a b ns ms) ⟨⟨n, R1⟩, ⟨m, R2⟩, (by show _ ∧ _; exact ⟨fun z => (nomatch z), h⟩)⟩ hu
end
section
variable {X : Cx} {Wx : WX} {k : Nat}
/-- set(e), e a tuple of ints: the set is kept -/
theorem set_run {e : Expr} {te : TE} {p pos : Pos} {pins : List (Addr × Obj)} {s : Shared} {σ : L2.St} {H : Hp} {F : List Int → Hp → Prop} (hm : X.mg "set" = none) (hc : X.calm = true) (hg : Gl X "set") (he : PE X e te)
    (na : starEach [e] X.env = (false, eval e X.env) :: starEach [] X.env) (I : Inv X pins σ H s)
    (h : te σ H fun x H1 => ∃ (a : Addr) (ns : List Int), x = V.ref a ∧ SqT X.K H1 a (ns.map V.int) ∧ ns.length ≤ 2000 ∧ F ns H1) :
    wpAny (model X.prog X.w) X.A (eval (.Call (.Name "set" p) [e] [] pos) X.env) (fun v s' => ∃ a o ns H1 n, v = .ref a ∧ SetC s'.heap a (fun j => decide (j ∈ ns)) n ∧ s'.heap.get? a = some o ∧ Inv X ((a, o) :: pins) σ H1 s' ∧ F ns H1) X.xe s := by
  refine Call_ (ld_blt I hg hm boot_set ?_)
  refine PyProof.Rows.callWith_type1 (PyProof.Rows.args_cons (thn (he.run pins s σ H _ I h) ?_) na) na rfl
  rintro v s1 ⟨x, H1, I1, r1, l, ns, rfl, hq, hl, q1⟩
  apply PyProof.Rows.args_nil
  cases r1
  obtain ⟨its, r, pl, hz⟩ := I1.tuple hq
  refine call_set_tupI ns (I1.ok.hd hc) pl (by simpa using RZ.intsAre_vals r) (by unfold scanBound; omega) fun h' tk c hS hc' hk => ?_
  have I2 : Inv X pins σ H1 { s1 with heap := h', toks := tk } := I1.kept hk
  have hC := setC_of hS
  obtain ⟨o, es, ep, t, ho, hex, hd, _⟩ := hS
  refine ⟨_, o, ns, H1, c, rfl, hC, ho, ?_, q1⟩
  refine I2.pins_of fun pp hp => ?_
  rcases List.mem_cons.mp hp with rfl | hp
  · refine ⟨ho, I1.hok.fresh (Nat.le_refl _), ?_, I1.nofs (Nat.le_refl _), fun v z => ?_⟩
    · exact Nat.ne_of_gt I1.lt
    · rw [hd] at z; cases z
  · exact I2.pin pp (List.mem_append_right _ hp)
def tSetEq (ta tb : TE) : TE := fun σ H Q => ta σ H fun x H1 => ∃ (a : Addr) (ns : List Int), x = V.ref a ∧ SqT X.K H1 a (ns.map V.int) ∧ ns.length ≤ 2000 ∧ tb σ H1 fun y H2 => ∃ (b : Addr) (ms : List Int), y = V.ref b ∧ SqT X.K H2 b (ms.map V.int) ∧ ms.length ≤ 2000 ∧ Q (.bl (sameB ns ms)) H2
theorem pe_setEq {e1 e2 : Expr} {ta tb : TE} {p1 p2 q1 q2 pos : Pos} (hm : X.mg "set" = none) (hc : X.calm = true) (hu : X.A.units < cLine) (hg : Gl X "set") (ha : PE X e1 ta) (hb : PE X e2 tb)
    (na : starEach [e1] X.env = (false, eval e1 X.env) :: starEach [] X.env) (nb : starEach [e2] X.env = (false, eval e2 X.env) :: starEach [] X.env)
    (hmB : behindInMarks .Eq (.Call (.Name "set" p2) [e2] [] q2) = false := by first | exact nobehind _ (by decide) (by decide) | rfl) :
    PE X (.Compare (.Call (.Name "set" p1) [e1] [] q1) [.Eq] [.Call (.Name "set" p2) [e2] [] q2] pos) (tSetEq (X := X) ta tb) := by
  refine ⟨fun pins s σ H Q I h => ?_⟩
  refine wpAny_Compare1 (thn (set_run (F := fun ns H1 => tb σ H1 fun y H2 => ∃ (b : Addr) (ms : List Int), y = V.ref b ∧ SqT X.K H2 b (ms.map V.int) ∧ ms.length ≤ 2000 ∧ Q (.bl (sameB ns ms)) H2) hm hc hg ha na I h) fun v s1 ⟨a, o, ns, H1, n, ev, hC, ho, I1, r1⟩ =>
    thn (set_run (F := fun ms H2 => Q (.bl (sameB ns ms)) H2) hm hc hg hb nb I1 r1) fun u s2 ⟨b, o2, ms, H2, m, eu, hC2, ho2, I2, r2⟩ => ?_) hmB
  subst ev eu
  have hk : s2.heap.get? a = some o := (I2.pin (a, o) (List.mem_append_right _ (List.mem_cons_of_mem _ List.mem_cons_self))).1
  have hC1 : SetC s2.heap a (fun j => decide (j ∈ ns)) n := hC.at fun o' e' => by rw [ho] at e'; cases e'; exact hk
  refine compare_sets hC1 hC2 hu ⟨.bl _, H2, I2.pins_of fun pp hp => I2.pin pp (List.mem_append_right _ (List.mem_cons_of_mem _ (List.mem_cons_of_mem _ hp))), rfl, r2⟩
def wSetEq (wa wb : WE) : WE := fun xq ρ M Q => wa xq ρ M fun x M1 => match x with
  | .d (.tuple ds) => (match intsD (ds.map W.d) with
    | some ns => ns.length ≤ 2000 ∧ wb xq ρ M1 fun y M2 => (match y with
      | .d (.tuple es) => (match intsD (es.map W.d) with
        | some ms => ms.length ≤ 2000 ∧ Q (.d (.bool (sameB ns ms))) M2
        | none => False)
      | _ => False)
    | none => False)
  | _ => False
theorem tup_ints {K : PySem.W.Frag} {G H : Hp} {M : MM} {ds : List PyData} {v : V} {ns : List Int} (s : Sim K G M H) (r : RelW K G (.d (.tuple ds)) v) (e : intsD (ds.map W.d) = some ns) : ∃ a, v = V.ref a ∧ SqT K H a (ns.map V.int) := by
  obtain ⟨a, vs, ev, sq, _, dd⟩ := seeT_ok (ds := ds) s r rfl
  have pr := dps_paired dd
  have := intsD_ok pr e
  rw [this] at sq
  exact ⟨a, ev, sq⟩
theorem de_setEq {e1 e2 : Expr} {wa wb : WE} {p1 p2 q1 q2 pos : Pos} (hm : X.mg "set" = none) (c : Cq X Wx k) (ha' : DE X Wx e1 wa) (hb' : DE X Wx e2 wb) (hg : Gl X "set" := by rfl)
    (na : starEach [e1] X.env = (false, eval e1 X.env) :: starEach [] X.env := by rfl) (nb : starEach [e2] X.env = (false, eval e2 X.env) :: starEach [] X.env := by rfl)
    (hmB : behindInMarks .Eq (.Call (.Name "set" p2) [e2] [] q2) = false := by first | exact nobehind _ (by decide) (by decide) | rfl) :
    DE X Wx (.Compare (.Call (.Name "set" p1) [e1] [] q1) [.Eq] [.Call (.Name "set" p2) [e2] [] q2] pos) (wSetEq wa wb) := by
  obtain ⟨ta, pa, sa⟩ := ha'
  obtain ⟨tb, pb, sb⟩ := hb'
  refine ⟨_, pe_setEq hm c.calm c.rm.room.units0 hg pa pb na nb hmB, fun xq ρ M σ G H Q R rl h kk => ?_⟩
  refine sa xq ρ M σ G H _ _ rl h fun v H1 G1 M1 x s1 r1 q1 => ?_
  cases x with
  | r z => exact q1.elim
  | d d =>
    cases d <;> try (exact q1.elim)
    rename_i ds
    have q1' : (match intsD (ds.map W.d) with | some ns => ns.length ≤ 2000 ∧ wb xq ρ M1 _ | none => False) := q1
    cases e1' : intsD (ds.map W.d) with
    | none => rw [e1'] at q1'; exact q1'.elim
    | some ns =>
      rw [e1'] at q1'
      obtain ⟨hl, q2⟩ := q1'
      obtain ⟨a, rfl, sq⟩ := tup_ints s1.sim r1 e1'
      refine ⟨a, ns, rfl, sq, hl, ?_⟩
      refine sb xq ρ M1 σ G1 H1 _ _ (rl.next s1) q2 fun u H2 G2 M2 y s2 r2 q3 => ?_
      cases y with
      | r z => exact q3.elim
      | d d =>
        cases d <;> try (exact q3.elim)
        rename_i es
        have q3' : (match intsD (es.map W.d) with | some ms => ms.length ≤ 2000 ∧ Q (.d (.bool (sameB ns ms))) M2 | none => False) := q3
        cases e2' : intsD (es.map W.d) with
        | none => rw [e2'] at q3'; exact q3'.elim
        | some ms =>
          rw [e2'] at q3'
          obtain ⟨b, rfl, sq2⟩ := tup_ints s2.sim r2 e2'
          exact ⟨b, ms, rfl, sq2, q3'.1, kk _ _ _ _ _ (s1.trans s2) (Dp.bl _) q3'.2⟩
end
end DL
namespace DL
open PySem PySem.Spec PyProof.Rows L2
local macro_rules | `(tactic| walk_at "dl2") => `(tactic| simp only [wAsg, wOp, wVar, wC, wgN, wgTup, wgCons, wgNil, wgSub, setW, wIf, wTest, wNext, wRet, wRetN, wDrop, wAndT, wOrT, wNotT, wAndV, wOrV, wNotV, wIfE, wNeg, wNil, wCons, wTup, wTupR, wLst, wBlt, wCall, wFrz, wFz, frz, wSl, wNoP, wSoP, wPar2, wPar3, wMethL, mAppend, isLst,
  wRev, wInR, wLenSet, bStr, bMax2, bMin2, wChain, wLc, wipeW, wYes, xq0, mkL, mkT, allD, allD_map, seeL, seeD, seeT, seeS, ownL, oIx, ixW, oAdd, oSub, oMul, oMod, oDiv, oPow, oLt, oLe, oGt, oGe, oB, isInts, oEq, oIsN, isNon, oIsB, oIn, oCat, oRep, bLen, bInt, bAbs, bList, bTuple, seeA, bSum, bInts, bAll, bAny, bBools, bIsi, tyName, bReprS,
  wFor, iR1, iR2, iS, iE, iEB, enW, iZ, stL, startD, dEnds, fin, at0, at1, at2, at3, at4, atm1, atm1', ix40, ix41, ix42, ix43, eqv_int, eqv_none_int, eqv_int_none, eqv_none, eqv_lnil, eqv_tnil, eqv_str, sh_int, sh_none, sh_bool, sh_ints, sh_nil, sh_tints, sh_tnil,
  kit_NoneType_bool, kit_NoneType_int, kit_NoneType_str, kit_NoneType_list, kit_NoneType_tuple, kit_bool_bool, kit_bool_int, kit_bool_str, kit_bool_list, kit_bool_tuple, kit_int_bool, kit_int_int, kit_int_str, kit_int_list, kit_int_tuple, kit_str_bool, kit_str_int, kit_str_str, kit_str_list, kit_str_tuple,
  kit_list_bool, kit_list_int, kit_list_str, kit_list_list, kit_list_tuple, kit_tuple_bool, kit_tuple_int, kit_tuple_str, kit_tuple_list, kit_tuple_tuple, kit_dict_bool, kit_dict_int, kit_dict_str, kit_dict_list, kit_dict_tuple,
  List.map_cons, List.map_nil, List.length_cons, List.length_nil, List.length_map, List.replicate, List.cons_append, List.nil_append, List.getElem?_cons_zero, List.getElem?_cons_succ, List.set_cons_zero, List.set_cons_succ, List.isEmpty_map,
  Bool.false_eq_true, reduceCtorEq, Nat.reduceAdd, Nat.reduceSub, Nat.reduceLeDiff, Option.map_some, Option.bind_some, true_and, and_true, decide_eq_true_eq, Bool.not_eq_true', Bool.not_true, Bool.not_false, decide_eq_false_iff_not, if_true, if_false, ite_true, ite_false, reduceIte, mset_same, cut_map, allD_f, allD_app, allD_rev, rep_map, Option.map_none, wSortK, bSorted, wMinD, bMinL, mExtend, iZA])
def w_have_same_lines : WS := (wRet (wSetEq (wOp oIx (wVar 0) (wC (.d (.int 1)))) (wOp oIx (wVar 1) (wC (.d (.int 1))))))
def w_others (sp_routes : DSp) (sp_end_of : DSp) (sp_have_same_lines : DSp) : WS := (wSeq (wAsg (wCall sp_routes (wCons (wVar 0) (wCons (wOp oIx (wVar 1) (wC (.d (.int 0)))) (wCons (wCall sp_end_of (wCons (wVar 0) (wCons (wVar 1) wNil))) wNil)))) (wgN 2))
    (wRet (wBlt bTuple (wCons (wLc false (iS (wVar 2)) (wgN 3) (wNotT (wTest (wCall sp_have_same_lines (wCons (wVar 1) (wCons (wVar 3) wNil))))) (wVar 3) [3]) wNil))))
/-! ### routes with the same lines; other routes -/
def sameL (a b : List Nat) : Bool := sameB (a.map fun n : Nat => (n : Int)) (b.map fun n : Nat => (n : Int))
theorem sameL_iff (a b : List Nat) : sameL a b = true ↔ ∀ k, k ∈ a ↔ k ∈ b := by
  unfold sameL
  rw [sameB_iff]
  have mc : ∀ (l : List Nat) (k : Nat), (k : Int) ∈ (l.map fun n : Nat => (n : Int)) ↔ k ∈ l := fun l k => ⟨fun h => by
    obtain ⟨y, hy, e⟩ := List.mem_map.mp h
    rw [← Int.ofNat_inj.mp e]; exact hy, fun h => List.mem_map.mpr ⟨k, h, rfl⟩⟩
  constructor
  · intro h k
    rw [← mc a k, ← mc b k]
    exact h k
  · intro h k
    constructor
    · intro z
      obtain ⟨y, hy, rfl⟩ := List.mem_map.mp z
      exact (mc b y).mpr ((h y).mp hy)
    · intro z
      obtain ⟨y, hy, rfl⟩ := List.mem_map.mp z
      exact (mc a y).mpr ((h y).mpr hy)
theorem intsD_nD (l : List Nat) : intsD ((l.map nD).map W.d) = some (l.map fun n : Nat => (n : Int)) := intsD_f (fun n : Nat => (n : Int)) l
def sp_have_same_lines : DSp := fun ws M R xr => ∃ (s s' : Int) (l l' : List Nat), ws = [.d (rD s l), .d (rD s' l')] ∧ l.length ≤ 2000 ∧ l'.length ≤ 2000 ∧ R (.d (.bool (sameL l l'))) M
theorem pure_have_same_lines (ws : List W) (M : MM) (R : KW) (xr : XR) (h : sp_have_same_lines ws M R xr) : w_have_same_lines (dEnds R xr) (startD ["one", "other"] ws) M := by
  obtain ⟨s, s', l, l', rfl, h1, h2, k⟩ := h
  unfold w_have_same_lines wSetEq rD
  walk_at "dl2"
  rw [intsD_nD]
  dsimp only
  refine ⟨by rw [List.length_map]; exact h1, ?_⟩
  rw [intsD_nD]
  exact ⟨by rw [List.length_map]; exact h2, _, Sub.refl _, k⟩
def othersP (N : Net) (s e : Int) (l : List Nat) : List (List Nat) := (routesP N s e).filter fun o => !sameL l o
def sp_others : DSp := fun ws M R xr => ∃ (N : Net) (ps : List Int) (lns : List Nat), ws = [.d N.d, .d (rD (ps.headD 0) lns)] ∧ N.Ok ∧ Rt N ps lns ∧ R (.d (.tuple ((othersP N (ps.headD 0) (ps.reverse.headD 0) lns).map fun o => rD (ps.headD 0) o))) M
theorem pure_others (ws : List W) (M : MM) (R : KW) (xr : XR) (h : sp_others ws M R xr) : w_others sp_routes sp_end_of sp_have_same_lines (dEnds R xr) (startD ["net", "route", "every", "other"] ws) M := by
  obtain ⟨N, ps, lns, rfl, hN, hR, k⟩ := h
  obtain ⟨s0, s1⟩ := hR.rng hN
  have hll := (rt_le hN hR s0 s1).1
  unfold w_others
  refine wSeq_i fun κ hκ => ?_
  walk_at "dl2"
  refine ⟨N, ps, lns, rfl, hN, hR, by omega, ?_⟩
  refine ⟨N, ps.headD 0, ps.reverse.headD 0, rfl, hN, s0, s1, ?_⟩
  have hrl := routes_len hN (e := ps.reverse.headD 0) s0 s1
  subst hκ
  walk_at "dl2"
  rw [List.map_map]
  refine lc_fm (W.d ∘ fun l => rD (ps.headD 0) l) (fun o => !sameL lns o) (W.d ∘ fun l => rD (ps.headD 0) l) trivial _ [] (fun o ho Q hQ => ?_) (fun o ho _ Q hQ => hQ) (by simp only [List.length_nil]; omega) ?_
  · show wNotT _ xq0 [_, some (.d (rD (ps.headD 0) lns)), _, some (.d (rD (ps.headD 0) o))] M Q
    walk_at "dl2"
    exact ⟨_, _, lns, o, rfl, by omega, by have := (routes_short hN s0 s1 ho).1; omega, hQ⟩
  rw [List.nil_append]
  have eds : allD (List.map (W.d ∘ fun l => rD (ps.headD 0) l) (List.filter (fun o => !sameL lns o) (routesP N (ps.headD 0) (ps.reverse.headD 0)))) = some ((othersP N (ps.headD 0) (ps.reverse.headD 0) lns).map fun o => rD (ps.headD 0) o) := allD_f _ _
  rw [eds]
  walk_at "dl2"
  exact ⟨_, Sub.refl _, k⟩
end DL
namespace DL
open PySem PySem.Spec PyProof.Rows L2
/-! ### what the head tells, with tuples of texts that are the module's names -/
abbrev TpL : Type := List (Str × List He.Dv)
def obsT (fa : List He.Fa) (fn : List He.DefD) (tp : TpL) (K : PySem.W.Frag) : Bool × He.AlD := (tp.all fun p => He.tupB K p.1 p.2, He.obsD fa fn K)
def valT (fn : List He.DefD) : Bool × He.AlD := (true, He.valD fn)
def SaysT (fa : List He.Fa) (fn : List He.DefD) (tp : TpL) (K : PySem.W.Frag) : Prop := obsT fa fn tp K = valT fn
def obsTG (n : Nat) (fa : List He.Fa) (fn : List He.DefD) (tp : TpL) (g : Addr → Option Obj) : Bool × He.AlD := obsT fa fn tp (He.frG g (He.asD g n))
def hookT (n : Nat) (fa : List He.Fa) (fn : List He.DefD) (tp : TpL) : PySem.W.Hook where
  α := Bool × He.AlD
  obs := fun s => obsTG n fa fn tp s.heap.get?
  val := fun _ => valT fn
  says := fun _ h => ∃ K : PySem.W.Frag, K.In h ∧ SaysT fa fn tp K
  of := fun _ _ e => ⟨_, He.frG_in, e⟩
  keeps := fun _ _ _ ⟨K, hK, c⟩ k => ⟨K, PySem.W.Frag.In.keeps hK k, c⟩
theorem obsTG_eq {n : Nat} {fa : List He.Fa} {fn : List He.DefD} {tp : TpL} {g : Addr → Option Obj} {s : Shared} (h : ∀ a, g a = s.heap.get? a) : obsTG n fa fn tp g = (hookT n fa fn tp).obs s := by
  have e : g = s.heap.get? := funext h
  rw [e] <;> rfl
section
variable {fa : List He.Fa} {fn : List He.DefD} {tp : TpL} {K : PySem.W.Frag}
theorem SaysT.d (c : SaysT fa fn tp K) : He.SaysD fa fn K := congrArg Prod.snd c
theorem SaysT.tup (c : SaysT fa fn tp K) (i : Nat) {x : Str} {vs : List He.Dv} (h : tp[i]? = some (x, vs)) : He.tupB K x vs = true :=
  List.all_eq_true.mp (show (tp.all fun p => He.tupB K p.1 p.2) = true from congrArg Prod.fst c) (x, vs) (List.mem_of_getElem? h)
theorem dps_strs {G : Hp} : ∀ zs : List Str, DpAll K G ((zs.map He.Dv.str).map (He.Dv.v K)) (zs.map PyData.str)
  | [] => .nil
  | z :: r => .cons (Dp.str z) (dps_strs r)
theorem kc_of {h : Heap} {mg : Str → Option Value} (X : K.In h) (G : h.Ns mainGlobals mg) (c : SaysT fa fn tp K) (i j : Nat) {x : Str} (zs : List Str) (hj : fa[j]? = some (.glo x)) (hi : tp[i]? = some (x, zs.map He.Dv.str)) : KC K mg x (.tuple (zs.map PyData.str)) :=
  ⟨⟨_, V.ref (He.ga K x), He.glo_ok X G (c.d.fact j hj), rfl, fun G => .tup (He.tupB_ok (c.tup i hi) G) (dps_strs zs)⟩⟩
end
end DL
namespace DL
open PySem PySem.Spec PyProof.Rows L2
local macro_rules | `(tactic| walk_at "dl2") => `(tactic| simp only [wAsg, wOp, wVar, wC, wgN, wgTup, wgCons, wgNil, wgSub, setW, wIf, wTest, wNext, wRet, wRetN, wDrop, wAndT, wOrT, wNotT, wAndV, wOrV, wNotV, wIfE, wNeg, wNil, wCons, wTup, wTupR, wLst, wBlt, wCall, wFrz, wFz, frz, wSl, wNoP, wSoP, wPar2, wPar3, wMethL, mAppend, isLst,
  wRev, wInR, wLenSet, bStr, bMax2, bMin2, wChain, wLc, wipeW, wYes, xq0, mkL, mkT, allD, allD_map, seeL, seeD, seeT, seeS, ownL, oIx, ixW, oAdd, oSub, oMul, oMod, oDiv, oPow, oLt, oLe, oGt, oGe, oB, isInts, oEq, oIsN, isNon, oIsB, oIn, oCat, oRep, bLen, bInt, bAbs, bList, bTuple, seeA, bSum, bInts, bAll, bAny, bBools, bIsi, tyName, bReprS,
  wFor, iR1, iR2, iS, iE, iEB, enW, iZ, stL, startD, dEnds, fin, at0, at1, at2, at3, at4, atm1, atm1', ix40, ix41, ix42, ix43, eqv_int, eqv_none_int, eqv_int_none, eqv_none, eqv_lnil, eqv_tnil, eqv_str, sh_int, sh_none, sh_bool, sh_ints, sh_nil, sh_tints, sh_tnil,
  kit_NoneType_bool, kit_NoneType_int, kit_NoneType_str, kit_NoneType_list, kit_NoneType_tuple, kit_bool_bool, kit_bool_int, kit_bool_str, kit_bool_list, kit_bool_tuple, kit_int_bool, kit_int_int, kit_int_str, kit_int_list, kit_int_tuple, kit_str_bool, kit_str_int, kit_str_str, kit_str_list, kit_str_tuple,
  kit_list_bool, kit_list_int, kit_list_str, kit_list_list, kit_list_tuple, kit_tuple_bool, kit_tuple_int, kit_tuple_str, kit_tuple_list, kit_tuple_tuple, kit_dict_bool, kit_dict_int, kit_dict_str, kit_dict_list, kit_dict_tuple,
  List.map_cons, List.map_nil, List.length_cons, List.length_nil, List.length_map, List.replicate, List.cons_append, List.nil_append, List.getElem?_cons_zero, List.getElem?_cons_succ, List.set_cons_zero, List.set_cons_succ, List.isEmpty_map,
  Bool.false_eq_true, reduceCtorEq, Nat.reduceAdd, Nat.reduceSub, Nat.reduceLeDiff, Option.map_some, Option.bind_some, true_and, and_true, decide_eq_true_eq, Bool.not_eq_true', Bool.not_true, Bool.not_false, decide_eq_false_iff_not, if_true, if_false, ite_true, ite_false, reduceIte, mset_same, cut_map, allD_f, allD_app, allD_rev, rep_map, Option.map_none, wSortK, bSorted, wMinD, bMinL, mExtend, iZA])
abbrev c_PAIR_WORDS : PyData := .tuple [.str "most", .str "less"]
def w_first_against (sp_length_of : DSp) (sp_others : DSp) : WS := (wSeq (wIf (wTest (wOp (oIn false) (wOp oIx (wVar 1) (wC (.d (.int 0)))) (wC (.d c_PAIR_WORDS)))) (wSeq (wAsg (wVar 1) (wgTup 5 (wgCons (wgN 3) (wgCons (wgN 4) (wgCons (wgN 5) (wgCons (wgN 6) (wgCons (wgN 7) wgNil)))))))
    (wSeq (wAsg (wOp oSub (wOp oMul (wVar 4) (wCall sp_length_of (wCons (wVar 0) (wCons (wVar 2) (wCons (wVar 5) wNil))))) (wOp oMul (wVar 6) (wCall sp_length_of (wCons (wVar 0) (wCons (wVar 2) (wCons (wVar 7) wNil)))))) (wgN 8))
    (wRet (wIfE (wOrT (wTest (wOp oGt (wVar 8) (wC (.d (.int 0))))) (wAndT (wTest (wOp (oEq false) (wVar 8) (wC (.d (.int 0))))) (wTest (wOp (oEq false) (wVar 3) (wC (.d (.str "less"))))))) (wVar 7) (wC (.d .none)))))) wNext)
    (wSeq (wAsg (wCall sp_length_of (wCons (wVar 0) (wCons (wVar 2) (wCons (wOp oIx (wVar 1) (wC (.d (.int 1)))) wNil)))) (wgN 9))
    (wSeq (wFor (iS (wCall sp_others (wCons (wVar 0) (wCons (wOp oIx (wVar 1) (wC (.d (.int 1)))) wNil)))) (wgN 7) (wSeq (wAsg (wCall sp_length_of (wCons (wVar 0) (wCons (wVar 2) (wCons (wVar 7) wNil)))) (wgN 6))
    (wIf (wOrT (wTest (wOp oLt (wVar 6) (wVar 9))) (wAndT (wTest (wOp (oEq false) (wVar 6) (wVar 9))) (wTest (wOp (oEq false) (wOp oIx (wVar 1) (wC (.d (.int 0)))) (wC (.d (.str "only"))))))) (wRet (wVar 7)) wNext)))
    (wRet (wC (.d .none))))))
def w_is_so (sp_first_against : DSp) : WS := (wRet (wOp (oIsN false) (wCall sp_first_against (wCons (wVar 0) (wCons (wVar 1) (wCons (wVar 2) wNil)))) (wC (.d .none))))
def w_unfit (sp_first_against : DSp) : WS := (wSeq (wFor (iEB (wCons (wVar 1) wNil)) (wgTup 2 (wgCons (wgN 3) (wgCons (wgN 4) wgNil))) (wSeq (wAsg (wCall sp_first_against (wCons (wVar 0) (wCons (wVar 4) (wCons (wVar 2) wNil)))) (wgN 5))
    (wIf (wTest (wOp (oIsN true) (wVar 5) (wC (.d .none)))) (wRet (wTup (wCons (wVar 3) (wCons (wVar 5) wNil)))) wNext)))
    (wRet (wC (.d .none))))
def w_fits (sp_unfit : DSp) : WS := (wRet (wOp (oIsN false) (wCall sp_unfit (wCons (wVar 0) (wCons (wVar 1) (wCons (wVar 2) wNil)))) (wC (.d .none))))
/-! ### sights -/
inductive Sg where
  | r (only : Bool) (ps : List Int) (l : List Nat)
  | p (less : Bool) (t : Int) (ps : List Int) (l : List Nat) (m : Int) (qs : List Int) (k : List Nat)
def pWord (less : Bool) : Str := if less then "less" else "most"
def rWord (only : Bool) : Str := if only then "only" else "one"
def sgD : Sg → PyData
  | .r only ps l => .tuple [.str (rWord only), rD (ps.headD 0) l]
  | .p less t ps l m qs k => .tuple [.str (pWord less), .int t, rD (ps.headD 0) l, .int m, rD (qs.headD 0) k]
def SgOk (N : Net) : Sg → Prop
  | .r _ ps l => Rt N ps l
  | .p _ t ps l m qs k => Rt N ps l ∧ Rt N qs k ∧ 1 ≤ t ∧ t ≤ 1000000000 ∧ 1 ≤ m ∧ m ≤ 1000000000
def oRt : Option (Int × List Nat) → PyData
  | some x => rD x.1 x.2
  | none => .none
def shows (xs : List Int) (only : Bool) (l o : List Nat) : Bool := decide (lenP xs o < lenP xs l) || (decide (lenP xs o = lenP xs l) && only)
def againstP (N : Net) (xs : List Int) : Sg → Option (Int × List Nat)
  | .r only ps l => ((othersP N (ps.headD 0) (ps.reverse.headD 0) l).find? (shows xs only l)).map fun o => (ps.headD 0, o)
  | .p less t ps l m qs k => if t * lenP xs l - m * lenP xs k > 0 ∨ (t * lenP xs l - m * lenP xs k = 0 ∧ less = true) then some (qs.headD 0, k) else none
theorem pWord_in (less : Bool) : ([PyData.str "most", PyData.str "less"].any fun z => PyData.eqv z (.str (pWord less))) = true := by
  simp only [List.any_cons, List.any_nil, eqv_str]
  cases less <;> decide +kernel
theorem rWord_in (only : Bool) : ([PyData.str "most", PyData.str "less"].any fun z => PyData.eqv z (.str (rWord only))) = false := by
  simp only [List.any_cons, List.any_nil, eqv_str]
  cases only <;> decide +kernel
theorem pWord_less (less : Bool) : PyData.eqv (.str (pWord less)) (.str "less") = less := by
  rw [eqv_str]
  cases less <;> decide +kernel
theorem rWord_only (only : Bool) : PyData.eqv (.str (rWord only)) (.str "only") = only := by
  rw [eqv_str]
  cases only <;> decide +kernel
def sp_first_against : DSp := fun ws M R xr => ∃ (N : Net) (g : Sg) (xs : List Int), ws = [.d N.d, .d (sgD g), .d (.tuple (xs.map .int))] ∧ N.Ok ∧ SgOk N g ∧ xs.length = N.ls.length ∧ R (.d (oRt (againstP N xs g))) M
theorem pure_first_against (ws : List W) (M : MM) (R : KW) (xr : XR) (h : sp_first_against ws M R xr) : w_first_against sp_length_of sp_others (dEnds R xr) (startD ["net", "sight", "lengths", "word", "times", "route", "more", "other", "over", "size"] ws) M := by
  obtain ⟨N, g, xs, rfl, hN, hg, hx, k⟩ := h
  have rl : ∀ {ps : List Int} {l : List Nat}, Rt N ps l → (∀ z ∈ l, z < xs.length) ∧ l.length ≤ 100000 := fun {ps l} hR => by
    obtain ⟨s0, s1⟩ := hR.rng hN
    obtain ⟨a, b⟩ := rt_le hN hR s0 s1
    exact ⟨fun z hz => by rw [hx]; exact b z hz, by omega⟩
  unfold w_first_against
  refine wSeq_i fun κ hκ => ?_
  cases g with
  | p less t ps l m qs kk =>
    obtain ⟨hR1, hR2, t1, t9, m1, m9⟩ := hg
    show wIf _ _ _ _ [_, some (.d (.tuple [.str (pWord less), .int t, rD (ps.headD 0) l, .int m, rD (qs.headD 0) kk])), _, _, _, _, _, _, _, _] _
    walk_at "dl2"
    refine ⟨rfl, rfl, ?_⟩
    rw [if_pos (pWord_in less)]
    clear hκ
    refine wSeq_i fun κ1 hκ1 => ?_
    walk_at "dl2"
    subst hκ1
    refine wSeq_i fun κ1 hκ1 => ?_
    walk_at "dl2"
    obtain ⟨l1, l2⟩ := rl hR1
    obtain ⟨k1, k2⟩ := rl hR2
    refine ⟨_, xs, _, l, rfl, l1, l2, ?_⟩
    dsimp only
    refine ⟨.inl ⟨by omega, by omega⟩, _, xs, _, kk, rfl, k1, k2, ?_⟩
    dsimp only
    refine ⟨.inl ⟨by omega, by omega⟩, ?_⟩
    subst hκ1
    walk_at "dl2"
    simp only [againstP] at k
    have hsh : ∀ b, SeqAt.shaped (.str (pWord b)) = true := fun b => by cases b <;> decide +kernel
    by_cases c1 : 0 < t * lenP xs l - m * lenP xs kk
    · rw [if_pos (.inl c1)] at k
      rw [if_pos c1]
      exact ⟨_, Sub.refl _, k⟩
    rw [if_neg c1]
    by_cases c2 : t * lenP xs l - m * lenP xs kk = 0
    · rw [if_pos c2]
      refine ⟨hsh less, hsh true, ?_⟩
      cases less
      · rw [if_neg (by rintro (h | ⟨_, h⟩); exact c1 h; cases h)] at k
        rw [if_neg (by decide +kernel)]
        exact ⟨_, Sub.refl _, k⟩
      · rw [if_pos (.inr ⟨c2, rfl⟩)] at k
        rw [if_pos (by decide +kernel)]
        exact ⟨_, Sub.refl _, k⟩
    · rw [if_neg (by rintro (h | ⟨h, _⟩); exact c1 h; exact c2 h)] at k
      rw [if_neg c2]
      exact ⟨_, Sub.refl _, k⟩
  | r only ps l =>
    obtain ⟨l1, l2⟩ := rl hg
    show wIf _ _ _ _ [_, some (.d (.tuple [.str (rWord only), rD (ps.headD 0) l])), _, _, _, _, _, _, _, _] _
    walk_at "dl2"
    refine ⟨rfl, rfl, ?_⟩
    rw [rWord_in only, if_neg (by decide)]
    subst hκ
    refine wSeq_i fun κ hκ => ?_
    walk_at "dl2"
    refine ⟨_, xs, _, l, rfl, l1, l2, ?_⟩
    subst hκ
    refine wSeq_i fun κ hκ => ?_
    walk_at "dl2"
    refine ⟨N, ps, l, rfl, hN, hg, ?_⟩
    dsimp only
    rw [List.map_map]
    have hom : ∀ o ∈ othersP N (ps.headD 0) (ps.reverse.headD 0) l, (∀ z ∈ o, z < xs.length) ∧ o.length ≤ 100000 := fun o ho => by
      obtain ⟨s0, s1⟩ := hg.rng hN
      obtain ⟨a, b⟩ := routes_short hN s0 s1 (List.mem_filter.mp ho).1
      exact ⟨fun z hz => by rw [hx]; exact b z hz, by omega⟩
    have hsh : ∀ b, SeqAt.shaped (.str (rWord b)) = true := fun b => by cases b <;> decide +kernel
    refine iter_ls (f := W.d ∘ fun o => rD (ps.headD 0) o) (fun r ρ M' => M' = M ∧ (∀ o ∈ r, (∀ z ∈ o, z < xs.length) ∧ o.length ≤ 100000) ∧ (othersP N (ps.headD 0) (ps.reverse.headD 0) l).find? (shows xs only l) = r.find? (shows xs only l) ∧ ∃ (x3 x4 x5 x6 x7 x8 : Option W), ρ = [some (.d N.d), some (.d (.tuple [.str (rWord only), rD (ps.headD 0) l])), some (.d (.tuple (xs.map .int))), x3, x4, x5, x6, x7, x8, some (.d (.int (lenP xs l)))]) ?_ ?_ _ _ _ ⟨rfl, hom, rfl, _, _, _, _, _, _, rfl⟩
    · rintro _ M ⟨rfl, _, hf, x3, x4, x5, x6, x7, x8, rfl⟩
      refine ⟨trivial, ?_⟩
      dsimp only
      subst hκ
      simp only [againstP] at k
      rw [hf] at k
      exact ⟨_, Sub.refl _, k⟩
    simp only [againstP] at k
    rintro o r _ M' κ2 ⟨rfl, hr, hf, x3, x4, x5, x6, x7, x8, rfl⟩ hκ2
    obtain ⟨o1, o2⟩ := hr o List.mem_cons_self
    refine ⟨trivial, ?_⟩
    refine wSeq_i fun κ3 hκ3 => ?_
    show wAsg _ _ _ [_, _, _, _, _, _, _, some (.d (rD (ps.headD 0) o)), _, _] _
    walk_at "dl2"
    refine ⟨_, xs, _, o, rfl, o1, o2, ?_⟩
    subst hκ3
    walk_at "dl2"
    have hyes : shows xs only l o = true → R (.d (rD (ps.headD 0) o)) M' := fun hs => by
      rw [hf, List.find?_cons, hs] at k
      exact k
    have hno : shows xs only l o = false → κ2 [some (.d N.d), some (.d (.tuple [.str (rWord only), rD (ps.headD 0) l])), some (.d (.tuple (xs.map .int))), x3, x4, x5, some (.d (.int (lenP xs o))), some (.d (rD (ps.headD 0) o)), x8, some (.d (.int (lenP xs l)))] M' := fun hs => by
      rw [List.find?_cons, hs] at hf
      exact hκ2 _ _ ⟨rfl, fun z hz => hr z (List.mem_cons_of_mem _ hz), hf, _, _, _, _, _, _, rfl⟩
    unfold shows at hyes hno
    by_cases c1 : lenP xs o < lenP xs l
    · rw [if_pos c1]
      rw [decide_eq_true c1] at hyes
      exact ⟨_, Sub.refl _, hyes rfl⟩
    rw [if_neg c1]
    rw [decide_eq_false c1] at hyes hno
    by_cases c2 : lenP xs o = lenP xs l
    · rw [if_pos c2]
      rw [decide_eq_true c2] at hyes hno
      refine ⟨hsh only, hsh true, ?_⟩
      cases only
      · rw [if_neg (by decide +kernel)]
        exact hno rfl
      · rw [if_pos (by decide +kernel)]
        exact ⟨_, Sub.refl _, hyes rfl⟩
    · rw [if_neg c2]
      rw [decide_eq_false c2] at hno
      exact hno rfl
def sp_is_so : DSp := fun ws M R xr => ∃ (N : Net) (g : Sg) (xs : List Int), ws = [.d N.d, .d (sgD g), .d (.tuple (xs.map .int))] ∧ N.Ok ∧ SgOk N g ∧ xs.length = N.ls.length ∧ R (.d (.bool (againstP N xs g).isNone)) M
theorem pure_is_so (ws : List W) (M : MM) (R : KW) (xr : XR) (h : sp_is_so ws M R xr) : w_is_so sp_first_against (dEnds R xr) (startD ["net", "sight", "lengths"] ws) M := by
  obtain ⟨N, g, xs, rfl, hN, hg, hx, k⟩ := h
  unfold w_is_so
  walk_at "dl2"
  refine ⟨N, g, xs, rfl, hN, hg, hx, ?_⟩
  cases hq : againstP N xs g with
  | none => rw [hq] at k; exact ⟨_, Sub.refl _, k⟩
  | some x => rw [hq] at k; exact ⟨_, Sub.refl _, k⟩
def unfitP (N : Net) (xs : List Int) : Nat → List Sg → Option (Nat × (Int × List Nat))
  | _, [] => none
  | n, g :: r => match againstP N xs g with
    | some x => some (n, x)
    | none => unfitP N xs (n + 1) r
def oUn : Option (Nat × (Int × List Nat)) → PyData
  | some x => .tuple [.int (x.1 : Int), rD x.2.1 x.2.2]
  | none => .none
def sp_unfit : DSp := fun ws M R xr => ∃ (N : Net) (gs : List Sg) (xs : List Int), ws = [.d N.d, .d (.tuple (gs.map sgD)), .d (.tuple (xs.map .int))] ∧ N.Ok ∧ (∀ g ∈ gs, SgOk N g) ∧ xs.length = N.ls.length ∧ R (.d (oUn (unfitP N xs 0 gs))) M
theorem pure_unfit (ws : List W) (M : MM) (R : KW) (xr : XR) (h : sp_unfit ws M R xr) : w_unfit sp_first_against (dEnds R xr) (startD ["net", "sights", "lengths", "number", "sight", "route"] ws) M := by
  obtain ⟨N, gs, xs, rfl, hN, hgs, hx, k⟩ := h
  unfold w_unfit
  refine wSeq_i fun κ hκ => ?_
  walk_at "dl2"
  rw [enW_range, List.length_map]
  refine iter_ls (f := fun l : Nat => W.d (.tuple [.int ((0 + l : Nat) : Int), (gs.map sgD).getD l PyData.none])) (fun r ρ M' => M' = M ∧ ∃ (i : Nat) (x3 x4 x5 : Option W), ρ = [some (.d N.d), some (.d (.tuple (gs.map sgD))), some (.d (.tuple (xs.map .int))), x3, x4, x5] ∧ i ≤ gs.length ∧ r = (List.range gs.length).drop i ∧ unfitP N xs 0 gs = unfitP N xs i (gs.drop i)) ?_ ?_ _ _ _ ⟨rfl, 0, _, _, _, rfl, Nat.zero_le _, rfl, rfl⟩
  · rintro _ M ⟨rfl, i, x3, x4, x5, rfl, hi, hr, hu⟩
    refine ⟨trivial, ?_⟩
    have := congrArg List.length hr
    rw [List.length_drop, List.length_range, List.length_nil] at this
    rw [hu, List.drop_of_length_le (by omega)] at k
    dsimp only
    subst hκ
    exact ⟨_, Sub.refl _, k⟩
  rintro l r _ M' κ2 ⟨rfl, i, x3, x4, x5, rfl, hi, hr, hu⟩ hκ2
  have hlen := congrArg List.length hr
  rw [List.length_drop, List.length_range, List.length_cons] at hlen
  have hin : i < gs.length := by omega
  rw [List.drop_eq_getElem_cons (by rw [List.length_range]; exact hin), List.getElem_range] at hr
  obtain ⟨rfl, hr2⟩ := List.cons.inj hr
  have eg : (gs.map sgD).getD l PyData.none = sgD gs[l] := by
    rw [List.getD_eq_getElem?_getD, List.getElem?_map, List.getElem?_eq_getElem hin]; rfl
  have hu2 : unfitP N xs 0 gs = match againstP N xs gs[l] with
    | some x => some (l, x)
    | none => unfitP N xs (l + 1) (gs.drop (l + 1)) := by
    rw [hu, List.drop_eq_getElem_cons hin, unfitP]
  rw [eg, Nat.zero_add]
  refine ⟨trivial, rfl, rfl, ?_⟩
  dsimp only
  refine wSeq_i fun κ3 hκ3 => ?_
  show wAsg _ _ _ [_, _, _, some (.d (.int (l : Int))), some (.d (sgD gs[l])), _] _
  walk_at "dl2"
  refine ⟨N, gs[l], xs, rfl, hN, hgs _ (List.getElem_mem hin), hx, ?_⟩
  subst hκ3
  cases hq : againstP N xs gs[l] with
  | none =>
    rw [hq] at hu2
    show wIf _ _ _ _ [_, _, _, _, _, some (.d .none)] _
    walk_at "dl2"
    exact hκ2 _ _ ⟨rfl, l + 1, _, _, _, rfl, hin, hr2, hu2⟩
  | some x =>
    rw [hq] at hu2
    rw [hu2] at k
    show wIf _ _ _ _ [_, _, _, some (.d (.int (l : Int))), _, some (.d (.tuple [.int x.1, .tuple (x.2.map nD)]))] _
    walk_at "dl2"
    exact ⟨_, Sub.refl _, k⟩
def sp_fits : DSp := fun ws M R xr => ∃ (N : Net) (gs : List Sg) (xs : List Int), ws = [.d N.d, .d (.tuple (gs.map sgD)), .d (.tuple (xs.map .int))] ∧ N.Ok ∧ (∀ g ∈ gs, SgOk N g) ∧ xs.length = N.ls.length ∧ R (.d (.bool (unfitP N xs 0 gs).isNone)) M
theorem pure_fits (ws : List W) (M : MM) (R : KW) (xr : XR) (h : sp_fits ws M R xr) : w_fits sp_unfit (dEnds R xr) (startD ["net", "sights", "lengths"] ws) M := by
  obtain ⟨N, gs, xs, rfl, hN, hg, hx, k⟩ := h
  unfold w_fits
  walk_at "dl2"
  refine ⟨N, gs, xs, rfl, hN, hg, hx, ?_⟩
  cases hq : unfitP N xs 0 gs with
  | none => rw [hq] at k; exact ⟨_, Sub.refl _, k⟩
  | some x => rw [hq] at k; exact ⟨_, Sub.refl _, k⟩
end DL
namespace DL
open PySem PySem.Spec PyProof.Rows L2
local macro_rules | `(tactic| walk_at "dl2") => `(tactic| simp only [wAsg, wOp, wVar, wC, wgN, wgTup, wgCons, wgNil, wgSub, setW, wIf, wTest, wNext, wRet, wRetN, wDrop, wAndT, wOrT, wNotT, wAndV, wOrV, wNotV, wIfE, wNeg, wNil, wCons, wTup, wTupR, wLst, wBlt, wCall, wFrz, wFz, frz, wSl, wNoP, wSoP, wPar2, wPar3, wMethL, mAppend, isLst,
  wRev, wInR, wLenSet, bStr, bMax2, bMin2, wChain, wLc, wipeW, wYes, xq0, mkL, mkT, allD, allD_map, seeL, seeD, seeT, seeS, ownL, oIx, ixW, oAdd, oSub, oMul, oMod, oDiv, oPow, oLt, oLe, oGt, oGe, oB, isInts, oEq, oIsN, isNon, oIsB, oIn, oCat, oRep, bLen, bInt, bAbs, bList, bTuple, seeA, bSum, bInts, bAll, bAny, bBools, bIsi, tyName, bReprS,
  wFor, iR1, iR2, iS, iE, iEB, enW, iZ, stL, startD, dEnds, fin, at0, at1, at2, at3, at4, atm1, atm1', ix40, ix41, ix42, ix43, eqv_int, eqv_none_int, eqv_int_none, eqv_none, eqv_lnil, eqv_tnil, eqv_str, sh_int, sh_none, sh_bool, sh_ints, sh_nil, sh_tints, sh_tnil,
  kit_NoneType_bool, kit_NoneType_int, kit_NoneType_str, kit_NoneType_list, kit_NoneType_tuple, kit_bool_bool, kit_bool_int, kit_bool_str, kit_bool_list, kit_bool_tuple, kit_int_bool, kit_int_int, kit_int_str, kit_int_list, kit_int_tuple, kit_str_bool, kit_str_int, kit_str_str, kit_str_list, kit_str_tuple,
  kit_list_bool, kit_list_int, kit_list_str, kit_list_list, kit_list_tuple, kit_tuple_bool, kit_tuple_int, kit_tuple_str, kit_tuple_list, kit_tuple_tuple, kit_dict_bool, kit_dict_int, kit_dict_str, kit_dict_list, kit_dict_tuple,
  List.map_cons, List.map_nil, List.length_cons, List.length_nil, List.length_map, List.replicate, List.cons_append, List.nil_append, List.getElem?_cons_zero, List.getElem?_cons_succ, List.set_cons_zero, List.set_cons_succ, List.isEmpty_map,
  Bool.false_eq_true, reduceCtorEq, Nat.reduceAdd, Nat.reduceSub, Nat.reduceLeDiff, Option.map_some, Option.bind_some, true_and, and_true, decide_eq_true_eq, Bool.not_eq_true', Bool.not_true, Bool.not_false, decide_eq_false_iff_not, if_true, if_false, ite_true, ite_false, reduceIte, mset_same, cut_map, allD_f, allD_app, allD_rev, rep_map, Option.map_none, wSortK, bSorted, wMinD, bMinL, mExtend, iZA])
def w_opposites (sp_others : DSp) : WS := (wSeq (wIf (wTest (wOp (oEq false) (wOp oIx (wVar 1) (wC (.d (.int 0)))) (wC (.d (.str "one"))))) (wRet (wBlt bTuple (wCons (wLc false (iS (wCall sp_others (wCons (wVar 0) (wCons (wOp oIx (wVar 1) (wC (.d (.int 1)))) wNil)))) (wgN 6) wYes (wTup (wCons (wC (.d (.str "less"))) (wCons (wC (.d (.int 1))) (wCons (wVar 6) (wCons (wC (.d (.int 1))) (wCons (wOp oIx (wVar 1) (wC (.d (.int 1)))) wNil)))))) [6]) wNil))) wNext)
    (wSeq (wIf (wTest (wOp (oEq false) (wOp oIx (wVar 1) (wC (.d (.int 0)))) (wC (.d (.str "only"))))) (wRet (wBlt bTuple (wCons (wLc false (iS (wCall sp_others (wCons (wVar 0) (wCons (wOp oIx (wVar 1) (wC (.d (.int 1)))) wNil)))) (wgN 6) wYes (wTup (wCons (wC (.d (.str "most"))) (wCons (wC (.d (.int 1))) (wCons (wVar 6) (wCons (wC (.d (.int 1))) (wCons (wOp oIx (wVar 1) (wC (.d (.int 1)))) wNil)))))) [6]) wNil))) wNext)
    (wSeq (wAsg (wVar 1) (wgTup 5 (wgCons (wgN 2) (wgCons (wgN 3) (wgCons (wgN 4) (wgCons (wgN 5) (wgCons (wgN 6) wgNil)))))))
    (wRet (wTup (wCons (wTup (wCons (wIfE (wTest (wOp (oEq false) (wVar 2) (wC (.d (.str "most"))))) (wC (.d (.str "less"))) (wC (.d (.str "most")))) (wCons (wVar 5) (wCons (wVar 6) (wCons (wVar 3) (wCons (wVar 4) wNil)))))) wNil))))))
/-! ### opposites of sights -/
def plc (N : Net) (s : Int) (a : List Nat) : List Int := (placesP N s a).map fun o => o.getD 0
theorem plc_eq {N : Net} {s : Int} {ps : List Int} {a : List Nat} (h : Pth N.ls (s :: ps) a) : plc N s a = s :: ps := by
  unfold plc
  have : placesP N s a = (s :: ps).map some := h.places
  rw [this, List.map_map]
  exact List.map_id' _
theorem plc_head (N : Net) (s : Int) (a : List Nat) : (plc N s a).headD 0 = s := rfl
def oppP (N : Net) : Sg → List Sg
  | .r only ps l => (othersP N (ps.headD 0) (ps.reverse.headD 0) l).map fun o => .p (!only) 1 (plc N (ps.headD 0) o) o 1 ps l
  | .p less t ps l m qs k => [.p (!less) m qs k t ps l]
def sp_opposites : DSp := fun ws M R xr => ∃ (N : Net) (g : Sg), ws = [.d N.d, .d (sgD g)] ∧ N.Ok ∧ SgOk N g ∧ R (.d (.tuple ((oppP N g).map sgD))) M
theorem pure_opposites (ws : List W) (M : MM) (R : KW) (xr : XR) (h : sp_opposites ws M R xr) : w_opposites sp_others (dEnds R xr) (startD ["net", "sight", "word", "times", "route", "more", "other"] ws) M := by
  obtain ⟨N, g, rfl, hN, hg, k⟩ := h
  have hshr : ∀ b, SeqAt.shaped (.str (rWord b)) = true := fun b => by cases b <;> decide +kernel
  have hshp : ∀ b, SeqAt.shaped (.str (pWord b)) = true := fun b => by cases b <;> decide +kernel
  unfold w_opposites
  refine wSeq_i fun κ hκ => ?_
  cases g with
  | p less t ps l m qs kk =>
    show wIf _ _ _ _ [_, some (.d (.tuple [.str (pWord less), .int t, rD (ps.headD 0) l, .int m, rD (qs.headD 0) kk])), _, _, _, _, _] _
    walk_at "dl2"
    refine ⟨hshp less, hshr false, ?_⟩
    rw [if_neg (by cases less <;> decide +kernel)]
    subst hκ
    refine wSeq_i fun κ hκ => ?_
    walk_at "dl2"
    refine ⟨hshp less, hshr true, ?_⟩
    rw [if_neg (by cases less <;> decide +kernel)]
    subst hκ
    refine wSeq_i fun κ hκ => ?_
    walk_at "dl2"
    subst hκ
    walk_at "dl2"
    refine ⟨hshp less, hshp false, ?_⟩
    cases less
    · rw [if_pos (by decide +kernel)]
      exact ⟨_, Sub.refl _, k⟩
    · rw [if_neg (by decide +kernel)]
      exact ⟨_, Sub.refl _, k⟩
  | r only ps l =>
    obtain ⟨s0, s1⟩ := hg.rng hN
    have hol : (othersP N (ps.headD 0) (ps.reverse.headD 0) l).length ≤ 32768 := Nat.le_trans (List.length_filter_le _ _) (routes_len hN s0 s1)
    show wIf _ _ _ _ [_, some (.d (.tuple [.str (rWord only), rD (ps.headD 0) l])), _, _, _, _, _] _
    walk_at "dl2"
    refine ⟨hshr only, hshr false, ?_⟩
    cases only
    · rw [if_pos (by decide +kernel)]
      refine ⟨N, ps, l, rfl, hN, hg, ?_⟩
      dsimp only
      rw [List.map_map]
      refine lc_m (W.d ∘ fun o => rD (ps.headD 0) o) (fun o => W.d (sgD (.p true 1 (plc N (ps.headD 0) o) o 1 ps l))) trivial _ (fun o ho Q hQ => ?_) (by omega) ?_
      · show wTup _ xq0 [_, _, _, _, _, _, some (.d (rD (ps.headD 0) o))] M Q
        walk_at "dl2"
        exact hQ
      rw [allD_f]
      refine ⟨_, Sub.refl _, ?_⟩
      simp only [oppP, List.map_map] at k
      exact k
    · rw [if_neg (by decide +kernel)]
      subst hκ
      refine wSeq_i fun κ hκ => ?_
      walk_at "dl2"
      refine ⟨hshr true, hshr true, ?_⟩
      rw [if_pos (by decide +kernel)]
      refine ⟨N, ps, l, rfl, hN, hg, ?_⟩
      dsimp only
      rw [List.map_map]
      refine lc_m (W.d ∘ fun o => rD (ps.headD 0) o) (fun o => W.d (sgD (.p false 1 (plc N (ps.headD 0) o) o 1 ps l))) trivial _ (fun o ho Q hQ => ?_) (by omega) ?_
      · show wTup _ xq0 [_, _, _, _, _, _, some (.d (rD (ps.headD 0) o))] M Q
        walk_at "dl2"
        exact hQ
      rw [allD_f]
      refine ⟨_, Sub.refl _, ?_⟩
      simp only [oppP, List.map_map] at k
      exact k
end DL
namespace DL
open PySem PySem.Spec PyProof.Rows L2
local macro_rules | `(tactic| walk_at "dl2") => `(tactic| simp only [wAsg, wOp, wVar, wC, wgN, wgTup, wgCons, wgNil, wgSub, setW, wIf, wTest, wNext, wRet, wRetN, wDrop, wAndT, wOrT, wNotT, wAndV, wOrV, wNotV, wIfE, wNeg, wNil, wCons, wTup, wTupR, wLst, wBlt, wCall, wFrz, wFz, frz, wSl, wNoP, wSoP, wPar2, wPar3, wMethL, mAppend, isLst,
  wRev, wInR, wLenSet, bStr, bMax2, bMin2, wChain, wLc, wipeW, wYes, xq0, mkL, mkT, allD, allD_map, seeL, seeD, seeT, seeS, ownL, oIx, ixW, oAdd, oSub, oMul, oMod, oDiv, oPow, oLt, oLe, oGt, oGe, oB, isInts, oEq, oIsN, isNon, oIsB, oIn, oCat, oRep, bLen, bInt, bAbs, bList, bTuple, seeA, bSum, bInts, bAll, bAny, bBools, bIsi, tyName, bReprS,
  wFor, iR1, iR2, iS, iE, iEB, enW, iZ, stL, startD, dEnds, fin, at0, at1, at2, at3, at4, atm1, atm1', ix40, ix41, ix42, ix43, eqv_int, eqv_none_int, eqv_int_none, eqv_none, eqv_lnil, eqv_tnil, eqv_str, sh_int, sh_none, sh_bool, sh_ints, sh_nil, sh_tints, sh_tnil,
  kit_NoneType_bool, kit_NoneType_int, kit_NoneType_str, kit_NoneType_list, kit_NoneType_tuple, kit_bool_bool, kit_bool_int, kit_bool_str, kit_bool_list, kit_bool_tuple, kit_int_bool, kit_int_int, kit_int_str, kit_int_list, kit_int_tuple, kit_str_bool, kit_str_int, kit_str_str, kit_str_list, kit_str_tuple,
  kit_list_bool, kit_list_int, kit_list_str, kit_list_list, kit_list_tuple, kit_tuple_bool, kit_tuple_int, kit_tuple_str, kit_tuple_list, kit_tuple_tuple, kit_dict_bool, kit_dict_int, kit_dict_str, kit_dict_list, kit_dict_tuple,
  List.map_cons, List.map_nil, List.length_cons, List.length_nil, List.length_map, List.replicate, List.cons_append, List.nil_append, List.getElem?_cons_zero, List.getElem?_cons_succ, List.set_cons_zero, List.set_cons_succ, List.isEmpty_map,
  Bool.false_eq_true, reduceCtorEq, Nat.reduceAdd, Nat.reduceSub, Nat.reduceLeDiff, Option.map_some, Option.bind_some, true_and, and_true, decide_eq_true_eq, Bool.not_eq_true', Bool.not_true, Bool.not_false, decide_eq_false_iff_not, if_true, if_false, ite_true, ite_false, reduceIte, mset_same, cut_map, allD_f, allD_app, allD_rev, rep_map, Option.map_none, wSortK, bSorted, wMinD, bMinL, mExtend, iZA])
def w__law_sight (sp__law_one : DSp) (sp__law_route : DSp) (sp__law_draw : DSp) : WS := (wSeq (wPar2 2 3 (wCons (wCall sp__law_one (wCons (wVar 0) (wCons (wLst false (wCons (wC (.d (.str "one"))) (wCons (wC (.d (.str "one"))) (wCons (wC (.d (.str "only"))) (wCons (wC (.d (.str "most"))) (wCons (wC (.d (.str "less"))) wNil)))))) wNil))) (wCons (wCall sp__law_route (wCons (wVar 0) (wCons (wVar 1) wNil))) wNil)))
    (wSeq (wIf (wTest (wOp (oIn false) (wVar 2) (wTup (wCons (wC (.d (.str "one"))) (wCons (wC (.d (.str "only"))) wNil))))) (wRet (wTup (wCons (wVar 2) (wCons (wVar 3) wNil)))) wNext)
    (wSeq (wAsg (wLst false (wCons (wC (.d (.int 1))) (wCons (wC (.d (.int 1))) (wCons (wC (.d (.int 1))) (wCons (wC (.d (.int 2))) (wCons (wC (.d (.int 3))) (wCons (wOp oAdd (wC (.d (.int 1))) (wCall sp__law_draw (wCons (wVar 0) (wCons (wC (.d (.int 9))) wNil)))) (wCons (wCall sp__law_one (wCons (wVar 0) (wCons (wLst false (wCons (wOp oPow (wC (.d (.int 10))) (wC (.d (.int 6)))) (wCons (wOp oAdd (wC (.d (.int 1))) (wCall sp__law_draw (wCons (wVar 0) (wCons (wOp oPow (wC (.d (.int 10))) (wC (.d (.int 6)))) wNil)))) wNil))) wNil))) wNil)))))))) (wgN 4))
    (wRet (wTup (wCons (wVar 2) (wCons (wCall sp__law_one (wCons (wVar 0) (wCons (wVar 4) wNil))) (wCons (wVar 3) (wCons (wCall sp__law_one (wCons (wVar 0) (wCons (wVar 4) wNil))) (wCons (wCall sp__law_route (wCons (wVar 0) (wCons (wVar 1) wNil))) wNil))))))))))
/-! ### drawn sights -/
def sp__law_sight : DSp := fun ws M R xr => ∃ (a : Addr) (c : Int) (N : Net), ws = [.r (.ref a), .d N.d] ∧ N.Ok ∧ Dk M a c ∧ c < 890000000 ∧
  ∀ (g : Sg) M', SgOk N g → Dk M' a (c + 100) → Kp a M M' → R (.d (sgD g)) M'
theorem pure__law_sight (ws : List W) (M : MM) (R : KW) (xr : XR) (h : sp__law_sight ws M R xr) : w__law_sight sp__law_one sp__law_route sp__law_draw (dEnds R xr) (startD ["_law_deck_here", "_law_net_here", "_law_word", "_law_route_here", "_law_some"] ws) M := by
  obtain ⟨a, c, N, rfl, hN, hD, hc, k⟩ := h
  unfold w__law_sight
  refine wSeq_i fun κ hκ => ?_
  walk_at "dl2"
  refine ⟨a, c, _, _, rfl, .inr rfl, fun e => (by cases e), (by show 5 < 1073741824; decide), hD, by omega, fun d M1 hd hD1 hF1 => ?_⟩
  refine ⟨a, c + 1, N, rfl, hN, hD1, by omega, fun ps l M2 hR hl6 hD2 hK2 => ?_⟩
  have hK : Kp a M M2 := (Kp.refl.off hF1).trans hK2
  simp only [List.mem_cons, List.not_mem_nil, or_false] at hd
  have hw : (∃ b, d = .str (rWord b)) ∨ ∃ b, d = .str (pWord b) := by
    rcases hd with rfl | rfl | rfl | rfl | rfl
    · exact .inl ⟨false, rfl⟩
    · exact .inl ⟨false, rfl⟩
    · exact .inl ⟨true, rfl⟩
    · exact .inr ⟨false, rfl⟩
    · exact .inr ⟨true, rfl⟩
  subst hκ
  refine wSeq_i fun κ hκ => ?_
  rcases hw with ⟨b, rfl⟩ | ⟨b, rfl⟩
  · walk_at "dl2"
    have e1 : ([PyData.str "one", PyData.str "only"].any fun z => PyData.eqv z (.str (rWord b))) = true := by
      simp only [List.any_cons, List.any_nil, eqv_str]
      cases b <;> decide +kernel
    refine ⟨rfl, rfl, ?_⟩
    rw [if_pos e1]
    exact ⟨_, Sub.refl _, k (.r b ps l) M2 hR (hD2.le (by omega)) hK⟩
  · walk_at "dl2"
    have e1 : ([PyData.str "one", PyData.str "only"].any fun z => PyData.eqv z (.str (pWord b))) = false := by
      simp only [List.any_cons, List.any_nil, eqv_str]
      cases b <;> decide +kernel
    refine ⟨rfl, rfl, ?_⟩
    rw [if_neg (by rw [e1]; decide)]
    subst hκ
    refine wSeq_i fun κ hκ => ?_
    walk_at "dl2"
    refine ⟨a, c + 1 + 20, 9, rfl, hD2, by omega, by decide, by decide, fun j M3 j0 j1 hD3 hF3 => ?_⟩
    refine ⟨⟨by decide, by decide, by decide⟩, ⟨by decide, by decide, by decide⟩, a, c + 1 + 20 + 1, _, rfl, hD3, by omega, by decide, by decide, fun q M4 q0 q1 hD4 hF4 => ?_⟩
    refine ⟨a, c + 1 + 20 + 1 + 1, _, _, rfl, .inr rfl, fun e => (by cases e), (by show 2 < 1073741824; decide), hD4, by omega, fun d5 M5 hd5 hD5 hF5 => ?_⟩
    have q1' : q < 1000000 := q1
    obtain ⟨v5, rfl, v50, v51⟩ : ∃ v, d5 = .int v ∧ 1 ≤ v ∧ v ≤ 1000000 := by
      simp only [List.mem_cons, List.not_mem_nil, or_false] at hd5
      rcases hd5 with rfl | rfl
      · exact ⟨_, rfl, by decide, by decide⟩
      · exact ⟨_, rfl, by omega, by omega⟩
    have hK5 : Kp a M M5 := (((hK.off hF3).off hF4).off hF5)
    have hsome : ∀ d ∈ [PyData.int 1, .int 1, .int 1, .int 2, .int 3, .int (1 + j), .int v5], ∃ v, d = .int v ∧ 1 ≤ v ∧ v ≤ 1000000 := fun d hd => by
      simp only [List.mem_cons, List.not_mem_nil, or_false] at hd
      rcases hd with rfl | rfl | rfl | rfl | rfl | rfl | rfl <;> exact ⟨_, rfl, by omega, by omega⟩
    show κ _ _
    subst hκ
    walk_at "dl2"
    refine ⟨a, c + 1 + 20 + 1 + 1 + 1, _, _, rfl, .inr rfl, fun e => (by cases e), (by show 7 < 1073741824; decide), hD5, by omega, fun d6 M6 hd6 hD6 hF6 => ?_⟩
    obtain ⟨t1, rfl, t10, t11⟩ := hsome d6 hd6
    refine ⟨a, c + 1 + 20 + 1 + 1 + 1 + 1, _, _, rfl, .inr rfl, fun e => (by cases e), (by show 7 < 1073741824; decide), hD6, by omega, fun d7 M7 hd7 hD7 hF7 => ?_⟩
    obtain ⟨t2, rfl, t20, t21⟩ := hsome d7 hd7
    refine ⟨a, c + 1 + 20 + 1 + 1 + 1 + 1 + 1, N, rfl, hN, hD7, by omega, fun qs l2 M8 hR2 hl62 hD8 hK8 => ?_⟩
    exact ⟨_, Sub.refl _, k (.p b t1 ps l t2 qs l2) M8 ⟨hR, hR2, t10, by omega, t20, by omega⟩ (hD8.le (by omega)) (((hK5.off hF6).off hF7).trans hK8)⟩
/-- a route is told by its start and the set of its lines -/
theorem same_route {N : Net} (hN : N.Ok) : ∀ {l k : List Nat} {s : Int} {ps qs : List Int}, Pth N.ls (s :: ps) l → (s :: ps).Nodup → Pth N.ls (s :: qs) k → (s :: qs).Nodup → (∀ x, x ∈ l ↔ x ∈ k) → l = k
  | [], k, s, ps, qs, _, _, _, _, hm => by
    cases k with
    | nil => rfl
    | cons b k => exact absurd ((hm b).mpr List.mem_cons_self) (fun h => nomatch h)
  | a :: l, k, s, ps, qs, h1, n1, h2, n2, hm => by
    have d1 := h1.nodup hN n1
    have d2 := h2.nodup hN n2
    cases k with
    | nil => exact absurd ((hm a).mp List.mem_cons_self) (fun h => nomatch h)
    | cons b k =>
      cases h1 with
      | more e1 h1 =>
        cases h2 with
        | more e2 h2 =>
          have hab : a = b := by
            rcases List.mem_cons.mp ((hm a).mp List.mem_cons_self) with h | h
            · exact h
            · exact absurd (h2.ends hN a h _ _ e1) (List.nodup_cons.mp n2).1
          subst hab
          rw [e1] at e2
          cases e2
          have := same_route hN h1 (List.nodup_cons.mp n1).2 h2 (List.nodup_cons.mp n2).2 fun x => by
            constructor
            · intro hx
              rcases List.mem_cons.mp ((hm x).mp (List.mem_cons_of_mem _ hx)) with rfl | h
              · exact absurd hx (List.nodup_cons.mp d1).1
              · exact h
            · intro hx
              rcases List.mem_cons.mp ((hm x).mpr (List.mem_cons_of_mem _ hx)) with rfl | h
              · exact absurd hx (List.nodup_cons.mp d2).1
              · exact h
          rw [this]
end DL
namespace DL
open PySem PySem.Spec PyProof.Rows L2
local macro_rules | `(tactic| walk_at "dl2") => `(tactic| simp only [wAsg, wOp, wVar, wC, wgN, wgTup, wgCons, wgNil, wgSub, setW, wIf, wTest, wNext, wRet, wRetN, wDrop, wAndT, wOrT, wNotT, wAndV, wOrV, wNotV, wIfE, wNeg, wNil, wCons, wTup, wTupR, wLst, wBlt, wCall, wFrz, wFz, frz, wSl, wNoP, wSoP, wPar2, wPar3, wMethL, mAppend, isLst,
  wRev, wInR, wLenSet, bStr, bMax2, bMin2, wChain, wLc, wipeW, wYes, xq0, mkL, mkT, allD, allD_map, seeL, seeD, seeT, seeS, ownL, oIx, ixW, oAdd, oSub, oMul, oMod, oDiv, oPow, oLt, oLe, oGt, oGe, oB, isInts, oEq, oIsN, isNon, oIsB, oIn, oCat, oRep, bLen, bInt, bAbs, bList, bTuple, seeA, bSum, bInts, bAll, bAny, bBools, bIsi, tyName, bReprS,
  wFor, iR1, iR2, iS, iE, iEB, enW, iZ, stL, startD, dEnds, fin, at0, at1, at2, at3, at4, atm1, atm1', ix40, ix41, ix42, ix43, eqv_int, eqv_none_int, eqv_int_none, eqv_none, eqv_lnil, eqv_tnil, eqv_str, sh_int, sh_none, sh_bool, sh_ints, sh_nil, sh_tints, sh_tnil,
  kit_NoneType_bool, kit_NoneType_int, kit_NoneType_str, kit_NoneType_list, kit_NoneType_tuple, kit_bool_bool, kit_bool_int, kit_bool_str, kit_bool_list, kit_bool_tuple, kit_int_bool, kit_int_int, kit_int_str, kit_int_list, kit_int_tuple, kit_str_bool, kit_str_int, kit_str_str, kit_str_list, kit_str_tuple,
  kit_list_bool, kit_list_int, kit_list_str, kit_list_list, kit_list_tuple, kit_tuple_bool, kit_tuple_int, kit_tuple_str, kit_tuple_list, kit_tuple_tuple, kit_dict_bool, kit_dict_int, kit_dict_str, kit_dict_list, kit_dict_tuple,
  List.map_cons, List.map_nil, List.length_cons, List.length_nil, List.length_map, List.replicate, List.cons_append, List.nil_append, List.getElem?_cons_zero, List.getElem?_cons_succ, List.set_cons_zero, List.set_cons_succ, List.isEmpty_map,
  Bool.false_eq_true, reduceCtorEq, Nat.reduceAdd, Nat.reduceSub, Nat.reduceLeDiff, Option.map_some, Option.bind_some, true_and, and_true, decide_eq_true_eq, Bool.not_eq_true', Bool.not_true, Bool.not_false, decide_eq_false_iff_not, if_true, if_false, ite_true, ite_false, reduceIte, mset_same, cut_map, allD_f, allD_app, allD_rev, rep_map, Option.map_none, wSortK, bSorted, wMinD, bMinL, mExtend, iZA])
/-! ### sights and their opposites at lengths -/
theorem Rt.ne2 {N : Net} {ps : List Int} {l : List Nat} (h : Rt N ps l) : ps.headD 0 ≠ ps.reverse.headD 0 := by
  obtain ⟨hp, nd, hne⟩ := h
  cases hp with
  | one => exact absurd rfl hne
  | more h1 h2 =>
    rename_i s q l qs lns
    rw [List.headD_eq_head?_getD, List.headD_eq_head?_getD, List.head?_reverse, List.getLast?_eq_some_getLast (List.cons_ne_nil _ _)]
    show s ≠ (s :: q :: qs).getLast (List.cons_ne_nil _ _)
    rw [List.getLast_cons (List.cons_ne_nil _ _)]
    exact fun z => (List.nodup_cons.mp nd).1 (by rw [z]; exact List.getLast_mem _)
theorem Rt.in_routes {N : Net} (hN : N.Ok) {ps : List Int} {l : List Nat} (h : Rt N ps l) : l ∈ routesP N (ps.headD 0) (ps.reverse.headD 0) := by
  obtain ⟨s0, s1⟩ := h.rng hN
  obtain ⟨s, qs, rfl, _⟩ := h.shape
  refine (routes_mem hN s0 s1).mpr ⟨qs, h.pth, ?_, h.nd⟩
  rw [List.headD_eq_head?_getD (l := (s :: qs).reverse), List.head?_reverse, List.getLast?_eq_some_getLast (List.cons_ne_nil _ _)]; rfl
theorem plc_rt {N : Net} (hN : N.Ok) {s e : Int} (s0 : 0 ≤ s) (s1 : s < N.p) (hse : s ≠ e) {o : List Nat} (h : o ∈ routesP N s e) : Rt N (plc N s o) o ∧ (plc N s o).headD 0 = s ∧ (plc N s o).reverse.headD 0 = e := by
  obtain ⟨ps, h1, h2⟩ := routes_rt hN s0 s1 hse h
  rw [plc_eq h1.pth]
  exact ⟨h1, rfl, h2⟩
theorem others_mem {N : Net} {s e : Int} {l o : List Nat} : o ∈ othersP N s e l ↔ o ∈ routesP N s e ∧ sameL l o = false := by
  unfold othersP
  rw [List.mem_filter, Bool.not_eq_true']
theorem opp_ok {N : Net} (hN : N.Ok) {g : Sg} (hg : SgOk N g) : ∀ h ∈ oppP N g, SgOk N h := fun h hh => by
  cases g with
  | p less t ps l m qs k =>
    cases List.mem_singleton.mp hh
    obtain ⟨a, b, c, d, e, f⟩ := hg
    exact ⟨b, a, e, f, c, d⟩
  | r only ps l =>
    obtain ⟨o, ho, rfl⟩ := List.mem_map.mp hh
    obtain ⟨s0, s1⟩ := hg.rng hN
    exact ⟨(plc_rt hN s0 s1 hg.ne2 (others_mem.mp ho).1).1, hg, by decide, by decide, by decide, by decide⟩
/-- of two routes of the same lines from one place to another the one is the other -/
theorem same_eq {N : Net} (hN : N.Ok) {s e : Int} (s0 : 0 ≤ s) (s1 : s < N.p) {l o : List Nat} (hl : l ∈ routesP N s e) (ho : o ∈ routesP N s e) (h : sameL l o = true) : l = o := by
  obtain ⟨ps, a1, a2, a3⟩ := (routes_mem hN s0 s1).mp hl
  obtain ⟨qs, b1, b2, b3⟩ := (routes_mem hN s0 s1).mp ho
  exact same_route hN a1 a3 b1 b3 ((sameL_iff _ _).mp h)
theorem sameL_refl (l : List Nat) : sameL l l = true := (sameL_iff l l).mpr fun _ => Iff.rfl
theorem others_eq {N : Net} (hN : N.Ok) {s e : Int} (s0 : 0 ≤ s) (s1 : s < N.p) {l : List Nat} (hl : l ∈ routesP N s e) : othersP N s e l = (routesP N s e).filter fun o => !decide (o = l) := by
  unfold othersP
  refine List.filter_congr fun o ho => ?_
  congr 1
  rw [Bool.eq_iff_iff, decide_eq_true_iff]
  exact ⟨fun h => (same_eq hN s0 s1 hl ho h).symm, fun h => by rw [h]; exact sameL_refl _⟩
theorem filter_ne_len {α : Type} [DecidableEq α] {x : α} : ∀ {L : List α}, L.Nodup → x ∈ L → (L.filter fun o => !decide (o = x)).length + 1 = L.length
  | a :: r, nd, hx => by
    obtain ⟨n1, n2⟩ := List.nodup_cons.mp nd
    by_cases h : a = x
    · subst h
      have : r.filter (fun o => !decide (o = a)) = r := List.filter_eq_self.mpr fun o ho => by
        rw [decide_eq_false (fun z : o = a => n1 (z ▸ ho))]; rfl
      rw [List.filter_cons, decide_eq_true rfl, this]; rfl
    · rw [List.filter_cons, decide_eq_false h]
      have := filter_ne_len n2 ((List.mem_cons.mp hx).resolve_left fun z => h z.symm)
      simp only [Bool.not_false, if_true, List.length_cons]
      omega
theorem others_len {N : Net} (hN : N.Ok) {s e : Int} (s0 : 0 ≤ s) (s1 : s < N.p) {l : List Nat} (hl : l ∈ routesP N s e) : (othersP N s e l).length + 1 = (routesP N s e).length := by
  rw [others_eq hN s0 s1 hl]
  exact filter_ne_len (routes_nodup _ _ _) hl
theorem find_none {α : Type} {p : α → Bool} {L : List α} : (L.find? p).isNone = L.all fun x => !p x := by
  induction L with
  | nil => rfl
  | cons a r ih =>
    rw [List.find?_cons, List.all_cons]
    cases h : p a with
    | true => rfl
    | false => rw [ih]; rfl
/-- is a sight so? -/
def soP (N : Net) (xs : List Int) (g : Sg) : Bool := (againstP N xs g).isNone
theorem soP_p {N : Net} {xs : List Int} {less : Bool} {t m : Int} {ps qs : List Int} {l k : List Nat} : soP N xs (.p less t ps l m qs k) = true ↔ ¬ (t * lenP xs l - m * lenP xs k > 0 ∨ (t * lenP xs l - m * lenP xs k = 0 ∧ less = true)) := by
  unfold soP againstP
  dsimp only
  by_cases h : t * lenP xs l - m * lenP xs k > 0 ∨ (t * lenP xs l - m * lenP xs k = 0 ∧ less = true)
  · rw [if_pos h]
    exact ⟨fun z => (nomatch z), fun z => absurd h z⟩
  · rw [if_neg h]
    exact ⟨fun _ => h, fun _ => rfl⟩
theorem shows_iff {xs : List Int} {only : Bool} {l o : List Nat} : shows xs only l o = true ↔ lenP xs o < lenP xs l ∨ (lenP xs o = lenP xs l ∧ only = true) := by
  unfold shows
  rw [Bool.or_eq_true, Bool.and_eq_true, decide_eq_true_iff, decide_eq_true_iff]
theorem soP_r {N : Net} {xs : List Int} {only : Bool} {ps : List Int} {l : List Nat} : soP N xs (.r only ps l) = (othersP N (ps.headD 0) (ps.reverse.headD 0) l).all fun o => !shows xs only l o := by
  unfold soP againstP
  rw [Option.isNone_map, find_none]
/-- the opposite of a sight of one route by another one -/
theorem so_opp_r {N : Net} {xs : List Int} {only : Bool} {ps qs : List Int} {l o : List Nat} : soP N xs (.p (!only) 1 qs o 1 ps l) = shows xs only l o := by
  rw [Bool.eq_iff_iff, soP_p, shows_iff]
  cases only <;> simp <;> omega
theorem so_opp {N : Net} {xs : List Int} (g : Sg) : soP N xs g = (oppP N g).all fun h => !soP N xs h := by
  cases g with
  | p less t ps l m qs k =>
    show _ = ([Sg.p (!less) m qs k t ps l].all fun h => !soP N xs h)
    rw [List.all_cons, List.all_nil, Bool.and_true, Bool.eq_iff_iff, Bool.not_eq_true', ← Bool.not_eq_true, soP_p, soP_p]
    cases less <;> simp <;> omega
  | r only ps l =>
    rw [soP_r]
    show _ = (((othersP N (ps.headD 0) (ps.reverse.headD 0) l).map fun o => Sg.p (!only) 1 (plc N (ps.headD 0) o) o 1 ps l).all fun h => !soP N xs h)
    rw [List.all_map]
    congr 1
    funext o
    show _ = !soP N xs (.p (!only) 1 (plc N (ps.headD 0) o) o 1 ps l)
    rw [so_opp_r]
theorem unfit_none {N : Net} {xs : List Int} : ∀ (gs : List Sg) (n : Nat), (unfitP N xs n gs).isNone = gs.all (soP N xs)
  | [], _ => rfl
  | g :: r, n => by
    rw [unfitP, List.all_cons]
    unfold soP
    cases againstP N xs g with
    | some x => rfl
    | none => rw [Option.isNone_none, Bool.true_and]; exact unfit_none r (n + 1)
theorem eqv_bool (a b : Bool) : PyData.eqv (.bool a) (.bool b) = (a == b) := by
  rw [PyData.eqv]
theorem rp_bool (b : Bool) : Rp 0 5 (.bool b) := by
  cases b <;> exact ⟨by decide +kernel, by decide +kernel, by decide +kernel, by decide +kernel⟩
theorem flat_bools {α : Type} (f : α → Bool) (xs : List α) : (xs.map fun x => PyData.bool (f x)).all flatD = true := by
  rw [List.all_map]; exact List.all_eq_true.mpr fun _ _ => rfl
theorem any_bools {α : Type} (f : α → Bool) (xs : List α) : ((xs.map fun x => PyData.bool (f x)).any fun z => PyData.eqv z (.bool true)) = xs.any f := by
  rw [List.any_map]
  congr 1
  funext x
  show PyData.eqv (.bool (f x)) (.bool true) = _
  rw [eqv_bool]
  cases f x <;> rfl
theorem rp_pWord (b : Bool) : Rp 0 100 (.str (pWord b)) := by
  cases b <;> exact ⟨by decide +kernel, by decide +kernel, by decide +kernel, by decide +kernel⟩
theorem rp_rWord (b : Bool) : Rp 0 100 (.str (rWord b)) := by
  cases b <;> exact ⟨by decide +kernel, by decide +kernel, by decide +kernel, by decide +kernel⟩
theorem rp_rt {N : Net} (hN : N.Ok) {ps : List Int} {l : List Nat} (h : Rt N ps l) : Rp 2 60 (rD (ps.headD 0) l) := by
  obtain ⟨s0, s1⟩ := h.rng hN
  obtain ⟨a, b⟩ := rt_le hN h s0 s1
  have hp6 := hN.p6
  have hl8 := hN.l8
  exact rp_rD s0 (by omega) (by omega) fun z hz => by have := b z hz; omega
theorem rp_sg {N : Net} (hN : N.Ok) {g : Sg} (hg : SgOk N g) : Rp 3 10000 (sgD g) := by
  cases g with
  | r only ps l => exact (rp_pair ((rp_rWord only).mono (by decide) (by decide)) ((rp_rt hN hg).mono (Nat.le_refl 2) (show 60 ≤ 100 by decide))).mono (by decide) (by decide)
  | p less t ps l m qs k =>
    obtain ⟨a, b, c, d, e, f⟩ := hg
    refine (Rp.tuple' (k := 2) (n := 1921) (m := 5) (ds := [.str (pWord less), .int t, rD (ps.headD 0) l, .int m, rD (qs.headD 0) k]) (fun x hx => ?_) (Nat.le_refl 5)).mono (by decide) (by decide)
    simp only [List.mem_cons, List.not_mem_nil, or_false] at hx
    rcases hx with rfl | rfl | rfl | rfl | rfl
    · exact (rp_pWord less).mono (by decide) (by decide)
    · exact (rp_small (by omega) (by omega)).mono (by decide) (by decide)
    · exact (rp_rt hN a).mono (by decide) (by decide)
    · exact (rp_small (by omega) (by omega)).mono (by decide) (by decide)
    · exact (rp_rt hN b).mono (by decide) (by decide)
theorem rp_sgs {N : Net} (hN : N.Ok) {gs : List Sg} (h : ∀ g ∈ gs, SgOk N g) : ∀ d ∈ gs.map sgD, Rp 3 10000 d := fun d hd => by
  obtain ⟨g, hg, rfl⟩ := List.mem_map.mp hd
  exact rp_sg hN (h g hg)
theorem sh_sgs {N : Net} (hN : N.Ok) {gs : List Sg} (h : ∀ g ∈ gs, SgOk N g) : SeqAt.shaped (.tuple (gs.map sgD)) = true := Sh.ok (Sh.tuple (n := 3) fun d hd => by
  have rr := rp_sgs hN h d hd
  exact ⟨rr.cl, rr.dp⟩) (by decide)
theorem so_scale {N : Net} {xs : List Int} {t : Int} (ht : 1 ≤ t) (g : Sg) : soP N (xs.map (t * ·)) g = soP N xs g := by
  have hlt : ∀ {u v : Int}, t * u < t * v ↔ u < v := fun {u v} => ⟨fun h => Int.lt_of_mul_lt_mul_left h (by omega), fun h => Int.mul_lt_mul_of_pos_left h (by omega)⟩
  have heq : ∀ {u v : Int}, t * u = t * v ↔ u = v := fun {u v} => ⟨fun h => Int.eq_of_mul_eq_mul_left (by omega) h, fun h => by rw [h]⟩
  cases g with
  | p less t' ps l m qs k =>
    rw [Bool.eq_iff_iff, soP_p, soP_p]
    simp only [lenP_scale]
    have e1 : t' * (t * lenP xs l) - m * (t * lenP xs k) = t * (t' * lenP xs l - m * lenP xs k) := by rw [Int.mul_sub, Int.mul_left_comm, Int.mul_left_comm m]
    rw [e1]
    have e2 := hlt (u := 0) (v := t' * lenP xs l - m * lenP xs k)
    have e3 := heq (u := t' * lenP xs l - m * lenP xs k) (v := 0)
    rw [Int.mul_zero] at e2 e3
    rw [gt_iff_lt, e2, e3, gt_iff_lt]
  | r only ps l =>
    rw [soP_r, soP_r]
    congr 1
    funext o
    congr 1
    rw [Bool.eq_iff_iff, shows_iff, shows_iff]
    simp only [lenP_scale, hlt, heq]
end DL
namespace DL
open PySem PySem.Spec PyProof.Rows L2
local macro_rules | `(tactic| walk_at "dl2") => `(tactic| simp only [wAsg, wOp, wVar, wC, wgN, wgTup, wgCons, wgNil, wgSub, setW, wIf, wTest, wNext, wRet, wRetN, wDrop, wAndT, wOrT, wNotT, wAndV, wOrV, wNotV, wIfE, wNeg, wNil, wCons, wTup, wTupR, wLst, wBlt, wCall, wFrz, wFz, frz, wSl, wNoP, wSoP, wPar2, wPar3, wMethL, mAppend, isLst,
  wRev, wInR, wLenSet, bStr, bMax2, bMin2, wChain, wLc, wipeW, wYes, xq0, mkL, mkT, allD, allD_map, seeL, seeD, seeT, seeS, ownL, oIx, ixW, oAdd, oSub, oMul, oMod, oDiv, oPow, oLt, oLe, oGt, oGe, oB, isInts, oEq, oIsN, isNon, oIsB, oIn, oCat, oRep, bLen, bInt, bAbs, bList, bTuple, seeA, bSum, bInts, bAll, bAny, bBools, bIsi, tyName, bReprS,
  wFor, iR1, iR2, iS, iE, iEB, enW, iZ, stL, startD, dEnds, fin, at0, at1, at2, at3, at4, atm1, atm1', ix40, ix41, ix42, ix43, eqv_int, eqv_none_int, eqv_int_none, eqv_none, eqv_lnil, eqv_tnil, eqv_str, sh_int, sh_none, sh_bool, sh_ints, sh_nil, sh_tints, sh_tnil,
  kit_NoneType_bool, kit_NoneType_int, kit_NoneType_str, kit_NoneType_list, kit_NoneType_tuple, kit_bool_bool, kit_bool_int, kit_bool_str, kit_bool_list, kit_bool_tuple, kit_int_bool, kit_int_int, kit_int_str, kit_int_list, kit_int_tuple, kit_str_bool, kit_str_int, kit_str_str, kit_str_list, kit_str_tuple,
  kit_list_bool, kit_list_int, kit_list_str, kit_list_list, kit_list_tuple, kit_tuple_bool, kit_tuple_int, kit_tuple_str, kit_tuple_list, kit_tuple_tuple, kit_dict_bool, kit_dict_int, kit_dict_str, kit_dict_list, kit_dict_tuple,
  List.map_cons, List.map_nil, List.length_cons, List.length_nil, List.length_map, List.replicate, List.cons_append, List.nil_append, List.getElem?_cons_zero, List.getElem?_cons_succ, List.set_cons_zero, List.set_cons_succ, List.isEmpty_map,
  Bool.false_eq_true, reduceCtorEq, Nat.reduceAdd, Nat.reduceSub, Nat.reduceLeDiff, Option.map_some, Option.bind_some, true_and, and_true, decide_eq_true_eq, Bool.not_eq_true', Bool.not_true, Bool.not_false, decide_eq_false_iff_not, if_true, if_false, ite_true, ite_false, reduceIte, mset_same, cut_map, allD_f, allD_app, allD_rev, rep_map, Option.map_none, wSortK, bSorted, wMinD, bMinL, mExtend, iZA])
abbrev c_ROUTE_WORDS : PyData := .tuple (([ "one", "only" ] : List Str).map PyData.str)
def w_is_sight (sp_is_route : DSp) (sp_is_integer : DSp) : WS := (wSeq (wIf (wOrT (wNotT (wTest (wBlt bIsi (wCons (wVar 1) (wCons (wC (.r (.ty "tuple"))) wNil))))) (wOrT (wTest (wOp (oIn true) (wBlt bLen (wCons (wVar 1) wNil)) (wTup (wCons (wC (.d (.int 2))) (wCons (wC (.d (.int 5))) wNil))))) (wNotT (wTest (wBlt bIsi (wCons (wOp oIx (wVar 1) (wC (.d (.int 0)))) (wCons (wC (.r (.ty "str"))) wNil))))))) (wRet (wC (.d (.bool false)))) wNext)
    (wSeq (wIf (wTest (wOp (oEq false) (wBlt bLen (wCons (wVar 1) wNil)) (wC (.d (.int 2))))) (wRet (wAndV (wOp (oIn false) (wOp oIx (wVar 1) (wC (.d (.int 0)))) (wC (.d c_ROUTE_WORDS))) (wCall sp_is_route (wCons (wVar 0) (wCons (wOp oIx (wVar 1) (wC (.d (.int 1)))) wNil))))) wNext)
    (wSeq (wAsg (wVar 1) (wgTup 5 (wgCons (wgN 2) (wgCons (wgN 3) (wgCons (wgN 4) (wgCons (wgN 5) (wgCons (wgN 6) wgNil)))))))
    (wSeq (wIf (wOrT (wTest (wOp (oIn true) (wVar 2) (wC (.d c_PAIR_WORDS)))) (wOrT (wNotT (wTest (wCall sp_is_integer (wCons (wVar 3) (wCons (wC (.d (.int 1))) wNil))))) (wNotT (wTest (wCall sp_is_integer (wCons (wVar 5) (wCons (wC (.d (.int 1))) wNil))))))) (wRet (wC (.d (.bool false)))) wNext)
    (wRet (wAndV (wCall sp_is_route (wCons (wVar 0) (wCons (wVar 4) wNil))) (wCall sp_is_route (wCons (wVar 0) (wCons (wVar 6) wNil)))))))))
def w_are_sights (sp_is_sight : DSp) : WS := (wRet (wAndV (wBlt bIsi (wCons (wVar 1) (wCons (wC (.r (.ty "tuple"))) wNil))) (wBlt bAll (wCons (wLc false (iS (wVar 1)) (wgN 2) wYes (wCall sp_is_sight (wCons (wVar 0) (wCons (wVar 2) wNil))) [2]) wNil))))
/-! ### is_sight of any value -/
def isWordR (w : Str) : Bool := decide (w = "one") || decide (w = "only")
def isWordP (w : Str) : Bool := decide (w = "most") || decide (w = "less")
def isSightD (N : Net) : PyData → Bool
  | .tuple [.str w, r] => isWordR w && isRouteD N r
  | .tuple [.str w, t, r, m, o] => (isWordP w && (isIntD t 1 && isIntD m 1)) && (isRouteD N r && isRouteD N o)
  | _ => false
theorem isSightD_2 (N : Net) (w : Str) (r : PyData) : isSightD N (.tuple [.str w, r]) = (isWordR w && isRouteD N r) := rfl
theorem isSightD_5 (N : Net) (w : Str) (t r m o : PyData) : isSightD N (.tuple [.str w, t, r, m, o]) = ((isWordP w && (isIntD t 1 && isIntD m 1)) && (isRouteD N r && isRouteD N o)) := rfl
/-- a value that is_sight may be asked of -/
def AskS (v : PyData) : Prop := ∀ ds, v = .tuple ds → ds.length ≤ 3000 ∧ ∀ d ∈ ds, AskOk d
def sp_is_sight : DSp := fun ws M R xr => ∃ (N : Net) (v : PyData), ws = [.d N.d, .d v] ∧ AskS v ∧ R (.d (.bool (isSightD N v))) M
theorem in_wordR (w : Str) : ([PyData.str "one", PyData.str "only"].any fun z => PyData.eqv z (.str w)) = isWordR w := by
  simp only [List.any_cons, List.any_nil, eqv_str, Bool.or_false]
  unfold isWordR
  rw [decide_eq_decide.mpr (eq_comm (a := Str.ofString "one") (b := w)), decide_eq_decide.mpr (eq_comm (a := Str.ofString "only") (b := w))]
theorem in_wordP (w : Str) : ([PyData.str "most", PyData.str "less"].any fun z => PyData.eqv z (.str w)) = isWordP w := by
  simp only [List.any_cons, List.any_nil, eqv_str, Bool.or_false]
  unfold isWordP
  rw [decide_eq_decide.mpr (eq_comm (a := Str.ofString "most") (b := w)), decide_eq_decide.mpr (eq_comm (a := Str.ofString "less") (b := w))]
theorem isSight_len {N : Net} {ds : List PyData} (h2 : ds.length ≠ 2) (h5 : ds.length ≠ 5) : isSightD N (.tuple ds) = false := by
  unfold isSightD
  split
  · rename_i e
    injection e with e
    rw [e] at h2; exact absurd rfl h2
  · rename_i e
    injection e with e
    rw [e] at h5; exact absurd rfl h5
  · rfl
theorem isSight_word {N : Net} {x : PyData} {ds : List PyData} (h : ∀ w, x ≠ .str w) : isSightD N (.tuple (x :: ds)) = false := by
  unfold isSightD
  split
  · rename_i e
    injection e with e
    injection e with e1 e2
    exact absurd e1 (h _)
  · rename_i e
    injection e with e
    injection e with e1 e2
    exact absurd e1 (h _)
  · rfl
theorem pure_is_sight (ws : List W) (M : MM) (R : KW) (xr : XR) (h : sp_is_sight ws M R xr) : w_is_sight sp_is_route sp_is_integer (dEnds R xr) (startD ["net", "value", "word", "times", "route", "more", "other"] ws) M := by
  obtain ⟨N, v, rfl, hv, k⟩ := h
  unfold w_is_sight
  refine wSeq_i fun κ hκ => ?_
  cases v <;> try (walk_at "dl2"; exact ⟨_, Sub.refl _, k⟩)
  rename_i ds
  obtain ⟨hl, hd⟩ := hv ds rfl
  walk_at "dl2"
  refine ⟨rfl, rfl, ?_⟩
  simp only [List.any_cons, List.any_nil, eqv_int, Bool.or_false]
  have no : (decide ((2 : Int) = ds.length) || decide ((5 : Int) = ds.length)) = false → isSightD N (.tuple ds) = false := fun h => by
    rw [Bool.or_eq_false_iff, decide_eq_false_iff_not, decide_eq_false_iff_not] at h
    exact isSight_len (by omega) (by omega)
  cases hlen : (decide ((2 : Int) = ds.length) || decide ((5 : Int) = ds.length)) with
  | false =>
    rw [no hlen] at k
    rw [if_pos rfl]
    exact ⟨_, Sub.refl _, k⟩
  | true =>
  rw [if_neg (by decide)]
  rw [Bool.or_eq_true, decide_eq_true_iff, decide_eq_true_iff] at hlen
  clear no
  obtain ⟨x, r, rfl⟩ : ∃ x r, ds = x :: r := by
    cases ds with
    | nil => simp at hlen
    | cons x r => exact ⟨_, _, rfl⟩
  rw [at0]
  by_cases hx : ∃ w, x = .str w
  rotate_left
  · rw [isSight_word fun w e => hx ⟨w, e⟩] at k
    cases x <;> first | (exact absurd ⟨_, rfl⟩ hx) | skip
    all_goals first
      | (walk_at "dl2"; exact ⟨_, Sub.refl _, k⟩)
      | exact ⟨_, Sub.refl _, k⟩
  obtain ⟨w, rfl⟩ := hx
  walk_at "dl2"
  rcases r with _ | ⟨y, _ | ⟨z, r⟩⟩
  · simp at hlen
  · -- one route
    subst hκ
    refine wSeq_i fun κ hκ => ?_
    walk_at "dl2"
    refine ⟨rfl, rfl, ?_⟩
    rw [in_wordR]
    rw [isSightD_2] at k
    cases hw : isWordR w with
    | false =>
      rw [hw] at k
      rw [if_neg (by decide)]
      exact ⟨_, Sub.refl _, k⟩
    | true =>
      rw [hw, Bool.true_and] at k
      rw [if_pos rfl]
      exact ⟨N, y, rfl, hd y (List.mem_cons_of_mem _ List.mem_cons_self), _, Sub.refl _, k⟩
  · rcases r with _ | ⟨u, _ | ⟨t, _ | ⟨q, r⟩⟩⟩
    · simp at hlen
    · simp at hlen
    rotate_left
    · simp only [List.length_cons] at hlen; omega
    rw [isSightD_5] at k
    subst hκ
    refine wSeq_i fun κ hκ => ?_
    walk_at "dl2"
    rw [if_neg (by decide)]
    subst hκ
    refine wSeq_i fun κ hκ => ?_
    walk_at "dl2"
    subst hκ
    refine wSeq_i fun κ hκ => ?_
    walk_at "dl2"
    refine ⟨rfl, rfl, ?_⟩
    rw [in_wordP]
    cases hw : isWordP w with
    | false =>
      rw [hw] at k
      exact ⟨_, Sub.refl _, k⟩
    | true =>
      rw [hw, Bool.true_and] at k
      rw [if_neg (by decide)]
      refine ⟨y, 1, rfl, ?_⟩
      dsimp only
      cases hy : isIntD y 1 with
      | false =>
        rw [hy] at k
        rw [if_pos rfl]
        exact ⟨_, Sub.refl _, k⟩
      | true =>
        rw [hy, Bool.true_and] at k
        rw [if_neg (by decide)]
        refine ⟨u, 1, rfl, ?_⟩
        dsimp only
        cases hu : isIntD u 1 with
        | false =>
          rw [hu] at k
          rw [if_pos rfl]
          exact ⟨_, Sub.refl _, k⟩
        | true =>
          rw [hu, Bool.true_and] at k
          rw [if_neg (by decide)]
          subst hκ
          walk_at "dl2"
          refine ⟨N, z, rfl, hd z (by simp), ?_⟩
          dsimp only
          cases hz : isRouteD N z with
          | false =>
            rw [hz] at k
            exact ⟨_, Sub.refl _, k⟩
          | true =>
            rw [hz, Bool.true_and] at k
            exact ⟨N, t, rfl, hd t (by simp), _, Sub.refl _, k⟩
def areSightsD (N : Net) : PyData → Bool
  | .tuple ds => ds.all (isSightD N)
  | _ => false
def sp_are_sights : DSp := fun ws M R xr => ∃ (N : Net) (v : PyData), ws = [.d N.d, .d v] ∧ (∀ ds, v = .tuple ds → ds.length ≤ 3000 ∧ ∀ d ∈ ds, AskS d) ∧ R (.d (.bool (areSightsD N v))) M
theorem pure_are_sights (ws : List W) (M : MM) (R : KW) (xr : XR) (h : sp_are_sights ws M R xr) : w_are_sights sp_is_sight (dEnds R xr) (startD ["net", "value", "sight"] ws) M := by
  obtain ⟨N, v, rfl, hv, k⟩ := h
  unfold w_are_sights
  cases v <;> try (walk_at "dl2"; exact ⟨_, Sub.refl _, k⟩)
  rename_i ds
  obtain ⟨hl, hd⟩ := hv ds rfl
  walk_at "dl2"
  refine lc_m W.d (fun d => W.d (.bool (isSightD N d))) trivial ds (fun d hdm Q hQ => ?_) (by omega) ?_
  · show wCall _ _ xq0 [some (.d N.d), _, some (.d d)] M Q
    walk_at "dl2"
    exact ⟨N, d, rfl, hd d hdm, hQ⟩
  rw [allD_f]
  simp only [boolsD_f]
  rw [List.all_map]
  exact ⟨_, Sub.refl _, k⟩
end DL
namespace DL
open PySem PySem.Spec PyProof.Rows L2
local macro_rules | `(tactic| walk_at "dl2") => `(tactic| simp only [wAsg, wOp, wVar, wC, wgN, wgTup, wgCons, wgNil, wgSub, setW, wIf, wTest, wNext, wRet, wRetN, wDrop, wAndT, wOrT, wNotT, wAndV, wOrV, wNotV, wIfE, wNeg, wNil, wCons, wTup, wTupR, wLst, wBlt, wCall, wFrz, wFz, frz, wSl, wNoP, wSoP, wPar2, wPar3, wMethL, mAppend, isLst,
  wRev, wInR, wLenSet, bStr, bMax2, bMin2, wChain, wLc, wipeW, wYes, xq0, mkL, mkT, allD, allD_map, seeL, seeD, seeT, seeS, ownL, oIx, ixW, oAdd, oSub, oMul, oMod, oDiv, oPow, oLt, oLe, oGt, oGe, oB, isInts, oEq, oIsN, isNon, oIsB, oIn, oCat, oRep, bLen, bInt, bAbs, bList, bTuple, seeA, bSum, bInts, bAll, bAny, bBools, bIsi, tyName, bReprS,
  wFor, iR1, iR2, iS, iE, iEB, enW, iZ, stL, startD, dEnds, fin, at0, at1, at2, at3, at4, atm1, atm1', ix40, ix41, ix42, ix43, eqv_int, eqv_none_int, eqv_int_none, eqv_none, eqv_lnil, eqv_tnil, eqv_str, sh_int, sh_none, sh_bool, sh_ints, sh_nil, sh_tints, sh_tnil,
  kit_NoneType_bool, kit_NoneType_int, kit_NoneType_str, kit_NoneType_list, kit_NoneType_tuple, kit_bool_bool, kit_bool_int, kit_bool_str, kit_bool_list, kit_bool_tuple, kit_int_bool, kit_int_int, kit_int_str, kit_int_list, kit_int_tuple, kit_str_bool, kit_str_int, kit_str_str, kit_str_list, kit_str_tuple,
  kit_list_bool, kit_list_int, kit_list_str, kit_list_list, kit_list_tuple, kit_tuple_bool, kit_tuple_int, kit_tuple_str, kit_tuple_list, kit_tuple_tuple, kit_dict_bool, kit_dict_int, kit_dict_str, kit_dict_list, kit_dict_tuple,
  List.map_cons, List.map_nil, List.length_cons, List.length_nil, List.length_map, List.replicate, List.cons_append, List.nil_append, List.getElem?_cons_zero, List.getElem?_cons_succ, List.set_cons_zero, List.set_cons_succ, List.isEmpty_map,
  Bool.false_eq_true, reduceCtorEq, Nat.reduceAdd, Nat.reduceSub, Nat.reduceLeDiff, Option.map_some, Option.bind_some, true_and, and_true, decide_eq_true_eq, Bool.not_eq_true', Bool.not_true, Bool.not_false, decide_eq_false_iff_not, if_true, if_false, ite_true, ite_false, reduceIte, mset_same, cut_map, allD_f, allD_app, allD_rev, rep_map, Option.map_none, wSortK, bSorted, wMinD, bMinL, mExtend, iZA])
def w_is_pair (sp_is_integer : DSp) : WS := (wSeq (wIf (wOrT (wNotT (wTest (wBlt bIsi (wCons (wVar 0) (wCons (wC (.r (.ty "tuple"))) wNil))))) (wOrT (wTest (wOp (oEq true) (wBlt bLen (wCons (wVar 0) wNil)) (wC (.d (.int 2))))) (wNotT (wTest (wBlt bAll (wCons (wLc false (iS (wVar 0)) (wgN 2) wYes (wCall sp_is_integer (wCons (wVar 2) (wCons (wC (.d (.int 0))) wNil))) [2]) wNil)))))) (wRet (wC (.d (.bool false)))) wNext)
    (wRet (wAndV (wOp oLt (wOp oIx (wVar 0) (wC (.d (.int 0)))) (wOp oIx (wVar 0) (wC (.d (.int 1))))) (wOp oLt (wOp oIx (wVar 0) (wC (.d (.int 1)))) (wVar 1)))))
def w_is_net (sp_is_integer : DSp) (sp_is_pair : DSp) : WS := (wSeq (wIf (wOrT (wNotT (wTest (wBlt bIsi (wCons (wVar 0) (wCons (wC (.r (.ty "tuple"))) wNil))))) (wOrT (wTest (wOp (oEq true) (wBlt bLen (wCons (wVar 0) wNil)) (wC (.d (.int 2))))) (wOrT (wNotT (wTest (wCall sp_is_integer (wCons (wOp oIx (wVar 0) (wC (.d (.int 0)))) (wCons (wC (.d (.int 2))) wNil))))) (wTest (wOp oGt (wOp oIx (wVar 0) (wC (.d (.int 0)))) (wC (.d (.int 6)))))))) (wRet (wC (.d (.bool false)))) wNext)
    (wSeq (wIf (wOrT (wNotT (wTest (wBlt bIsi (wCons (wOp oIx (wVar 0) (wC (.d (.int 1)))) (wCons (wC (.r (.ty "tuple"))) wNil))))) (wOrT (wTest (wOp oLt (wBlt bLen (wCons (wOp oIx (wVar 0) (wC (.d (.int 1)))) wNil)) (wC (.d (.int 1))))) (wTest (wOp oGt (wBlt bLen (wCons (wOp oIx (wVar 0) (wC (.d (.int 1)))) wNil)) (wC (.d (.int 8))))))) (wRet (wC (.d (.bool false)))) wNext)
    (wRet (wBlt bAll (wCons (wLc false (iS (wOp oIx (wVar 0) (wC (.d (.int 1))))) (wgN 1) wYes (wCall sp_is_pair (wCons (wVar 1) (wCons (wOp oIx (wVar 0) (wC (.d (.int 0)))) wNil))) [1]) wNil)))))
def pairP (p : Int) : PyData → PyData → Bool
  | .int i, .int j => decide (i < j) && decide (j < p)
  | _, _ => false
def isPairD (v : PyData) (p : Int) : Bool := match v with
  | .tuple [x, y] => (isIntD x 0 && isIntD y 0) && pairP p x y
  | _ => false
def isNetD : PyData → Bool
  | .tuple [x, .tuple ds] => (isIntD x 2 && (match x with | .int p => decide (p ≤ 6) | _ => false)) && ((decide (1 ≤ ds.length) && decide (ds.length ≤ 8)) && (match x with | .int p => ds.all fun d => isPairD d p | _ => false))
  | _ => false
def sp_is_pair : DSp := fun ws M R xr => ∃ v p, ws = [.d v, .d (.int p)] ∧ R (.d (.bool (isPairD v p))) M
theorem pure_is_pair (ws : List W) (M : MM) (R : KW) (xr : XR) (h : sp_is_pair ws M R xr) : w_is_pair sp_is_integer (dEnds R xr) (startD ["value", "places", "place"] ws) M := by
  obtain ⟨v, p, rfl, k⟩ := h
  unfold w_is_pair
  refine wSeq_i fun κ hκ => ?_
  walk_at "dl2"
  cases v <;> try exact ⟨_, Sub.refl _, k⟩
  rename_i ds
  rcases ds with _ | ⟨x, _ | ⟨y, _ | ⟨z, r⟩⟩⟩
  · walk_at "dl2"; exact ⟨_, Sub.refl _, k⟩
  · walk_at "dl2"; exact ⟨_, Sub.refl _, k⟩
  · walk_at "dl2"
    rw [if_neg (by simp)]
    refine lc_m W.d (fun d => W.d (.bool (isIntD d 0))) trivial [x, y] ?_ (by simp) ?_
    · intro d hd Q hQ
      walk_at "dl2"
      exact ⟨d, 0, rfl, hQ⟩
    rw [allD_f]
    simp only [boolsD_f]
    have e : [x, y].map (fun d => isIntD d 0) = [isIntD x 0, isIntD y 0] := rfl
    have e2 : ([isIntD x 0, isIntD y 0].all id) = (isIntD x 0 && isIntD y 0) := by simp
    rw [e, e2]
    have k' : R (.d (.bool ((isIntD x 0 && isIntD y 0) && pairP p x y))) M := k
    cases hb : (isIntD x 0 && isIntD y 0) with
    | false =>
      rw [hb] at k'
      exact ⟨_, Sub.refl _, k'⟩
    | true =>
      rw [hb] at k'
      rw [Bool.and_eq_true] at hb
      cases x <;> first | exact absurd hb.1 Bool.false_ne_true | skip
      cases y <;> first | exact absurd hb.2 Bool.false_ne_true | skip
      rename_i i j
      have k2 : R (.d (.bool (decide (i < j) && decide (j < p)))) M := k'
      simp only [Bool.true_eq_false, if_false]
      subst hκ
      walk_at "dl2"
      by_cases c : i < j
      · rw [if_pos c]
        rw [decide_eq_true c] at k2
        exact ⟨_, Sub.refl _, k2⟩
      · rw [if_neg c]
        rw [decide_eq_false c] at k2
        exact ⟨_, Sub.refl _, k2⟩
  · walk_at "dl2"
    rw [if_pos (by omega)]
    exact ⟨_, Sub.refl _, k⟩
def sp_is_net : DSp := fun ws M R xr => ∃ v, ws = [.d v] ∧ R (.d (.bool (isNetD v))) M
theorem isNet_no {v : PyData} (h : ∀ x ds, v ≠ .tuple [x, .tuple ds]) : isNetD v = false := by
  unfold isNetD
  split
  · exact absurd rfl (h _ _)
  · rfl
theorem isNet_eq (x : PyData) (ds : List PyData) : isNetD (.tuple [x, .tuple ds]) = ((isIntD x 2 && (match x with | .int p => decide (p ≤ 6) | _ => false)) && ((decide (1 ≤ ds.length) && decide (ds.length ≤ 8)) && (match x with | .int p => ds.all fun d => isPairD d p | _ => false))) := rfl
theorem pure_is_net (ws : List W) (M : MM) (R : KW) (xr : XR) (h : sp_is_net ws M R xr) : w_is_net sp_is_integer sp_is_pair (dEnds R xr) (startD ["value", "line"] ws) M := by
  obtain ⟨v, rfl, k⟩ := h
  unfold w_is_net
  refine wSeq_i fun κ hκ => ?_
  walk_at "dl2"
  cases v <;> try exact ⟨_, Sub.refl _, k⟩
  rename_i ds
  rcases ds with _ | ⟨x, _ | ⟨y, _ | ⟨z, r⟩⟩⟩
  · walk_at "dl2"; exact ⟨_, Sub.refl _, k⟩
  · walk_at "dl2"; exact ⟨_, Sub.refl _, k⟩
  rotate_left
  · rw [isNet_no (fun _ _ e => by cases e)] at k
    walk_at "dl2"
    rw [if_pos (by omega)]
    exact ⟨_, Sub.refl _, k⟩
  walk_at "dl2"
  rw [if_neg (by simp)]
  refine ⟨x, 2, rfl, ?_⟩
  by_cases hy : ∃ ds, y = .tuple ds
  rotate_left
  · rw [isNet_no (fun _ _ e => by injection e with e; injection e with e1 e2; injection e2 with e2 e3; exact hy ⟨_, e2⟩)] at k
    cases hx : isIntD x 2 with
    | false => exact ⟨_, Sub.refl _, k⟩
    | true =>
      cases x <;> first | exact absurd hx Bool.false_ne_true | skip
      rename_i p
      walk_at "dl2"
      by_cases h6 : 6 < p
      · rw [if_pos h6]; exact ⟨_, Sub.refl _, k⟩
      · rw [if_neg h6]
        subst hκ
        refine wSeq_i fun κ hκ => ?_
        walk_at "dl2"
        cases y <;> first | exact absurd ⟨_, rfl⟩ hy | (walk_at "dl2"; exact ⟨_, Sub.refl _, k⟩)
  obtain ⟨ds, rfl⟩ := hy
  rw [isNet_eq] at k
  cases hx : isIntD x 2 with
  | false =>
    rw [hx] at k
    exact ⟨_, Sub.refl _, k⟩
  | true =>
    rw [hx] at k
    cases x <;> first | exact absurd hx Bool.false_ne_true | skip
    rename_i p
    simp only [Bool.true_and] at k
    walk_at "dl2"
    by_cases h6 : 6 < p
    · rw [if_pos h6]
      rw [decide_eq_false (show ¬ p ≤ 6 by omega)] at k
      exact ⟨_, Sub.refl _, k⟩
    · rw [if_neg h6]
      rw [decide_eq_true (show p ≤ 6 by omega), Bool.true_and] at k
      subst hκ
      refine wSeq_i fun κ hκ => ?_
      walk_at "dl2"
      by_cases l1 : (ds.length : Int) < 1
      · rw [if_pos l1]
        rw [decide_eq_false (show ¬ 1 ≤ ds.length by omega)] at k
        exact ⟨_, Sub.refl _, k⟩
      rw [if_neg l1]
      rw [decide_eq_true (show 1 ≤ ds.length by omega), Bool.true_and] at k
      by_cases l8 : 8 < (ds.length : Int)
      · rw [if_pos l8]
        rw [decide_eq_false (show ¬ ds.length ≤ 8 by omega)] at k
        exact ⟨_, Sub.refl _, k⟩
      rw [if_neg l8]
      rw [decide_eq_true (show ds.length ≤ 8 by omega), Bool.true_and] at k
      subst hκ
      walk_at "dl2"
      refine lc_m W.d (fun d => W.d (.bool (isPairD d p))) trivial ds ?_ (by omega) ?_
      · intro d hd Q hQ
        walk_at "dl2"
        exact ⟨d, p, rfl, hQ⟩
      rw [allD_f]
      simp only [boolsD_f]
      rw [List.all_map]
      exact ⟨_, Sub.refl _, k⟩
/-! ### the law's own looking at nets -/
end DL
namespace DL
open PySem PySem.Spec PyProof.Rows L2
local macro_rules | `(tactic| walk_at "dl2") => `(tactic| simp only [wAsg, wOp, wVar, wC, wgN, wgTup, wgCons, wgNil, wgSub, setW, wIf, wTest, wNext, wRet, wRetN, wDrop, wAndT, wOrT, wNotT, wAndV, wOrV, wNotV, wIfE, wNeg, wNil, wCons, wTup, wTupR, wLst, wBlt, wCall, wFrz, wFz, frz, wSl, wNoP, wSoP, wPar2, wPar3, wMethL, mAppend, isLst,
  wRev, wInR, wLenSet, bStr, bMax2, bMin2, wChain, wLc, wipeW, wYes, xq0, mkL, mkT, allD, allD_map, seeL, seeD, seeT, seeS, ownL, oIx, ixW, oAdd, oSub, oMul, oMod, oDiv, oPow, oLt, oLe, oGt, oGe, oB, isInts, oEq, oIsN, isNon, oIsB, oIn, oCat, oRep, bLen, bInt, bAbs, bList, bTuple, seeA, bSum, bInts, bAll, bAny, bBools, bIsi, tyName, bReprS,
  wFor, iR1, iR2, iS, iE, iEB, enW, iZ, stL, startD, dEnds, fin, at0, at1, at2, at3, at4, atm1, atm1', ix40, ix41, ix42, ix43, eqv_int, eqv_none_int, eqv_int_none, eqv_none, eqv_lnil, eqv_tnil, eqv_str, sh_int, sh_none, sh_bool, sh_ints, sh_nil, sh_tints, sh_tnil,
  kit_NoneType_bool, kit_NoneType_int, kit_NoneType_str, kit_NoneType_list, kit_NoneType_tuple, kit_bool_bool, kit_bool_int, kit_bool_str, kit_bool_list, kit_bool_tuple, kit_int_bool, kit_int_int, kit_int_str, kit_int_list, kit_int_tuple, kit_str_bool, kit_str_int, kit_str_str, kit_str_list, kit_str_tuple,
  kit_list_bool, kit_list_int, kit_list_str, kit_list_list, kit_list_tuple, kit_tuple_bool, kit_tuple_int, kit_tuple_str, kit_tuple_list, kit_tuple_tuple, kit_dict_bool, kit_dict_int, kit_dict_str, kit_dict_list, kit_dict_tuple,
  List.map_cons, List.map_nil, List.length_cons, List.length_nil, List.length_map, List.replicate, List.cons_append, List.nil_append, List.getElem?_cons_zero, List.getElem?_cons_succ, List.set_cons_zero, List.set_cons_succ, List.isEmpty_map,
  Bool.false_eq_true, reduceCtorEq, Nat.reduceAdd, Nat.reduceSub, Nat.reduceLeDiff, Option.map_some, Option.bind_some, true_and, and_true, decide_eq_true_eq, Bool.not_eq_true', Bool.not_true, Bool.not_false, decide_eq_false_iff_not, if_true, if_false, ite_true, ite_false, reduceIte, mset_same, cut_map, allD_f, allD_app, allD_rev, rep_map, Option.map_none, wSortK, bSorted, wMinD, bMinL, mExtend, iZA])
/-! ### an order of the numbers below n -/
structure Ord (n : Nat) (os : List Nat) : Prop where
  len : os.length = n
  nd : os.Nodup
  lt : ∀ o ∈ os, o < n
theorem Ord.mem {n : Nat} {os : List Nat} (h : Ord n os) {o : Nat} (ho : o < n) : o ∈ os := by
  by_cases hm : o ∈ os
  · exact hm
  · have h1 : (o :: os) ⊆ List.range n := fun x hx => by
      rcases List.mem_cons.mp hx with rfl | hx
      · exact List.mem_range.mpr ho
      · exact List.mem_range.mpr (h.lt x hx)
    have h2 := (List.nodup_cons.mpr ⟨hm, h.nd⟩).length_le_of_subset h1
    rw [List.length_cons, List.length_range, h.len] at h2
    omega
def sg (os : List Nat) (v : Int) : Int := ((os.getD v.toNat 0 : Nat) : Int)
def od (os : List Nat) (k : Nat) : Nat := os.getD k 0
def tu (os : List Nat) (l : Nat) : Nat := os.idxOf l
theorem Ord.od_lt {n : Nat} {os : List Nat} (h : Ord n os) {k : Nat} (hk : k < n) : od os k < n := by
  unfold od
  have hk' : k < os.length := by rw [h.len]; exact hk
  rw [List.getD_eq_getElem?_getD, List.getElem?_eq_getElem hk']
  exact h.lt _ (List.getElem_mem hk')
theorem Ord.tu_lt {n : Nat} {os : List Nat} (h : Ord n os) {l : Nat} (hl : l < n) : tu os l < n := by
  have := List.idxOf_lt_length_of_mem (h.mem hl)
  rw [h.len] at this
  exact this
theorem Ord.od_tu {n : Nat} {os : List Nat} (h : Ord n os) {l : Nat} (hl : l < n) : od os (tu os l) = l := by
  unfold od tu
  have h1 := List.idxOf_lt_length_of_mem (h.mem hl)
  rw [List.getD_eq_getElem?_getD, List.getElem?_eq_getElem h1]
  exact List.getElem_idxOf h1
theorem Ord.tu_od {n : Nat} {os : List Nat} (h : Ord n os) {k : Nat} (hk : k < n) : tu os (od os k) = k := by
  have hk' : k < os.length := by rw [h.len]; exact hk
  have e1 : od os k = os[k] := by
    unfold od
    rw [List.getD_eq_getElem?_getD, List.getElem?_eq_getElem hk']; rfl
  rw [e1]
  have h1 : os.idxOf os[k] < os.length := List.idxOf_lt_length_of_mem (List.getElem_mem hk')
  have h4 : os[os.idxOf os[k]] = os[k] := List.getElem_idxOf h1
  exact (List.getElem_inj h.nd).mp h4
theorem Ord.sg_rng {n : Nat} {os : List Nat} (h : Ord n os) {v : Int} (h0 : 0 ≤ v) (h1 : v < n) : 0 ≤ sg os v ∧ sg os v < n := by
  have := h.od_lt (k := v.toNat) (by omega)
  unfold od at this
  unfold sg
  omega
theorem Ord.sg_inj {n : Nat} {os : List Nat} (h : Ord n os) {u v : Int} (u0 : 0 ≤ u) (u1 : u < n) (v0 : 0 ≤ v) (v1 : v < n) (e : sg os u = sg os v) : u = v := by
  have e1 : od os u.toNat = od os v.toNat := Int.ofNat_inj.mp e
  have h1 := h.tu_od (k := u.toNat) (by omega)
  have h2 := h.tu_od (k := v.toNat) (by omega)
  rw [e1, h2] at h1
  omega
/-! ### nets renamed -/
def lnR (nm : List Nat) (x : Int × Int) : Int × Int := (min (sg nm x.1) (sg nm x.2), max (sg nm x.1) (sg nm x.2))
def renN (N : Net) (nm os : List Nat) : Net := ⟨N.p, os.map fun o => lnR nm (N.ls.getD o (0, 0))⟩
structure Ren (N : Net) (nm os : List Nat) : Prop where
  ok : N.Ok
  nm : Ord N.p.toNat nm
  os : Ord N.ls.length os
theorem Ren.sg_rng {N : Net} {nm os : List Nat} (h : Ren N nm os) {v : Int} (h0 : 0 ≤ v) (h1 : v < N.p) : 0 ≤ sg nm v ∧ sg nm v < N.p := by
  have := h.nm.sg_rng h0 (by have := h.ok.p2; omega)
  have := h.ok.p2
  omega
theorem Ren.sg_inj {N : Net} {nm os : List Nat} (h : Ren N nm os) {u v : Int} (u0 : 0 ≤ u) (u1 : u < N.p) (v0 : 0 ≤ v) (v1 : v < N.p) (e : sg nm u = sg nm v) : u = v := h.nm.sg_inj u0 (by omega) v0 (by omega) e
theorem ren_len {N : Net} {nm os : List Nat} (h : Ren N nm os) : (renN N nm os).ls.length = N.ls.length := by
  show (os.map _).length = _
  rw [List.length_map, h.os.len]
theorem ren_ok {N : Net} {nm os : List Nat} (h : Ren N nm os) : (renN N nm os).Ok := by
  refine ⟨h.ok.p2, h.ok.p6, by rw [ren_len h]; exact h.ok.l1, by rw [ren_len h]; exact h.ok.l8, fun x hx => ?_⟩
  obtain ⟨o, ho, rfl⟩ := List.mem_map.mp hx
  have hlt := h.os.lt o ho
  have hm : N.ls.getD o (0, 0) ∈ N.ls := by
    rw [List.getD_eq_getElem?_getD, List.getElem?_eq_getElem hlt]
    exact List.getElem_mem hlt
  obtain ⟨a0, ab, b1⟩ := h.ok.ln _ hm
  generalize N.ls.getD o (0, 0) = x at a0 ab b1
  obtain ⟨p1, p2⟩ := h.sg_rng a0 (show x.1 < N.p by omega)
  obtain ⟨q1, q2⟩ := h.sg_rng (show 0 ≤ x.2 by omega) b1
  have hne : sg nm x.1 ≠ sg nm x.2 := fun z => by
    have := h.sg_inj a0 (by omega) (by omega) b1 z
    omega
  show 0 ≤ min (sg nm x.1) (sg nm x.2) ∧ min (sg nm x.1) (sg nm x.2) < max (sg nm x.1) (sg nm x.2) ∧ max (sg nm x.1) (sg nm x.2) < N.p
  omega
theorem next_ren {N : Net} {nm os : List Nat} (h : Ren N nm os) {u : Int} (u0 : 0 ≤ u) (u1 : u < N.p) {k : Nat} (hk : k < N.ls.length) : nextP (renN N nm os).ls (sg nm u) k = (nextP N.ls u (od os k)).map (sg nm) := by
  have hk' : k < os.length := by rw [h.os.len]; exact hk
  have ho := h.os.od_lt hk
  have e1 : (renN N nm os).ls[k]? = some (lnR nm (N.ls.getD (od os k) (0, 0))) := by
    show (os.map fun o => lnR nm (N.ls.getD o (0, 0)))[k]? = _
    rw [List.getElem?_map, List.getElem?_eq_getElem hk']
    unfold od
    rw [List.getD_eq_getElem?_getD (l := os), List.getElem?_eq_getElem hk']; rfl
  have e2 : N.ls[od os k]? = some (N.ls.getD (od os k) (0, 0)) := by
    rw [List.getD_eq_getElem?_getD, List.getElem?_eq_getElem ho]; rfl
  have hm : N.ls.getD (od os k) (0, 0) ∈ N.ls := List.mem_of_getElem? e2
  obtain ⟨a0, ab, b1⟩ := h.ok.ln _ hm
  unfold nextP
  rw [e1, e2]
  generalize N.ls.getD (od os k) (0, 0) = x at a0 ab b1
  obtain ⟨a, b⟩ := x
  simp only at a0 ab b1
  have ia : sg nm u = sg nm a ↔ u = a := ⟨fun z => h.sg_inj u0 u1 a0 (by omega) z, fun z => by rw [z]⟩
  have ib : sg nm u = sg nm b ↔ u = b := ⟨fun z => h.sg_inj u0 u1 (by omega) b1 z, fun z => by rw [z]⟩
  have hne : sg nm a ≠ sg nm b := fun z => by
    have := h.sg_inj a0 (by omega) (by omega) b1 z
    omega
  show (match some (min (sg nm a) (sg nm b), max (sg nm a) (sg nm b)) with
    | some (a, b) => if sg nm u = a then some b else if sg nm u = b then some a else none
    | none => none) = _
  simp only
  by_cases c1 : u = a
  · subst c1
    rw [if_pos rfl]
    by_cases c : sg nm u ≤ sg nm b
    · rw [Int.min_eq_left c, Int.max_eq_right c, if_pos rfl]; rfl
    · rw [Int.min_eq_right (by omega), Int.max_eq_left (by omega), if_neg hne, if_pos rfl]; rfl
  · by_cases c2 : u = b
    · subst c2
      rw [if_neg c1, if_pos rfl]
      by_cases c : sg nm a ≤ sg nm u
      · rw [Int.min_eq_left c, Int.max_eq_right c, if_neg (Ne.symm hne), if_pos rfl]; rfl
      · rw [Int.min_eq_right (by omega), Int.max_eq_left (by omega), if_pos rfl]; rfl
    · have n1 : sg nm u ≠ sg nm a := fun z => c1 (ia.mp z)
      have n2 : sg nm u ≠ sg nm b := fun z => c2 (ib.mp z)
      rw [if_neg (by omega), if_neg (by omega), if_neg c1, if_neg c2]; rfl
theorem pth_ren {N : Net} {nm os : List Nat} (h : Ren N nm os) {P : List Int} {r : List Nat} (p : Pth N.ls P r) : Pth (renN N nm os).ls (P.map (sg nm)) (r.map (tu os)) := by
  induction p with
  | one s => exact .one _
  | more hn hp ih =>
    obtain ⟨_, _, _, s0, s1, hl, _⟩ := nextP_back h.ok hn
    refine .more ?_ ih
    rw [next_ren h s0 s1 (h.os.tu_lt hl), h.os.od_tu hl, hn]; rfl
theorem pth_unren {N : Net} {nm os : List Nat} (h : Ren N nm os) : ∀ {r : List Nat} {s : Int} {Q : List Int}, 0 ≤ s → s < N.p → Pth (renN N nm os).ls (sg nm s :: Q) r → ∃ ps, Q = ps.map (sg nm) ∧ Pth N.ls (s :: ps) (r.map (od os)) ∧ (r.map (od os)).map (tu os) = r
  | [], s, Q, s0, s1, p => by
    cases p
    exact ⟨[], rfl, .one _, rfl⟩
  | k :: r, s, Q, s0, s1, p => by
    cases p with
    | more hn p =>
      obtain ⟨_, _, _, _, _, hk, _⟩ := nextP_back (ren_ok h) hn
      rw [ren_len h] at hk
      rw [next_ren h s0 s1 hk] at hn
      cases hq : nextP N.ls s (od os k) with
      | none => rw [hq] at hn; cases hn
      | some v =>
        rw [hq] at hn
        have hn' : sg nm v = _ := Option.some.inj hn
        obtain ⟨_, v0, v1, _⟩ := nextP_back h.ok hq
        subst hn'
        obtain ⟨ps, e1, e2, e3⟩ := pth_unren h v0 v1 p
        exact ⟨v :: ps, by rw [e1]; rfl, .more hq e2, by rw [List.map_cons, List.map_cons, h.os.tu_od hk, e3]⟩
theorem nodup_sg {N : Net} {nm os : List Nat} (h : Ren N nm os) {P : List Int} (hr : ∀ x ∈ P, 0 ≤ x ∧ x < N.p) : (P.map (sg nm)).Nodup ↔ P.Nodup := by
  induction P with
  | nil => exact ⟨fun _ => List.nodup_nil, fun _ => List.nodup_nil⟩
  | cons x P ih =>
    rw [List.map_cons, List.nodup_cons, List.nodup_cons, ih fun y hy => hr y (List.mem_cons_of_mem _ hy)]
    obtain ⟨x0, x1⟩ := hr x List.mem_cons_self
    refine and_congr_left fun _ => not_congr ⟨fun hm => ?_, fun hm => List.mem_map.mpr ⟨x, hm, rfl⟩⟩
    obtain ⟨y, hy, e⟩ := List.mem_map.mp hm
    obtain ⟨y0, y1⟩ := hr y (List.mem_cons_of_mem _ hy)
    rw [h.sg_inj x0 x1 y0 y1 e.symm]; exact hy
theorem last_sg {nm : List Nat} (s : Int) (ps : List Int) : (sg nm s :: ps.map (sg nm)).getLast (List.cons_ne_nil _ _) = sg nm ((s :: ps).getLast (List.cons_ne_nil _ _)) := by
  have : sg nm s :: ps.map (sg nm) = (s :: ps).map (sg nm) := rfl
  simp only [this, List.getLast_map]
theorem routes_ren {N : Net} {nm os : List Nat} (h : Ren N nm os) {s e : Int} (s0 : 0 ≤ s) (s1 : s < N.p) (e0 : 0 ≤ e) (e1 : e < N.p) : ((routesP N s e).map fun r => r.map (tu os)).Perm (routesP (renN N nm os) (sg nm s) (sg nm e)) := by
  have hM := ren_ok h
  obtain ⟨t0, t1⟩ := h.sg_rng s0 s1
  have inj : ∀ {a b : List Nat}, a ∈ routesP N s e → b ∈ routesP N s e → a.map (tu os) = b.map (tu os) → a = b := fun {a b} ha hb z => by
    have back : ∀ {a : List Nat}, a ∈ routesP N s e → (a.map (tu os)).map (od os) = a := fun {a} ha => by
      rw [List.map_map]
      refine (List.map_congr_left fun x hx => ?_).trans (List.map_id' a)
      exact h.os.od_tu ((routes_short h.ok s0 s1 ha).2 x hx)
    rw [← back ha, ← back hb, z]
  refine (List.perm_ext_iff_of_nodup ?_ (routes_nodup _ _ _)).mpr fun r => ?_
  · have hnd := routes_nodup N s e
    unfold List.Nodup at hnd ⊢
    rw [List.pairwise_map]
    exact List.Pairwise.imp_of_mem (fun {a b} ha hb hab z => hab (inj ha hb z)) hnd
  · rw [List.mem_map, routes_mem hM t0 t1]
    constructor
    · rintro ⟨a, ha, rfl⟩
      obtain ⟨ps, a1, a2, a3⟩ := (routes_mem h.ok s0 s1).mp ha
      refine ⟨ps.map (sg nm), pth_ren h a1, by rw [last_sg, a2], (nodup_sg h (P := s :: ps) (a1.rng h.ok s0 s1)).mpr a3⟩
    · rintro ⟨Q, b1, b2, b3⟩
      obtain ⟨ps, rfl, c2, c3⟩ := pth_unren h s0 s1 b1
      have hr := c2.rng h.ok s0 s1
      refine ⟨r.map (od os), (routes_mem h.ok s0 s1).mpr ⟨ps, c2, ?_, (nodup_sg h (P := s :: ps) hr).mp b3⟩, c3⟩
      rw [last_sg] at b2
      obtain ⟨l0, l1⟩ := hr _ (List.getLast_mem (List.cons_ne_nil s ps))
      exact h.sg_inj l0 l1 e0 e1 b2
def szR (xs : List Int) (os : List Nat) : List Int := os.map fun o => xs.getD o 0
theorem lenP_ren {N : Net} {nm os : List Nat} (h : Ren N nm os) (xs : List Int) : ∀ {r : List Nat}, (∀ l ∈ r, l < N.ls.length) → lenP (szR xs os) (r.map (tu os)) = lenP xs r
  | [], _ => rfl
  | l :: r, hl => by
    have hll := hl l List.mem_cons_self
    rw [List.map_cons, lenP_cons, lenP_cons, lenP_ren h xs fun z hz => hl z (List.mem_cons_of_mem _ hz)]
    congr 1
    have ht := h.os.tu_lt hll
    have ht' : tu os l < os.length := by rw [h.os.len]; exact ht
    have e := h.os.od_tu hll
    unfold od at e
    unfold szR
    rw [List.getD_eq_getElem?_getD, List.getElem?_map]
    rw [List.getD_eq_getElem?_getD, List.getElem?_eq_getElem ht'] at e
    have e' : os[tu os l] = l := e
    rw [List.getElem?_eq_getElem ht']
    show xs.getD os[tu os l] 0 = _
    rw [e']
theorem short_ren {N : Net} {nm os : List Nat} (h : Ren N nm os) (xs : List Int) {s e : Int} (s0 : 0 ≤ s) (s1 : s < N.p) (e0 : 0 ≤ e) (e1 : e < N.p) : ((shortP N xs s e).map fun r => r.map (tu os)).Perm (shortP (renN N nm os) (szR xs os) (sg nm s) (sg nm e)) := by
  have hp := routes_ren h s0 s1 e0 e1
  have ln : ∀ {a}, a ∈ routesP N s e → lenP (szR xs os) (a.map (tu os)) = lenP xs a := fun {a} ha => lenP_ren h xs (routes_short h.ok s0 s1 ha).2
  have inj : ((shortP N xs s e).map fun r => r.map (tu os)).Nodup := by
    have h1 : ((routesP N s e).map fun r => r.map (tu os)).Nodup := (hp.nodup_iff).mpr (routes_nodup _ _ _)
    exact h1.sublist (List.Sublist.map _ List.filter_sublist)
  refine (List.perm_ext_iff_of_nodup inj ((routes_nodup _ _ _).filter _)).mpr fun r => ?_
  show r ∈ (shortP N xs s e).map _ ↔ r ∈ shortP (renN N nm os) (szR xs os) (sg nm s) (sg nm e)
  rw [List.mem_map, short_iff]
  constructor
  · rintro ⟨a, ha, rfl⟩
    obtain ⟨g1, g2⟩ := short_iff.mp ha
    refine ⟨hp.mem_iff.mp (List.mem_map.mpr ⟨a, g1, rfl⟩), fun l' hl' => ?_⟩
    obtain ⟨b, hb, rfl⟩ := List.mem_map.mp (hp.mem_iff.mpr hl')
    rw [ln g1, ln hb]
    exact g2 b hb
  · rintro ⟨g1, g2⟩
    obtain ⟨a, ha, rfl⟩ := List.mem_map.mp (hp.mem_iff.mpr g1)
    refine ⟨a, short_iff.mpr ⟨ha, fun l' hl' => ?_⟩, rfl⟩
    have := g2 _ (hp.mem_iff.mp (List.mem_map.mpr ⟨l', hl', rfl⟩))
    rw [ln ha, ln hl'] at this
    exact this

/-! ### the walks -/
abbrev osD (os : List Nat) : PyData := .list (os.map nD)
theorem seq_at {k n : Nat} (h : k < n) : seqIndex? (k : Int) n = some k := by
  unfold seqIndex?
  have : ¬ ((k : Int) < 0) := by omega
  simp only [if_neg this]
  rw [if_pos (by simp; omega)]
  rfl
theorem erase_map {α β : Type} (f : α → β) : ∀ (l : List α) (k : Nat), (l.map f).eraseIdx k = (l.eraseIdx k).map f
  | [], _ => rfl
  | x :: r, 0 => rfl
  | x :: r, k + 1 => by
    show f x :: (r.map f).eraseIdx k = f x :: (r.eraseIdx k).map f
    rw [erase_map f r k]
theorem erase_perm {α : Type} : ∀ (l : List α) (k : Nat) (h : k < l.length), (l[k] :: l.eraseIdx k).Perm l
  | x :: r, 0, _ => List.Perm.refl _
  | x :: r, k + 1, h => by
    have h' : k < r.length := by rw [List.length_cons] at h; omega
    show (r[k] :: x :: r.eraseIdx k).Perm (x :: r)
    exact (List.Perm.swap x r[k] _).trans ((erase_perm r k h').cons x)
theorem nm_at {N : Net} {nm os : List Nat} (h : Ren N nm os) {v : Int} (h0 : 0 ≤ v) (h1 : v < N.p) : atI ((nm.map nD).map W.d) v = some (W.d (.int (sg nm v))) := by
  have hl := h.nm.len
  have hv : v.toNat < nm.length := by omega
  rw [atI_ok _ v.toNat _ (by omega), List.getElem?_map, List.getElem?_map, List.getElem?_eq_getElem hv]
  unfold sg
  rw [List.getD_eq_getElem?_getD, List.getElem?_eq_getElem hv]; rfl
theorem nm_at' {N : Net} {nm os : List Nat} (h : Ren N nm os) {v : Int} (h0 : 0 ≤ v) (h1 : v < N.p) : atI (nm.map nD) v = some (.int (sg nm v)) := by
  have hl := h.nm.len
  have hv : v.toNat < nm.length := by omega
  rw [atI_ok _ v.toNat _ (by omega), List.getElem?_map, List.getElem?_eq_getElem hv]
  unfold sg
  rw [List.getD_eq_getElem?_getD, List.getElem?_eq_getElem hv]; rfl
theorem isNet_ok {N : Net} (h : N.Ok) : isNetD N.d = true := by
  have p2 := h.p2
  have p6 := h.p6
  have l1 := h.l1
  have l8 := h.l8
  show isNetD (.tuple [.int N.p, .tuple (N.ls.map prD)]) = true
  rw [isNet_eq, isIntD_int, decide_eq_true p2, List.length_map, decide_eq_true l1, decide_eq_true l8]
  simp only [decide_eq_true p6, Bool.true_and]
  refine List.all_eq_true.mpr fun d hd => ?_
  obtain ⟨x, hx, rfl⟩ := List.mem_map.mp hd
  obtain ⟨a0, ab, b1⟩ := h.ln x hx
  show ((isIntD (.int x.1) 0 && isIntD (.int x.2) 0) && (decide (x.1 < x.2) && decide (x.2 < N.p))) = true
  rw [isIntD_int, isIntD_int, decide_eq_true a0, decide_eq_true (show 0 ≤ x.2 by omega), decide_eq_true ab, decide_eq_true b1]; rfl
end DL
namespace DL
open PySem PySem.Spec PyProof.Rows L2
local macro_rules | `(tactic| walk_at "dl2") => `(tactic| simp only [wAsg, wOp, wVar, wC, wgN, wgTup, wgCons, wgNil, wgSub, setW, wIf, wTest, wNext, wRet, wRetN, wDrop, wAndT, wOrT, wNotT, wAndV, wOrV, wNotV, wIfE, wNeg, wNil, wCons, wTup, wTupR, wLst, wBlt, wCall, wFrz, wFz, frz, wSl, wNoP, wSoP, wPar2, wPar3, wMethL, mAppend, isLst,
  wRev, wInR, wLenSet, bStr, bMax2, bMin2, wChain, wLc, wipeW, wYes, xq0, mkL, mkT, allD, allD_map, seeL, seeD, seeT, seeS, ownL, oIx, ixW, oAdd, oSub, oMul, oMod, oDiv, oPow, oLt, oLe, oGt, oGe, oB, isInts, oEq, oIsN, isNon, oIsB, oIn, oCat, oRep, bLen, bInt, bAbs, bList, bTuple, seeA, bSum, bInts, bAll, bAny, bBools, bIsi, tyName, bReprS,
  wFor, iR1, iR2, iS, iE, iEB, enW, iZ, stL, startD, dEnds, fin, at0, at1, at2, at3, at4, atm1, atm1', ix40, ix41, ix42, ix43, eqv_int, eqv_none_int, eqv_int_none, eqv_none, eqv_lnil, eqv_tnil, eqv_str, sh_int, sh_none, sh_bool, sh_ints, sh_nil, sh_tints, sh_tnil,
  kit_NoneType_bool, kit_NoneType_int, kit_NoneType_str, kit_NoneType_list, kit_NoneType_tuple, kit_bool_bool, kit_bool_int, kit_bool_str, kit_bool_list, kit_bool_tuple, kit_int_bool, kit_int_int, kit_int_str, kit_int_list, kit_int_tuple, kit_str_bool, kit_str_int, kit_str_str, kit_str_list, kit_str_tuple,
  kit_list_bool, kit_list_int, kit_list_str, kit_list_list, kit_list_tuple, kit_tuple_bool, kit_tuple_int, kit_tuple_str, kit_tuple_list, kit_tuple_tuple, kit_dict_bool, kit_dict_int, kit_dict_str, kit_dict_list, kit_dict_tuple,
  List.map_cons, List.map_nil, List.length_cons, List.length_nil, List.length_map, List.replicate, List.cons_append, List.nil_append, List.getElem?_cons_zero, List.getElem?_cons_succ, List.set_cons_zero, List.set_cons_succ, List.isEmpty_map,
  Bool.false_eq_true, reduceCtorEq, Nat.reduceAdd, Nat.reduceSub, Nat.reduceLeDiff, Option.map_some, Option.bind_some, true_and, and_true, decide_eq_true_eq, Bool.not_eq_true', Bool.not_true, Bool.not_false, decide_eq_false_iff_not, if_true, if_false, ite_true, ite_false, reduceIte, mset_same, cut_map, allD_f, allD_app, allD_rev, rep_map, Option.map_none, wSortK, bSorted, wMinD, bMinL, mExtend, iZA])
def w__law_is_route (sp__law_next : DSp) : WS := (wSeq (wIf (wOrT (wNotT (wTest (wBlt bIsi (wCons (wVar 1) (wCons (wC (.r (.ty "tuple"))) wNil))))) (wOrT (wTest (wOp (oEq true) (wBlt bLen (wCons (wVar 1) wNil)) (wC (.d (.int 2))))) (wOrT (wNotT (wTest (wBlt bIsi (wCons (wOp oIx (wVar 1) (wC (.d (.int 1)))) (wCons (wC (.r (.ty "tuple"))) wNil))))) (wTest (wOp (oEq false) (wOp oIx (wVar 1) (wC (.d (.int 1)))) (wTup wNil)))))) (wRet (wC (.d (.bool false)))) wNext)
    (wSeq (wFor (iS (wOp (oCat false) (wLst false (wCons (wTup (wCons (wOp oIx (wVar 1) (wC (.d (.int 0)))) (wCons (wOp oIx (wVar 0) (wC (.d (.int 0)))) wNil))) wNil)) (wLc false (iS (wOp oIx (wVar 1) (wC (.d (.int 1))))) (wgN 5) wYes (wTup (wCons (wVar 5) (wCons (wBlt bLen (wCons (wOp oIx (wVar 0) (wC (.d (.int 1)))) wNil)) wNil))) [5]))) (wgTup 2 (wgCons (wgN 2) (wgCons (wgN 3) wgNil))) (wIf (wOrT (wTest (wBlt bIsi (wCons (wVar 2) (wCons (wC (.r (.ty "bool"))) wNil)))) (wOrT (wNotT (wTest (wBlt bIsi (wCons (wVar 2) (wCons (wC (.r (.ty "int"))) wNil))))) (wOrT (wTest (wOp oLt (wVar 2) (wC (.d (.int 0))))) (wTest (wOp oGe (wVar 2) (wVar 3)))))) (wRet (wC (.d (.bool false)))) wNext))
    (wSeq (wAsg (wLst true (wCons (wOp oIx (wVar 1) (wC (.d (.int 0)))) wNil)) (wgN 4))
    (wSeq (wFor (iS (wOp oIx (wVar 1) (wC (.d (.int 1))))) (wgN 5) (wSeq (wAsg (wCall sp__law_next (wCons (wVar 0) (wCons (wOp oIx (wVar 4) (wNeg (wC (.d (.int 1))))) (wCons (wVar 5) wNil)))) (wgN 6))
    (wSeq (wIf (wOrT (wTest (wOp (oIsN false) (wVar 6) (wC (.d .none)))) (wTest (wOp (oIn false) (wVar 6) (wVar 4)))) (wRet (wC (.d (.bool false)))) wNext)
    (wDrop (wMethL mAppend (wVar 4) (wCons (wVar 6) wNil))))))
    (wRet (wC (.d (.bool true))))))))
/-! ### the law's own looking at routes -/
def okN (x : PyData × Int) : Bool := isIntD x.1 0 && (match x.1 with | .int i => decide (i < x.2) | _ => false)
theorem okN_int (i m : Int) : okN (.int i, m) = (decide (0 ≤ i) && decide (i < m)) := rfl
theorem okN_all (N : Net) (ds : List PyData) : (ds.map fun d => (d, (N.ls.length : Int))).all okN = (lnsD N ds).isSome := by
  rw [← lnsD_all N ds, List.all_map, List.all_map]; rfl
theorem isRouteD_ok (N : Net) (x : PyData) (ds : List PyData) (hne : ds.isEmpty = false) : isRouteD N (.tuple [x, .tuple ds]) = (((x, N.p) :: ds.map fun d => (d, (N.ls.length : Int))).all okN && (match x, lnsD N ds with
    | .int s, some ls => goodP (placesP N s ls)
    | _, _ => false)) := by
  have e1 : (ds.map fun d => (d, (N.ls.length : Int))).all okN = (lnsD N ds).isSome := okN_all N ds
  rw [List.all_cons, e1]
  by_cases hx : ∃ s, x = .int s
  · obtain ⟨s, rfl⟩ := hx
    rw [isRouteD_eq, okN_int, hne]
    cases lnsD N ds with
    | none => simp
    | some ls => simp [Bool.and_assoc]
  · rw [isRouteD_no (fun _ _ e => by injection e with e; injection e with e1 e2; exact hx ⟨_, e1⟩)]
    have : okN (x, N.p) = false := by
      unfold okN
      rw [isInt_false fun i e => hx ⟨i, e⟩]; rfl
    rw [this]; rfl
theorem walkP_some (ls : List (Int × Int)) (p : Int) (l : Nat) (r : List Nat) : walkP ls (some p) (l :: r) = nextP ls p l :: walkP ls (nextP ls p l) r := rfl
theorem good_none (ps : List Int) (r : List (Option Int)) : goodP (ps.map some ++ none :: r) = false := by
  unfold goodP
  rw [List.all_append, List.all_cons]
  simp
theorem good_twice {ps : List Int} {z : Int} (h : z ∈ ps) (r : List (Option Int)) : goodP (ps.map some ++ some z :: r) = false := by
  unfold goodP
  have : ¬ (ps.map some ++ some z :: r).Nodup := fun n => by
    have := (List.nodup_append.mp n).2.2 (some z) (List.mem_map.mpr ⟨z, h, rfl⟩) (some z) List.mem_cons_self
    exact this rfl
  rw [decide_eq_false this, Bool.and_false]
theorem good_end {ps : List Int} (h : ps.Nodup) : goodP (ps.map some ++ []) = true := by
  unfold goodP
  rw [List.append_nil, List.all_map, decide_eq_true ((nodup_map_oD ps).mpr h), Bool.and_true]
  exact List.all_eq_true.mpr fun _ _ => rfl
theorem chk_no {d : PyData} {m : Int} (hd : ∀ i, d ≠ .int i) {n0 v0 x4 x5 x6 : Option W} {xq : XQ} {M : MM} {Q : Bool → MM → Prop} (hQ : Q true M) :
    wOrT (wTest (wBlt bIsi (wCons (wVar 2) (wCons (wC (.r (.ty "bool"))) wNil)))) (wOrT (wNotT (wTest (wBlt bIsi (wCons (wVar 2) (wCons (wC (.r (.ty "int"))) wNil))))) (wOrT (wTest (wOp oLt (wVar 2) (wC (.d (.int 0))))) (wTest (wOp oGe (wVar 2) (wVar 3))))) xq [n0, v0, some (.d d), some (.d (.int m)), x4, x5, x6] M Q := by
  cases d <;> first | exact absurd rfl (hd _) | (walk_at "dl2"; exact hQ)
theorem chk_int {i m : Int} {n0 v0 x4 x5 x6 : Option W} {xq : XQ} {M : MM} {Q : Bool → MM → Prop} (hQ : Q (!okN (.int i, m)) M) :
    wOrT (wTest (wBlt bIsi (wCons (wVar 2) (wCons (wC (.r (.ty "bool"))) wNil)))) (wOrT (wNotT (wTest (wBlt bIsi (wCons (wVar 2) (wCons (wC (.r (.ty "int"))) wNil))))) (wOrT (wTest (wOp oLt (wVar 2) (wC (.d (.int 0))))) (wTest (wOp oGe (wVar 2) (wVar 3))))) xq [n0, v0, some (.d (.int i)), some (.d (.int m)), x4, x5, x6] M Q := by
  walk_at "dl2"
  rw [okN_int] at hQ
  by_cases c1 : i < 0
  · rw [decide_eq_false (show ¬ 0 ≤ i by omega)] at hQ
    rw [if_pos c1]
    exact hQ
  · rw [decide_eq_true (show 0 ≤ i by omega)] at hQ
    rw [if_neg c1]
    by_cases c2 : m ≤ i
    · rw [decide_eq_false (show ¬ i < m by omega)] at hQ
      rw [decide_eq_true c2]
      exact hQ
    · rw [decide_eq_true (show i < m by omega)] at hQ
      rw [decide_eq_false c2]
      exact hQ
theorem chk_any {d : PyData} {m : Int} {n0 v0 x4 x5 x6 : Option W} {xq : XQ} {M : MM} {Q : Bool → MM → Prop} (hQ : Q (!okN (d, m)) M) :
    wOrT (wTest (wBlt bIsi (wCons (wVar 2) (wCons (wC (.r (.ty "bool"))) wNil)))) (wOrT (wNotT (wTest (wBlt bIsi (wCons (wVar 2) (wCons (wC (.r (.ty "int"))) wNil))))) (wOrT (wTest (wOp oLt (wVar 2) (wC (.d (.int 0))))) (wTest (wOp oGe (wVar 2) (wVar 3))))) xq [n0, v0, some (.d d), some (.d (.int m)), x4, x5, x6] M Q := by
  by_cases hd : ∃ i, d = .int i
  · obtain ⟨i, rfl⟩ := hd
    exact chk_int hQ
  · have e : okN (d, m) = false := by
      unfold okN
      rw [isInt_false fun i e => hd ⟨i, e⟩]; rfl
    rw [e] at hQ
    exact chk_no (fun i e => hd ⟨i, e⟩) hQ
theorem num_loop {n0 v0 x4 x5 x6 : Option W} {Mx : MM} {D : DEnds} : ∀ (es : List (PyData × Int)) (x2 x3 : Option W), (es.all okN = false → D.rt (.d (.bool false)) Mx) → (es.all okN = true → ∀ x2 x3 : Option W, D.nx [n0, v0, x2, x3, x4, x5, x6] Mx) →
    wIter (wgTup 2 (wgCons (wgN 2) (wgCons (wgN 3) wgNil))) (wIf (wOrT (wTest (wBlt bIsi (wCons (wVar 2) (wCons (wC (.r (.ty "bool"))) wNil)))) (wOrT (wNotT (wTest (wBlt bIsi (wCons (wVar 2) (wCons (wC (.r (.ty "int"))) wNil))))) (wOrT (wTest (wOp oLt (wVar 2) (wC (.d (.int 0))))) (wTest (wOp oGe (wVar 2) (wVar 3)))))) (wRet (wC (.d (.bool false)))) wNext) (fun _ => True) (es.map fun e => W.d (.tuple [e.1, .int e.2])) D [n0, v0, x2, x3, x4, x5, x6] Mx
  | [], x2, x3, _, h => ⟨trivial, h rfl x2 x3⟩
  | (d, m) :: r, x2, x3, hf, ht => by
    rw [List.map_cons]
    refine ⟨trivial, rfl, rfl, ?_⟩
    show wIf _ _ _ _ [n0, v0, some (.d d), some (.d (.int m)), x4, x5, x6] Mx
    refine chk_any ?_
    rw [List.all_cons] at hf ht
    cases e : okN (d, m) with
    | false =>
      rw [e] at hf
      exact hf rfl
    | true =>
      rw [e, Bool.true_and] at hf ht
      exact num_loop r _ _ hf ht
def sp__law_is_route : DSp := fun ws M R xr => ∃ (N : Net) (v : PyData), ws = [.d N.d, .d v] ∧ N.Ok ∧ AskOk v ∧ R (.d (.bool (isRouteD N v))) M
theorem pure__law_is_route (ws : List W) (M : MM) (R : KW) (xr : XR) (h : sp__law_is_route ws M R xr) : w__law_is_route sp__law_next (dEnds R xr) (startD ["_law_net_here", "_law_value", "_law_number", "_law_most", "_law_seen", "_law_line", "_law_later"] ws) M := by
  obtain ⟨N, v, rfl, hN, ⟨hv, hs⟩, k⟩ := h
  have hp6 := hN.p6
  have hl8 := hN.l8
  unfold w__law_is_route
  refine wSeq_i fun κ hκ => ?_
  cases v <;> try (walk_at "dl2"; exact ⟨_, Sub.refl _, k⟩)
  rename_i ds
  rcases ds with _ | ⟨x, _ | ⟨y, _ | ⟨z, r⟩⟩⟩
  · walk_at "dl2"; exact ⟨_, Sub.refl _, k⟩
  · rw [isRouteD_no (fun _ _ e => by cases e)] at k
    walk_at "dl2"; exact ⟨_, Sub.refl _, k⟩
  rotate_left
  · rw [isRouteD_no (fun _ _ e => by cases e)] at k
    walk_at "dl2"
    rw [if_pos (by omega)]
    exact ⟨_, Sub.refl _, k⟩
  walk_at "dl2"
  rw [if_neg (by simp)]
  have shy : SeqAt.shaped y = true := Sh.ok (n := 58) (by
    obtain ⟨a, b⟩ := hv
    constructor
    · simp [PyData.canLay0, PyData.canLayAll0] at a; exact a.2
    · simp only [PyData.depth, PyData.depthAll] at b; omega) (by decide)
  by_cases hy : ∃ ds, y = .tuple ds
  rotate_left
  · rw [isRouteD_no (fun _ _ e => by injection e with e; injection e with e1 e2; injection e2 with e2 e3; exact hy ⟨_, e2⟩)] at k
    cases y <;> first | exact absurd ⟨_, rfl⟩ hy | (walk_at "dl2"; exact ⟨_, Sub.refl _, k⟩)
  obtain ⟨ds, rfl⟩ := hy
  walk_at "dl2"
  refine ⟨shy, ?_⟩
  have hds : ds.length ≤ 3000 := hs
  cases hem : ds.isEmpty with
  | true =>
    have e : isRouteD N (.tuple [x, .tuple ds]) = false := by
      unfold isRouteD
      cases x <;> first | rfl | simp only [hem, Bool.not_true, Bool.false_and, Bool.and_false]
    rw [e] at k
    exact ⟨_, Sub.refl _, k⟩
  | false =>
  simp only [Bool.false_eq_true, if_false]
  rw [isRouteD_ok N x ds hem] at k
  subst hκ
  refine wSeq_i fun κ hκ => ?_
  have en : N.d = .tuple [.int N.p, .tuple (N.ls.map prD)] := rfl
  rw [en]
  walk_at "dl2"
  refine lc_m W.d (fun w => match w with | d => .d (.tuple [d, .int (N.ls.length : Int)])) trivial _ ?_ (by omega) ?_
  · intro d hd Q hQ
    walk_at "dl2"
    exact hQ
  rw [allD_f]
  have el : W.d (.tuple [x, .int N.p]) :: List.map W.d (ds.map fun w => PyData.tuple [w, .int (N.ls.length : Int)]) = (((x, N.p) :: ds.map fun d => (d, (N.ls.length : Int))).map fun e : PyData × Int => W.d (.tuple [e.1, .int e.2])) := by
    simp only [List.map_cons, List.map_map]; rfl
  dsimp only
  rw [el]
  refine ⟨by rw [List.length_map]; omega, ?_⟩
  have hsub : Sub M M := Sub.refl _
  generalize htot : ((x, N.p) :: ds.map fun d => (d, (N.ls.length : Int))) = es at k ⊢
  refine num_loop es _ _ (fun e => ?_) (fun ht x2 x3 => ?_)
  · rw [e, Bool.false_and] at k
    exact ⟨M, hsub, k⟩
  dsimp only
  rw [ht, Bool.true_and] at k
  rw [← htot, List.all_cons, okN_all, Bool.and_eq_true] at ht
  obtain ⟨s, rfl⟩ : ∃ s, x = .int s := by
    by_cases hx : ∃ s, x = .int s
    · exact hx
    · have : okN (x, N.p) = false := by
        unfold okN
        rw [isInt_false fun i e => hx ⟨i, e⟩]; rfl
      rw [this] at ht
      exact absurd ht.1 (by decide)
  obtain ⟨ls, hls⟩ := Option.isSome_iff_exists.mp ht.2
  obtain ⟨hd, hlk⟩ := lnsD_ok hls
  rw [hls] at k
  replace k : R (.d (.bool (goodP (placesP N s ls)))) M := k
  subst hd
  rw [List.length_map] at hds
  clear ht htot hs hls
  subst hκ
  refine wSeq_i fun κ hκ => ?_
  walk_at "dl2"
  intro t ht
  subst hκ
  refine wSeq_i fun κ hκ => ?_
  walk_at "dl2"
  rw [List.map_map]
  have hg0 : goodP (([] ++ [s]).map some ++ walkP N.ls (some s) ls) = goodP (placesP N s ls) := by
    unfold placesP
    rw [List.nil_append, List.map_cons, List.map_nil, List.cons_append, List.nil_append]
  have htM : M t = none := by
    cases e : M t with
    | none => rfl
    | some mo => rw [hsub t mo e] at ht; cases ht
  refine iter_ls (f := W.d ∘ nD) (fun r ρ M' => ∃ (x5 x6 : Option W) (ys : List Int) (z : Int), ρ = [some (.d N.d), some (.d (.tuple [.int s, .tuple (ls.map nD)])), x2, x3, some (.r (.ref t)), x5, x6] ∧ M' t = some (.lst ((ys ++ [z]).map fun i => W.d (.int i))) ∧ Sub M M' ∧ (ys ++ [z]).Nodup ∧ LnOk N r ∧ ys.length + r.length ≤ 3000 ∧ goodP ((ys ++ [z]).map some ++ walkP N.ls (some z) r) = goodP (placesP N s ls)) ?_ ?_ ls _ _ ⟨_, _, [], s, rfl, mset_same, fun b mo hb => ?_, List.pairwise_singleton _ _, hlk, by simp only [List.length_nil]; omega, hg0⟩
  rotate_left
  · rintro l r _ M4 κ2 ⟨x5, x6, ys, z, rfl, h1, h2, h3, h4, h5, h6⟩ hκ2
    have ef : (W.d ∘ nD) l = W.d (nD l) := rfl
    rw [ef]
    rw [List.length_cons] at h5
    refine ⟨trivial, ?_⟩
    refine wSeq_i fun κ3 hκ3 => ?_
    walk_at "dl2"
    simp only [h1, List.map_append, List.map_cons, List.map_nil, atm1]
    refine ⟨N, z, l, rfl, h4 l List.mem_cons_self, ?_⟩
    have h6' : goodP ((ys ++ [z]).map some ++ nextP N.ls z l :: walkP N.ls (nextP N.ls z l) r) = goodP (placesP N s ls) := by rw [walkP_some] at h6; exact h6
    subst hκ3
    refine wSeq_i fun κ3 hκ3 => ?_
    walk_at "dl2"
    cases hn : nextP N.ls z l with
    | none =>
      rw [hn, good_none] at h6'
      rw [← h6'] at k
      exact ⟨M, h2, k⟩
    | some w =>
      rw [hn] at h6'
      have eo : oD (some w) = .int w := rfl
      rw [eo]
      simp only [h1, allD_f]
      walk_at "dl2"
      have fi := flat_ints (ys ++ [z])
      have ai := any_ints (ys ++ [z]) w
      refine ⟨rfl, fi, ?_⟩
      rw [ai]
      by_cases hw : w ∈ ys ++ [z]
      · rw [decide_eq_true hw]
        rw [good_twice hw] at h6'
        rw [← h6'] at k
        exact ⟨M, h2, k⟩
      · rw [decide_eq_false hw]
        subst hκ3
        walk_at "dl2"
        simp only [h1]
        have e7 : (ys ++ [z]).map some ++ some w :: walkP N.ls (some w) r = (ys ++ [z] ++ [w]).map some ++ walkP N.ls (some w) r := by
          rw [List.map_append (l₁ := ys ++ [z]), List.append_assoc]; rfl
        rw [e7] at h6'
        refine ⟨rfl, by rw [List.length_map, List.length_append, List.length_singleton]; omega, hκ2 _ _ ⟨_, _, ys ++ [z], w, rfl, by rw [mset_same, List.map_append (l₁ := ys ++ [z])]; rfl, fun b mo hb => ?_, ?_, fun u hu => h4 u (List.mem_cons_of_mem _ hu), by rw [List.length_append, List.length_singleton]; omega, h6'⟩⟩
        · have n : b ≠ t := fun e => by subst e; rw [htM] at hb; cases hb
          rw [mset_ne n]; exact h2 b mo hb
        · exact List.nodup_append.mpr ⟨h3, List.pairwise_singleton _ _, fun u hu v hv => by
            cases List.mem_singleton.mp hv
            exact fun e => hw (e ▸ hu)⟩
  · have n : b ≠ t := fun e => by subst e; rw [htM] at hb; cases hb
    rw [mset_ne n]; exact hsub b mo hb
  rintro _ M4 ⟨x5, x6, ys, z, rfl, h1, h2, h3, h4, h5, h6⟩
  refine ⟨trivial, ?_⟩
  dsimp only
  subst hκ
  walk_at "dl2"
  have e : walkP N.ls (some z) [] = [] := rfl
  rw [e, good_end h3] at h6
  rw [← h6] at k
  exact ⟨M, h2, k⟩

/-! ### routes bent -/
theorem odd_ok2 {n : Nat} (hn : n ≤ 100) {d : PyData} (h : d ∈ [.bool true, .none, .str "0", .int (-1), .int (n : Int), .tuple [.int 0], .list [.int 0], .int (10 ^ Int.toNat 30), .bool false]) : Rp 1 4000 d := by
  simp only [List.mem_cons, List.not_mem_nil, or_false] at h
  rcases h with rfl | rfl | rfl | rfl | rfl | rfl | rfl | rfl | rfl
  · exact (Rp.bool _).mono (by decide) (by decide)
  · exact Rp.none.mono (by decide) (by decide)
  · exact (Rp.str (by decide +kernel) (by decide +kernel)).mono (by decide) (by decide)
  · exact small_ok (by decide) (by decide)
  · exact small_ok (by omega) (by omega)
  · refine (Rp.tuple' (k := 0) (n := 1921) (m := 1) (ds := [_]) (fun d hd => ?_) (Nat.le_refl 1)).mono (by decide) (by decide)
    cases List.mem_singleton.mp hd
    exact Rp.int (by decide)
  · refine (Rp.list' (k := 0) (n := 1921) (m := 1) (ds := [_]) (fun d hd => ?_) (Nat.le_refl 1)).mono (by decide) (by decide)
    cases List.mem_singleton.mp hd
    exact Rp.int (by decide)
  · exact small_ok (by decide) (by decide)
  · exact (Rp.bool _).mono (by decide) (by decide)
end DL
namespace DL
open PySem PySem.Spec PyProof.Rows L2
/-! ### texts -/
section
variable {X : Cx} {Wx : WX} {k : Nat}
abbrev WMS := Str → List W → MM → KW → Prop
def SndMS (K : PySem.W.Frag) (r : V → List V → Hp → VK → Prop) (f : WMS) : Prop := ∀ M G H a xs vs Q R, Sim K G M H → Paired (RelW K G) xs vs → f a xs M Q → KOk K G M H Q R → r (.str a) vs H R
/-- a text's method -/
def wM1S (f : WMS) (wo we : WE) : WE := fun xq ρ M Q => wo xq ρ M fun o M1 => match o with
  | .d (.str a) => we xq ρ M1 fun x M2 => f a [x] M2 Q
  | _ => False
theorem de_m1 {id : String} {name : Str} {r : V → List V → Hp → VK → Prop} {f : WMS} {o e : Expr} {wo we : WE} {apos pos : Pos} (slot : Slot "str" name id) (ty : typeOf (.builtin id) = pure (.type "method_descriptor")) (rule : MtR X id r) (hs : SndMS X.K r f)
    (ho : DE X Wx o wo) (he : DE X Wx e we) (hst : starEach [e] X.env = [(false, eval e X.env)] := by rfl) (hbase : attributeBase o name X.env (eval o X.env) = eval o X.env := by rfl) (hline : (apos.endLine == pos.line) = true := by rfl) :
    DE X Wx (.Call (.Attribute o name apos) [e] [] pos) (wM1S f wo we) := by
  obtain ⟨to, po, so⟩ := ho
  obtain ⟨te, pe, se⟩ := he
  refine ⟨_, pe_m1 slot ty rule po pe hst hbase hline, fun xq ρ M σ G H Q R rl h kk => ?_⟩
  refine so xq ρ M σ G H _ _ rl h fun v H1 G1 M1 x s1 r1 q1 => ?_
  match x, q1 with
  | .d (.str a), q1 =>
    cases r1
    refine ⟨⟨a, rfl⟩, se xq ρ M1 σ G1 H1 _ _ (rl.next s1) q1 fun u H2 G2 M2 y s2 r2 q2 => ?_⟩
    exact hs M2 G2 H2 a [y] [u] _ _ s2.sim (.cons r2 .nil) q2 fun v' H' G' M' z s3 => kk v' H' G' M' z ((s1.trans s2).trans s3)
def mSplit : WMS := fun a xs M Q => match xs with
  | [.d (.str b)] => ((b.length == 0) = false ∧ a.length + 2 ≤ 16777216) ∧ Q (.d (.list ((Txt.split a b).map .str))) M
  | _ => False
theorem dps_str {K : PySem.W.Frag} {G : Hp} : ∀ ys : List Str, DpAll K G (ys.map V.str) (ys.map PyData.str)
  | [] => .nil
  | y :: r => .cons (.str y) (dps_str r)
theorem sm_split : SndMS X.K (fun x xs H Q => ∃ a b, x = .str a ∧ xs = [.str b] ∧ (b.length == 0) = false ∧ a.length + 2 ≤ sizeLine ∧ rNewStrs (Txt.split a b) H Q) mSplit := fun M G H a xs vs Q R s r h kk => by
  match xs, h with
  | [.d (.str b)], h =>
    obtain ⟨v, rfl, rx⟩ := paired1 r
    cases rx
    obtain ⟨⟨h1, h2⟩, h3⟩ := h
    refine ⟨a, b, rfl, rfl, h1, by rw [sizeLine_eq]; exact h2, fun p hp => ?_⟩
    refine kk _ _ _ _ _ (Stp.dat s hp) ?_ h3
    exact .lst (.inl (.inl upd_same)) (dps_str _)
theorem de_split {o e : Expr} {wo we : WE} {apos pos : Pos} (ho : DE X Wx o wo) (he : DE X Wx e we) (hst : starEach [e] X.env = [(false, eval e X.env)] := by rfl) (hbase : attributeBase o "split" X.env (eval o X.env) = eval o X.env := by rfl) (hline : (apos.endLine == pos.line) = true := by rfl) :
    DE X Wx (.Call (.Attribute o "split" apos) [e] [] pos) (wM1S mSplit wo we) := de_m1 PySem.F.slot_str_split PySem.F.type_str_split mt_split sm_split ho he hst hbase hline
def strsW : List W → Option (List Str)
  | [] => some []
  | .d (.str x) :: r => (strsW r).map (x :: ·)
  | _ :: _ => none
theorem strsW_map (ys : List Str) : strsW (ys.map fun y => W.d (.str y)) = some ys := by
  induction ys with
  | nil => rfl
  | cons y r ih => show (strsW (r.map fun y => W.d (.str y))).map (y :: ·) = _; rw [ih]; rfl
theorem strsW_ok {K : PySem.W.Frag} {G : Hp} : ∀ {ws : List W} {ys : List Str} {vs : List V}, strsW ws = some ys → Paired (RelW K G) ws vs → vs = ys.map V.str
  | [], _, _, h, .nil => by cases h; rfl
  | .d (.str x) :: r, ys, _, h, .cons a t => by
    have h' : (strsW r).map (x :: ·) = some ys := h
    cases e : strsW r with
    | none => rw [e] at h'; cases h'
    | some l =>
      rw [e] at h'; cases h'
      cases a
      rw [strsW_ok e t]; rfl
def mJoin : WMS := fun a xs M Q => match xs with
  | [x] => (match (seeA M x).bind strsW with
    | some ys => (ys.map (·.length)).sum + ys.length * a.length ≤ 16777216 ∧ Q (.d (.str (Txt.join a ys))) M
    | none => False)
  | _ => False
theorem sm_join : SndMS X.K (fun x xs H Q => ∃ a p, ∃ ys : List Str, x = .str a ∧ xs = [.ref p] ∧ (SqL X.K H p (ys.map V.str) ∨ SqT X.K H p (ys.map V.str)) ∧ (ys.map (·.length)).sum + ys.length * a.length ≤ 16777216 ∧ Q (.str (Txt.join a ys)) H) mJoin := fun M G H a xs vs Q R s r h kk => by
  match xs, h with
  | [x], h =>
    obtain ⟨v, rfl, rx⟩ := paired1 r
    have h' : (match (seeA M x).bind strsW with | some ys => (ys.map (·.length)).sum + ys.length * a.length ≤ 16777216 ∧ Q (.d (.str (Txt.join a ys))) M | none => False) := h
    cases e : (seeA M x).bind strsW with
    | none => rw [e] at h'; exact h'.elim
    | some ys =>
      rw [e] at h'
      obtain ⟨ws, e1, e2⟩ := Option.bind_eq_some_iff.mp e
      obtain ⟨p, us, rfl, sq, pr⟩ := seeA_ok s rx e1
      have eu := strsW_ok e2 pr
      subst eu
      exact ⟨a, p, ys, rfl, rfl, sq, h'.1, kk _ _ _ _ _ (Stp.refl s) (Dp.str _) h'.2⟩
theorem de_join {o e : Expr} {wo we : WE} {apos pos : Pos} (ho : DE X Wx o wo) (he : DE X Wx e we) (hst : starEach [e] X.env = [(false, eval e X.env)] := by rfl) (hbase : attributeBase o "join" X.env (eval o X.env) = eval o X.env := by rfl) (hline : (apos.endLine == pos.line) = true := by rfl) :
    DE X Wx (.Call (.Attribute o "join" apos) [e] [] pos) (wM1S mJoin wo we) := de_m1 PySem.F.slot_str_join PySem.F.type_str_join mt_join sm_join ho he hst hbase hline
/-- one sign in a text -/
def oInSign : WO := fun x y M Q => match x, y with
  | .d (.str a), .d (.str z) => (match a.cps.toList with
    | [c] => Q (.d (.bool (decide (c ∈ z.cps.toList)))) M
    | _ => False)
  | _, _ => False
theorem so_inSign : SndO X.K (fun x y H Q => ∃ (c : Nat) (z : Str), x = .str ⟨#[c]⟩ ∧ y = .str z ∧ Q (.bl (decide (c ∈ z.cps.toList))) H) oInSign := fun M G H x y v u Q R s r1 r2 h k => by
  match x, y, h with
  | .d (.str a), .d (.str z), h =>
    cases r1; cases r2
    have h' : (match a.cps.toList with | [c] => Q (.d (.bool (decide (c ∈ z.cps.toList)))) M | _ => False) := h
    cases e : a.cps.toList with
    | nil => rw [e] at h'; exact h'.elim
    | cons c r =>
      cases r with
      | cons => rw [e] at h'; exact h'.elim
      | nil =>
        rw [e] at h'
        have ea : a = ⟨#[c]⟩ := by
          have : a.cps = #[c] := Array.toList_inj.mp e
          cases a
          simp only at this
          rw [this]
        exact ⟨c, z, by rw [ea], rfl, k _ _ _ _ _ (Stp.refl s) (Dp.bl _) h'⟩
/-- int of a text -/
def bIntS : WCl := fun xs M Q => match xs with
  | [.d (.str a)] => a.length ≤ 640 ∧ (match PySem.intText? a with
    | some n => Q (.d (.int n)) M
    | none => False)
  | _ => False
theorem sc_intS : SndC X.K (fun xs H Q => ∃ a n, xs = [.str a] ∧ PySem.intText? a = some n ∧ a.length ≤ 640 ∧ Q (.int n) H) bIntS := fun M G H xs vs Q R s r h k => by
  match xs, h with
  | [.d (.str a)], h =>
    obtain ⟨v, rfl, rx⟩ := paired1 r
    cases rx
    obtain ⟨h1, h2⟩ := h
    cases e : PySem.intText? a with
    | none => rw [e] at h2; exact h2.elim
    | some n =>
      rw [e] at h2
      exact ⟨a, n, rfl, e, h1, k _ _ _ _ _ (Stp.refl s) (Dp.int _) h2⟩
/-- a text so many times -/
def repS (a : Str) (n : Nat) : Str := ⟨(List.replicate n a.cps).foldl (· ++ ·) #[]⟩
theorem fold_len (x : Array Nat) : ∀ (n : Nat) (acc : Array Nat), ((List.replicate n x).foldl (· ++ ·) acc).size = acc.size + n * x.size
  | 0, acc => by simp
  | n + 1, acc => by
    rw [List.replicate_succ, List.foldl_cons, fold_len x n, Array.size_append, Nat.add_mul]; omega
theorem repS_len (a : Str) (n : Nat) : (repS a n).length = n * a.length := by
  show ((List.replicate n a.cps).foldl (· ++ ·) #[]).size = n * a.cps.size
  rw [fold_len]; simp
def rMulS : R2 := fun x y H Q => ∃ a n, x = .str a ∧ y = .int n ∧ 0 ≤ n ∧ n ≤ 1000 ∧ a.length ≤ 1000 ∧ Q (.str (repS a n.toNat)) H
theorem op_mulS : OpR X (binaryOp .Mult) rMulS := by
  intro pins s σ H x y v u Q I rx ry h
  obtain ⟨a, n, rfl, rfl, h0, h1, ha, q⟩ := h
  obtain ⟨t, rfl⟩ := rx
  obtain ⟨t', rfl⟩ := ry
  have hm : a.length * n.toNat ≤ 1000 * 1000 := Nat.mul_le_mul ha (by omega)
  refine PySem.P.mul_str (by
      have h2 : ¬ n ≥ 2 ^ 63 := by omega
      have h3 : ¬ n < -(2 ^ 63 : Int) := by omega
      rw [decide_eq_false h3, decide_eq_false h2]; rfl) (fun h2 _ => ?_) (fun _ _ => ?_) ?_
  · have h3 : ((a.length : Nat) : Int) * n ≤ 2 ^ 63 - 1 := by
      have : ((a.length * n.toNat : Nat) : Int) ≤ 1000 * 1000 := by exact_mod_cast hm
      rw [Int.natCast_mul, Int.toNat_of_nonneg h0] at this
      omega
    have := Int.le_ediv_of_mul_le (show 0 < n by omega) h3
    omega
  · show decide (a.length * n.toNat > sizeLine) = false
    rw [sizeLine_eq]
    exact decide_eq_false (by omega)
  · by_cases c1 : n < 1
    · rw [if_pos c1]
      have e0 : n.toNat = 0 := by omega
      rw [e0] at q
      exact ⟨by decide, ⟨.str _, H, I.tok _, ⟨_, rfl⟩, q⟩⟩
    · rw [if_neg c1]
      by_cases c2 : (n == 1 || a.length == 0) = true
      · rw [if_pos c2]
        have ea : repS a n.toNat = a := by
          rw [Bool.or_eq_true, beq_iff_eq, beq_iff_eq] at c2
          rcases c2 with rfl | c2
          · show (⟨#[] ++ a.cps⟩ : Str) = a
            rw [Array.empty_append]
          · have e1 : a.cps = #[] := Array.eq_empty_of_size_eq_zero c2
            unfold repS
            rw [e1]
            have : ∀ n : Nat, (List.replicate n (#[] : Array Nat)).foldl (· ++ ·) #[] = #[] := by
              intro n
              induction n with
              | zero => rfl
              | succ n ih => rw [List.replicate_succ, List.foldl_cons, Array.append_empty]; exact ih
            rw [this, ← e1]
        rw [ea] at q
        exact ⟨.str _, H, I, ⟨_, rfl⟩, q⟩
      · rw [if_neg c2]
        refine ⟨?_, ⟨.str _, H, I.tok _, ⟨_, rfl⟩, q⟩⟩
        show (repS a n.toNat).length ≤ sizeLine
        rw [repS_len, sizeLine_eq, Nat.mul_comm]
        omega
def oMulS : WO := fun x y M Q => match x, y with
  | .d (.str a), .d (.int n) => (0 ≤ n ∧ n ≤ 1000 ∧ a.length ≤ 1000) ∧ Q (.d (.str (repS a n.toNat))) M
  | _, _ => False
theorem so_mulS : SndO X.K rMulS oMulS := fun M G H x y v u Q R s r1 r2 h k => by
  match x, y, h with
  | .d (.str a), .d (.int n), h =>
    cases r1; cases r2
    exact ⟨a, n, rfl, rfl, h.1.1, h.1.2.1, h.1.2.2, k _ _ _ _ _ (Stp.refl s) (Dp.str _) h.2⟩
/-- the signs of a text, one by one -/
def sgW (x : Str) : List W := x.cps.toList.map fun c => .d (.str ⟨#[c]⟩)
theorem jok_str {K : PySem.W.Frag} {G : Hp} {x : Str} : JOk K G (Its x) (sgW x) (fun _ => True) := fun i G' M' H' e s st => by
  have hl : (sgW x).length = x.cps.size := by unfold sgW; rw [List.length_map, Array.length_toList]
  rw [hl]
  refine ⟨fun hi => ⟨hi, fun y H2 hy => ?_⟩, fun hi => hi⟩
  obtain ⟨rfl, c, hc, rfl⟩ := hy
  refine ⟨G', .d (.str ⟨#[c]⟩), Stp.refl s, ?_, Dp.str _⟩
  unfold sgW
  rw [List.getElem?_map, Array.getElem?_toList, hc]; rfl
def iG (w : WE) : WI := fun xq ρ M Q => w xq ρ M fun x M1 => match x with
  | .d (.str z) => Q (sgW z) (fun _ => True) M1
  | _ => False
theorem di_str {tg e : Expr} {w : WE} (h : DE X Wx e w) : DI X Wx tg e (iG w) := by
  obtain ⟨t, p, s⟩ := h
  refine ⟨_, pi_str p, fun xq ρ M σ G H Q R rl h kk => ?_⟩
  refine s xq ρ M σ G H _ _ rl h fun v H1 G1 M1 x s1 r1 q1 => ?_
  match x, q1 with
  | .d (.str z), q1 =>
    cases r1
    exact ⟨z, rfl, kk _ _ _ _ _ _ s1 jok_str q1⟩
end
theorem kc_str {K : PySem.W.Frag} {h : Heap} {mg : Str → Option Value} {fa : List He.Fa} {fn : List He.DefD} (X : K.In h) (G : h.Ns mainGlobals mg) (c : He.SaysD fa fn K) (j : Nat) {x z : Str} (hj : fa[j]? = some (.str x z)) : KC K mg x (.str z) := by
  obtain ⟨t, ht⟩ := He.str_ok X G (c.fact j hj)
  exact ⟨⟨_, .str z, ht, ⟨t, rfl⟩, fun G => Dp.str z⟩⟩
/-! ### a def under another name of the module -/
structure DefA (K : PySem.W.Frag) (mg : Str → Option Value) (x y : Str) (st : Stmt) (ps : List Str) : Prop where
  ex : ∃ f fd, mg x = some (.ref f) ∧ Fun K y y st f fd ∧ ∀ us : List Value, us.length = ps.length → bindArgs fd ⟨us, []⟩ = pure (ps.zip us)
theorem hasF_okA {P : Program} {w : World} {K : PySem.W.Frag} {mg : Str → Option Value} {base : Heap} {x y : Str} {st : Stmt} {N ps : List Str} {k : Nat} {ds : DSp} (D : DefA K mg x y st ps) (S : FnScope N ps (defScope st)) (len : ∀ ws M R xr, ds ws M R xr → ws.length = ps.length) (wb : WS)
    (hbody : ∀ (f : Addr) (cdv : Value) (A : Around) (outer : List PySem.Env) (s : Shared) (H : Hp) (E : XK), Cq (cxOf (L2.CX P w) P w K mg base N y (defScope st) f cdv A outer s H E) (fun cls d _ H => E cls d H) k →
      PassesOwn (model P w) (A.deeper (envOfC y (defScope st) s.heap.objs.size f cdv)) (envOfC y (defScope st) s.heap.objs.size f cdv) (cxOf (L2.CX P w) P w K mg base N y (defScope st) f cdv A outer s H E).xe →
      DSs (cxOf (L2.CX P w) P w K mg base N y (defScope st) f cdv A outer s H E) (fun cls d _ H => E cls d H) (defBody st) wb)
    (pure : ∀ ws M R xr, ds ws M R xr → wb (dEnds R xr) (startD N ws) M) : HasF P w K mg base (k + 1) x ps ds := by
  obtain ⟨f, fd, hm, F, hb⟩ := D.ex
  have lk : ∃ oc od osl, K.lookup f = some ⟨oc, od, .func fd, osl⟩ := by
    obtain ⟨oc, od, kV, doc, pm, an, cdv, ct, osl, _, lk, _⟩ := F.ex
    exact ⟨oc, od, osl, lk⟩
  exact ⟨f, fd, hm, F.kp, hb, lk, fnD_ok F S len wb (fun cdv A outer s H E c hp => hbody f cdv A outer s H E c hp) pure⟩
def datA (x y : Str) (st : Stmt) : He.DefD := { at_ := (x, none), name := y, qual := y, params := defArgs st, body := defBody st, scope := defScope st }
theorem def_ofA {K : PySem.W.Frag} {h : Heap} {mg : Str → Option Value} {fa : List He.Fa} {fn : List He.DefD} (X : K.In h) (G : h.Ns mainGlobals mg) (c : He.SaysD fa fn K) (i j : Nat) {x y : Str} {st : Stmt} {ps : List Str} (hi : fn[i]? = some (datA x y st)) (hj : fa[j]? = some (.glo x))
    (hb : ∀ (kV doc pm : Value) (an : Option Addr) (cdv ct : Value) (us : List Value), us.length = ps.length → bindArgs (PySem.W.fnOf y y (defArgs st) (defBody st) (defScope st) .none kV doc pm an cdv ct) ⟨us, []⟩ = pure (ps.zip us)) : DefA K mg x y st ps := by
  obtain ⟨fd, F⟩ := c.def_ i hi
  have g := He.glo_ok X G (c.fact j hj)
  obtain ⟨oc, od, dV, kV, doc, pm, an, cdv, ct, osl, rfl, lk, hcd, hD, hK⟩ := F.ex
  rcases hD with ⟨_, rfl⟩ | ⟨e, _⟩
  · exact ⟨_, _, g, ⟨⟨oc, od, kV, doc, pm, an, cdv, ct, osl, rfl, lk, hcd⟩, F.kp⟩, hb kV doc pm an cdv ct⟩
  · exact absurd rfl e
end DL
namespace DL
open PySem PySem.Spec PyProof.Rows L2 TL
local macro_rules | `(tactic| walk_at "dl2") => `(tactic| simp only [wAsg, wOp, wVar, wC, wgN, wgTup, wgCons, wgNil, wgSub, setW, wIf, wTest, wNext, wRet, wRetN, wDrop, wAndT, wOrT, wNotT, wAndV, wOrV, wNotV, wIfE, wNeg, wNil, wCons, wTup, wTupR, wLst, wBlt, wCall, wFrz, wFz, frz, wSl, wNoP, wSoP, wPar2, wPar3, wMethL, mAppend, isLst,
  wRev, wInR, wLenSet, bStr, bMax2, bMin2, wChain, wLc, wipeW, wYes, xq0, mkL, mkT, allD, allD_map, seeL, seeD, seeT, seeS, ownL, oIx, ixW, oAdd, oSub, oMul, oMod, oDiv, oPow, oLt, oLe, oGt, oGe, oB, isInts, oEq, oIsN, isNon, oIsB, oIn, oCat, oRep, bLen, bInt, bAbs, bList, bTuple, seeA, bSum, bInts, bAll, bAny, bBools, bIsi, tyName, bReprS,
  wFor, iR1, iR2, iS, iE, iEB, enW, iZ, stL, startD, dEnds, fin, at0, at1, at2, at3, at4, atm1, atm1', ix40, ix41, ix42, ix43, eqv_int, eqv_none_int, eqv_int_none, eqv_none, eqv_lnil, eqv_tnil, eqv_str, sh_int, sh_none, sh_bool, sh_ints, sh_nil, sh_tints, sh_tnil,
  kit_NoneType_bool, kit_NoneType_int, kit_NoneType_str, kit_NoneType_list, kit_NoneType_tuple, kit_bool_bool, kit_bool_int, kit_bool_str, kit_bool_list, kit_bool_tuple, kit_int_bool, kit_int_int, kit_int_str, kit_int_list, kit_int_tuple, kit_str_bool, kit_str_int, kit_str_str, kit_str_list, kit_str_tuple,
  kit_list_bool, kit_list_int, kit_list_str, kit_list_list, kit_list_tuple, kit_tuple_bool, kit_tuple_int, kit_tuple_str, kit_tuple_list, kit_tuple_tuple, kit_dict_bool, kit_dict_int, kit_dict_str, kit_dict_list, kit_dict_tuple,
  List.map_cons, List.map_nil, List.length_cons, List.length_nil, List.length_map, List.replicate, List.cons_append, List.nil_append, List.getElem?_cons_zero, List.getElem?_cons_succ, List.set_cons_zero, List.set_cons_succ, List.isEmpty_map,
  Bool.false_eq_true, reduceCtorEq, Nat.reduceAdd, Nat.reduceSub, Nat.reduceLeDiff, Option.map_some, Option.bind_some, true_and, and_true, decide_eq_true_eq, Bool.not_eq_true', Bool.not_true, Bool.not_false, decide_eq_false_iff_not, if_true, if_false, ite_true, ite_false, reduceIte, mset_same, cut_map, allD_f, allD_app, allD_rev, rep_map, Option.map_none, wSortK, bSorted, wMinD, bMinL, mExtend, iZA, wM1S, mSplit, mJoin, iG, oInSign, bIntS, oMulS, strsW])
abbrev c_DIGITS : PyData := .str "0123456789"
abbrev c_ROUTE_WORDS' : PyData := .tuple ((["one", "only"] : List Str).map PyData.str)
def w_number_of : WS := (wSeq (wIf (wOrT (wTest (wOp (oEq false) (wVar 0) (wC (.d (.str ""))))) (wOrT (wTest (wOp oGt (wBlt bLen (wCons (wVar 0) wNil)) (wC (.d (.int 600))))) (wNotT (wTest (wBlt bAll (wCons (wLc false (iG (wVar 0)) (wgN 1) wYes (wOp oInSign (wVar 1) (wC (.d c_DIGITS))) [1]) wNil)))))) (wRet (wC (.d .none))) wNext)
    (wSeq (wIf (wAndT (wTest (wOp (oEq false) (wOp oIx (wVar 0) (wC (.d (.int 0)))) (wC (.d (.str "0"))))) (wTest (wOp oGt (wBlt bLen (wCons (wVar 0) wNil)) (wC (.d (.int 1)))))) (wRet (wC (.d .none))) wNext)
    (wRet (wBlt bIntS (wCons (wVar 0) wNil)))))
def w_numbers_of (sp_number_of : DSp) : WS := (wSeq (wAsg (wLc false (iS (wM1S mSplit (wVar 0) (wVar 1))) (wgN 3) wYes (wCall sp_number_of (wCons (wVar 3) wNil)) [3]) (wgN 2))
    (wRet (wIfE (wTest (wOp (oIn false) (wC (.d .none)) (wVar 2))) (wC (.d .none)) (wBlt bTuple (wCons (wVar 2) wNil)))))
def w_places_of_texts (sp_number_of : DSp) : WS := (wSeq (wAsg (wCall sp_number_of (wCons (wVar 0) wNil)) (wgN 1))
    (wRet (wIfE (wAndT (wTest (wOp (oIsN true) (wVar 1) (wC (.d .none)))) (wTest (wChain oLe oLe (wC (.d (.int 2))) (wVar 1) (wC (.d (.int 6)))))) (wVar 1) (wC (.d .none)))))
def w_pair_of (sp_numbers_of : DSp) : WS := (wSeq (wAsg (wCall sp_numbers_of (wCons (wVar 0) (wCons (wC (.d (.str "-"))) wNil))) (wgN 2))
    (wSeq (wIf (wOrT (wTest (wOp (oIsN false) (wVar 2) (wC (.d .none)))) (wTest (wOp (oEq true) (wBlt bLen (wCons (wVar 2) wNil)) (wC (.d (.int 2)))))) (wRet (wC (.d .none))) wNext)
    (wRet (wIfE (wAndT (wTest (wOp oLt (wOp oIx (wVar 2) (wC (.d (.int 0)))) (wOp oIx (wVar 2) (wC (.d (.int 1)))))) (wTest (wOp oLt (wOp oIx (wVar 2) (wC (.d (.int 1)))) (wVar 1)))) (wVar 2) (wC (.d .none))))))
def w_times_of (sp_number_of : DSp) : WS := (wSeq (wAsg (wCall sp_number_of (wCons (wVar 0) wNil)) (wgN 1))
    (wRet (wIfE (wTest (wOp (oEq true) (wVar 1) (wC (.d (.int 0))))) (wVar 1) (wC (.d .none)))))
def w_route_of (sp_number_of : DSp) (sp_numbers_of : DSp) (sp_is_route : DSp) : WS := (wSeq (wAsg (wM1S mSplit (wVar 0) (wC (.d (.str ":")))) (wgN 2))
    (wSeq (wIf (wTest (wOp (oEq true) (wBlt bLen (wCons (wVar 2) wNil)) (wC (.d (.int 2))))) (wRet (wC (.d .none))) wNext)
    (wSeq (wPar2 3 4 (wCons (wCall sp_number_of (wCons (wOp oIx (wVar 2) (wC (.d (.int 0)))) wNil)) (wCons (wCall sp_numbers_of (wCons (wOp oIx (wVar 2) (wC (.d (.int 1)))) (wCons (wC (.d (.str "."))) wNil))) wNil)))
    (wSeq (wIf (wOrT (wTest (wOp (oIsN false) (wVar 3) (wC (.d .none)))) (wTest (wOp (oIsN false) (wVar 4) (wC (.d .none))))) (wRet (wC (.d .none))) wNext)
    (wRet (wIfE (wTest (wCall sp_is_route (wCons (wVar 1) (wCons (wTup (wCons (wVar 3) (wCons (wVar 4) wNil))) wNil)))) (wTup (wCons (wVar 3) (wCons (wVar 4) wNil))) (wC (.d .none))))))))
/-! ### words that are numbers -/
def isDig (c : Nat) : Bool := decide (48 ≤ c) && decide (c ≤ 57)
def numP (w : Str) : Option Nat := if tl w = [] then none else if 600 < w.length then none else if (tl w).all isDig = false then none else if (tl w).head? = some 48 ∧ 1 < w.length then none else some (NumText.digitsVal (tl w))
def onD : Option Nat → PyData
  | some n => nD n
  | none => .none
def sp_number_of : DSp := fun ws M R xr => ∃ w : Str, ws = [.d (.str w)] ∧ OkS w ∧ w.length ≤ 16777216 ∧ R (.d (onD (numP w))) M
theorem sh_lit (s : String) : SeqAt.shaped (.str (Str.ofString s)) = true := sh_str _ (OkS.lit s).ok
theorem str_nil {w : Str} : w = ("" : Str) ↔ tl w = [] := ⟨fun h => by rw [h]; rfl, fun h => ext_tl h⟩
theorem dig_in (c : Nat) : decide (c ∈ (("0123456789" : Str)).cps.toList) = isDig c := by
  have e : (("0123456789" : Str)).cps.toList = [48, 49, 50, 51, 52, 53, 54, 55, 56, 57] := by rfl
  rw [e]
  unfold isDig
  rw [Bool.eq_iff_iff, decide_eq_true_iff, Bool.and_eq_true, decide_eq_true_iff, decide_eq_true_iff]
  simp only [List.mem_cons, List.not_mem_nil, or_false]
  omega
theorem all_dig {l : List Nat} (h : l.all isDig = true) : NumText.AllDigits l := fun c hc => by
  have := List.all_eq_true.mp h c hc
  unfold isDig at this
  rw [Bool.and_eq_true, decide_eq_true_iff, decide_eq_true_iff] at this
  exact this
theorem dig_all {l : List Nat} (h : NumText.AllDigits l) : l.all isDig = true := List.all_eq_true.mpr fun c hc => by
  unfold isDig
  rw [Bool.and_eq_true, decide_eq_true_iff, decide_eq_true_iff]
  exact h c hc
theorem pure_number_of (ws : List W) (M : MM) (R : KW) (xr : XR) (h : sp_number_of ws M R xr) : w_number_of (dEnds R xr) (startD ["word", "sign"] ws) M := by
  obtain ⟨w, rfl, hw, hl, k⟩ := h
  unfold w_number_of
  refine wSeq_i fun κ hκ => ?_
  walk_at "dl2"
  refine ⟨sh_str _ hw.ok, sh_lit _, ?_⟩
  by_cases h0 : tl w = []
  · rw [if_pos (str_nil.mpr h0)]
    unfold numP at k
    rw [if_pos h0] at k
    exact ⟨_, Sub.refl _, k⟩
  rw [if_neg (fun z => h0 (str_nil.mp z))]
  refine ⟨hl, ?_⟩
  by_cases h1 : 600 < w.length
  · rw [if_pos (by omega)]
    unfold numP at k
    rw [if_neg h0, if_pos h1] at k
    exact ⟨_, Sub.refl _, k⟩
  rw [if_neg (by omega)]
  unfold sgW
  refine lc_m (fun c : Nat => W.d (.str ⟨#[c]⟩)) (fun c : Nat => W.d (.bool (isDig c))) trivial _ (fun c _ Q hQ => ?_) (by rw [Array.length_toList]; show w.length ≤ _; omega) ?_
  · show wOp _ _ _ xq0 [_, some (.d (.str ⟨#[c]⟩))] M Q
    walk_at "dl2"
    show Q (.d (.bool (decide (c ∈ (("0123456789" : Str)).cps.toList)))) M
    rw [dig_in]; exact hQ
  rw [allD_f]
  simp only [boolsD_f]
  have ea : (w.cps.toList.map isDig).all id = (tl w).all isDig := by rw [List.all_map]; rfl
  rw [ea]
  cases hd : (tl w).all isDig with
  | false =>
    unfold numP at k
    rw [if_neg h0, if_neg h1, if_pos hd] at k
    exact ⟨_, Sub.refl _, k⟩
  | true =>
  rw [if_neg (by decide)]
  subst hκ
  refine wSeq_i fun κ hκ => ?_
  walk_at "dl2"
  obtain ⟨c, r, hc⟩ : ∃ c r, tl w = c :: r := by
    cases hq : tl w with
    | nil => exact absurd hq h0
    | cons c r => exact ⟨c, r, rfl⟩
  have ec : w.cps.toList = c :: r := hc
  rw [ec, at0]
  dsimp only
  refine ⟨hl, sh_str _ (OkS.ok fun z hz => ?_), sh_lit _, ?_⟩
  · have : z ∈ [c] := hz
    cases List.mem_singleton.mp this
    exact hw _ (by rw [ec]; exact List.mem_cons_self)
  have en : ((⟨#[c]⟩ : Str) = Str.ofString "0") ↔ (c = 48) := by
    constructor
    · intro h
      have : tl ⟨#[c]⟩ = tl (Str.ofString "0") := by rw [h]
      have h2 : [c] = [48] := this
      injection h2
    · rintro rfl; rfl
  have ei : numP w = if c = 48 ∧ 1 < w.length then none else some (NumText.digitsVal (tl w)) := by
    unfold numP
    rw [if_neg h0, if_neg h1, if_neg (by rw [hd]; decide), hc]
    simp only [List.head?_cons, Option.some.injEq]
  have K : ¬ (c = 48 ∧ 1 < w.length) → κ [some (W.d (PyData.str w)), none] M := fun hn => by
    subst hκ
    walk_at "dl2"
    rw [intText_digits (all_dig hd) h0 (by omega)]
    dsimp only
    refine ⟨by omega, _, Sub.refl _, ?_⟩
    rw [ei, if_neg hn] at k
    exact k
  by_cases h2 : c = 48
  · rw [if_pos (en.mpr h2)]
    refine ⟨hl, ?_⟩
    by_cases h3 : 1 < w.length
    · rw [if_pos (by omega)]
      rw [ei, if_pos ⟨h2, h3⟩] at k
      exact ⟨_, Sub.refl _, k⟩
    · rw [if_neg (by omega)]
      exact K fun z => h3 z.2
  · rw [if_neg fun z => h2 (en.mp z)]
    exact K fun z => h2 z.1
/-! ### words that are several numbers -/
def optAll {α : Type} : List (Option α) → Option (List α)
  | [] => some []
  | none :: _ => none
  | some x :: r => (optAll r).map (x :: ·)
def numsP (w b : Str) : Option (List Nat) := optAll ((Txt.split w b).map numP)
def onsD : Option (List Nat) → PyData
  | some ns => lnD ns
  | none => .none
theorem eqv_int_non (i : Int) : PyData.eqv (.int i) .none = false := eqv_int_none i
theorem any_onD : ∀ os : List (Option Nat), ((os.map onD).any fun z => PyData.eqv z .none) = (optAll os).isNone
  | [] => rfl
  | none :: r => by
    rw [List.map_cons, List.any_cons]
    show (PyData.eqv .none .none || _) = true
    rw [eqv_none]; rfl
  | some x :: r => by
    rw [List.map_cons, List.any_cons, any_onD r]
    show (PyData.eqv (.int (x : Int)) .none || _) = _
    rw [eqv_int_none]
    show (optAll r).isNone = ((optAll r).map (x :: ·)).isNone
    cases optAll r <;> rfl
theorem optAll_map {α : Type} : ∀ {os : List (Option α)} {xs : List α}, optAll os = some xs → os = xs.map some
  | [], xs, h => by cases h; rfl
  | none :: _, xs, h => by cases h
  | some x :: r, xs, h => by
    have h' : (optAll r).map (x :: ·) = some xs := h
    cases e : optAll r with
    | none => rw [e] at h'; cases h'
    | some l => rw [e] at h'; cases h'; rw [optAll_map e]; rfl
theorem optAll_some {α : Type} : ∀ xs : List α, optAll (xs.map some) = some xs
  | [] => rfl
  | x :: r => by
    show (optAll (r.map some)).map (x :: ·) = _
    rw [optAll_some r]; rfl
theorem spl_parts {S : List Nat} : ∀ (l : List Nat) (k : Nat) (acc : List Nat), ∀ p ∈ spl S k acc l, (∀ c ∈ p, c ∈ acc ∨ c ∈ l) ∧ p.length ≤ acc.length + l.length
  | [], k, acc, p, h => by
    rw [spl_nil] at h
    cases List.mem_singleton.mp h
    exact ⟨fun c hc => .inl hc, by simp⟩
  | c :: r, 0, acc, p, h => by
    by_cases hp : pre S (c :: r) = true
    · rw [spl_hit hp] at h
      rcases List.mem_cons.mp h with rfl | h
      · exact ⟨fun c hc => .inl hc, by omega⟩
      · obtain ⟨a, b⟩ := spl_parts r _ [] p h
        refine ⟨fun x hx => ?_, by rw [List.length_cons]; simp only [List.length_nil] at b; omega⟩
        rcases a x hx with h | h
        · cases h
        · exact .inr (List.mem_cons_of_mem _ h)
    · rw [spl_miss (by simpa using hp)] at h
      obtain ⟨a, b⟩ := spl_parts r 0 (acc ++ [c]) p h
      rw [List.length_append, List.length_singleton] at b
      refine ⟨fun x hx => ?_, by rw [List.length_cons]; omega⟩
      rcases a x hx with h | h
      · rcases List.mem_append.mp h with h | h
        · exact .inl h
        · cases List.mem_singleton.mp h; exact .inr List.mem_cons_self
      · exact .inr (List.mem_cons_of_mem _ h)
  | c :: r, k + 1, acc, p, h => by
    have h' : p ∈ spl S k acc r := h
    obtain ⟨a, b⟩ := spl_parts r k acc p h'
    refine ⟨fun x hx => ?_, by rw [List.length_cons]; omega⟩
    rcases a x hx with h | h
    · exact .inl h
    · exact .inr (List.mem_cons_of_mem _ h)
/-- a plain sign to cut at -/
def SepOk (b : Str) : Prop := tl b ≠ [] ∧ b.cps.all (· < 256) = true
theorem split_parts {w b : Str} (hb : SepOk b) (hw : OkS w) : ∀ p ∈ Txt.split w b, OkS p ∧ p.length ≤ w.length := fun p hp => by
  have h1 : tl p ∈ (Txt.split w b).map tl := List.mem_map_of_mem hp
  rw [split_spl w b hb.1 (kind_ok hb.2)] at h1
  obtain ⟨a, b⟩ := spl_parts _ _ _ _ h1
  refine ⟨fun c hc => ?_, by rw [len_tl, len_tl w]; simpa using b⟩
  rcases a c hc with h | h
  · cases h
  · exact hw c h
theorem SepOk.len {b : Str} (h : SepOk b) : (b.length == 0) = false := by
  rw [len_tl]
  cases hq : tl b with
  | nil => exact absurd hq h.1
  | cons => rfl
def sp_numbers_of : DSp := fun ws M R xr => ∃ w b : Str, ws = [.d (.str w), .d (.str b)] ∧ OkS w ∧ w.length ≤ 16000000 ∧ SepOk b ∧ R (.d (onsD (numsP w b))) M
theorem pure_numbers_of (ws : List W) (M : MM) (R : KW) (xr : XR) (h : sp_numbers_of ws M R xr) : w_numbers_of sp_number_of (dEnds R xr) (startD ["word", "between", "found", "part"] ws) M := by
  obtain ⟨w, b, rfl, hw, hl, hb, k⟩ := h
  unfold w_numbers_of
  refine wSeq_i fun κ hκ => ?_
  walk_at "dl2"
  refine ⟨⟨hb.len, by omega⟩, ?_⟩
  rw [List.map_map]
  refine lc_m (W.d ∘ PyData.str) (fun p => W.d (onD (numP p))) trivial _ (fun p hp Q hQ => ?_) (by have := PyProof.Rows.split_le w b; omega) ?_
  · obtain ⟨h1, h2⟩ := split_parts hb hw p hp
    show wCall sp_number_of _ xq0 [_, _, _, some (.d (.str p))] M Q
    walk_at "dl2"
    exact ⟨p, rfl, h1, by omega, hQ⟩
  rw [allD_f]
  dsimp only
  subst hκ
  walk_at "dl2"
  have e : ((Txt.split w b).map fun p => onD (numP p)) = ((Txt.split w b).map numP).map onD := by rw [List.map_map]; rfl
  rw [e, any_onD]
  have hf : (((Txt.split w b).map numP).map onD).all flatD = true := by
    rw [List.all_map]
    exact List.all_eq_true.mpr fun o _ => by cases o <;> rfl
  refine ⟨rfl, hf, ?_⟩
  cases ho : optAll ((Txt.split w b).map numP) with
  | none =>
    rw [show numsP w b = none from ho] at k
    rw [if_pos (show (none : Option (List Nat)).isNone = true from rfl)]
    exact ⟨_, Sub.refl _, k⟩
  | some ns =>
    rw [show numsP w b = some ns from ho] at k
    rw [if_neg (show ¬ (some ns).isNone = true from fun z => by cases z), optAll_map ho]
    have e2 : (ns.map some).map onD = ns.map nD := by rw [List.map_map]; rfl
    rw [e2]
    exact ⟨_, Sub.refl _, k⟩
def plcP (w : Str) : Option Nat := (numP w).filter fun n => decide (2 ≤ n) && decide (n ≤ 6)
def sp_places_of_texts : DSp := fun ws M R xr => ∃ w : Str, ws = [.d (.str w)] ∧ OkS w ∧ w.length ≤ 16777216 ∧ R (.d (onD (plcP w))) M
theorem pure_places_of_texts (ws : List W) (M : MM) (R : KW) (xr : XR) (h : sp_places_of_texts ws M R xr) : w_places_of_texts sp_number_of (dEnds R xr) (startD ["word", "number"] ws) M := by
  obtain ⟨w, rfl, hw, hl, k⟩ := h
  unfold w_places_of_texts
  refine wSeq_i fun κ hκ => ?_
  walk_at "dl2"
  refine ⟨w, rfl, hw, hl, ?_⟩
  subst hκ
  unfold plcP at k
  cases hq : numP w with
  | none =>
    rw [hq] at k
    unfold onD
    walk_at "dl2"
    exact ⟨_, Sub.refl _, k⟩
  | some n =>
    rw [hq] at k
    unfold onD nD
    walk_at "dl2"
    rw [Option.filter_some] at k
    by_cases h1 : 2 ≤ n
    · rw [if_pos (by omega)]
      rw [decide_eq_true h1, Bool.true_and] at k
      by_cases h2 : n ≤ 6
      · rw [if_pos (by omega)]
        rw [decide_eq_true h2, if_pos rfl] at k
        exact ⟨_, Sub.refl _, k⟩
      · rw [if_neg (by omega)]
        rw [decide_eq_false h2, if_neg (by decide)] at k
        exact ⟨_, Sub.refl _, k⟩
    · rw [if_neg (by omega)]
      rw [decide_eq_false h1, Bool.false_and, if_neg (by decide)] at k
      exact ⟨_, Sub.refl _, k⟩
def prP (w : Str) (p : Int) : Option (Nat × Nat) := match numsP w "-" with
  | some [a, b] => if a < b ∧ (b : Int) < p then some (a, b) else none
  | _ => none
def oprD : Option (Nat × Nat) → PyData
  | some x => prD ((x.1 : Int), (x.2 : Int))
  | none => .none
def sp_pair_of : DSp := fun ws M R xr => ∃ (w : Str) (p : Int), ws = [.d (.str w), .d (.int p)] ∧ OkS w ∧ w.length ≤ 16000000 ∧ R (.d (oprD (prP w p))) M
theorem sep_of {b : Str} {c : Nat} (h : tl b = [c]) (hc : c < 256) : SepOk b := ⟨by rw [h]; exact fun z => (nomatch z), by
  have e : b.cps = #[c] := Array.toList_inj.mp h
  rw [e]
  simp [hc]⟩
theorem sep_minus : SepOk "-" := sep_of (c := 45) rfl (by decide)
theorem sep_dot : SepOk "." := sep_of (c := 46) rfl (by decide)
theorem sep_colon : SepOk ":" := sep_of (c := 58) rfl (by decide)
theorem sep_blank : SepOk " " := sep_of (c := 32) rfl (by decide)
theorem sep_row : SepOk "\n" := sep_of (c := 10) rfl (by decide)
theorem pure_pair_of (ws : List W) (M : MM) (R : KW) (xr : XR) (h : sp_pair_of ws M R xr) : w_pair_of sp_numbers_of (dEnds R xr) (startD ["word", "places", "found"] ws) M := by
  obtain ⟨w, p, rfl, hw, hl, k⟩ := h
  unfold w_pair_of
  refine wSeq_i fun κ hκ => ?_
  walk_at "dl2"
  refine ⟨w, "-", rfl, hw, hl, sep_minus, ?_⟩
  subst hκ
  refine wSeq_i fun κ hκ => ?_
  unfold prP at k
  cases hq : numsP w "-" with
  | none =>
    rw [hq] at k
    unfold onsD
    walk_at "dl2"
    exact ⟨_, Sub.refl _, k⟩
  | some ns =>
    rw [hq] at k
    unfold onsD lnD
    walk_at "dl2"
    match ns, k with
    | [], k => exact ⟨_, Sub.refl _, k⟩
    | [_], k => exact ⟨_, Sub.refl _, k⟩
    | _ :: _ :: _ :: _, k =>
      rw [if_pos (by simp only [List.length_cons]; omega)]
      exact ⟨_, Sub.refl _, k⟩
    | [a, b], k =>
      rw [if_neg (fun z => z rfl)]
      subst hκ
      unfold nD
      walk_at "dl2"
      dsimp only at k
      by_cases h1 : a < b
      · rw [if_pos (by omega)]
        by_cases h2 : (b : Int) < p
        · rw [if_pos h2]
          rw [if_pos ⟨h1, h2⟩] at k
          exact ⟨_, Sub.refl _, k⟩
        · rw [if_neg h2]
          rw [if_neg fun z => h2 z.2] at k
          exact ⟨_, Sub.refl _, k⟩
      · rw [if_neg (by omega)]
        rw [if_neg fun z => h1 z.1] at k
        exact ⟨_, Sub.refl _, k⟩
def tmP (w : Str) : Option Nat := (numP w).filter fun n => decide (n ≠ 0)
def sp_times_of : DSp := fun ws M R xr => ∃ w : Str, ws = [.d (.str w)] ∧ OkS w ∧ w.length ≤ 16777216 ∧ R (.d (onD (tmP w))) M
theorem pure_times_of (ws : List W) (M : MM) (R : KW) (xr : XR) (h : sp_times_of ws M R xr) : w_times_of sp_number_of (dEnds R xr) (startD ["word", "number"] ws) M := by
  obtain ⟨w, rfl, hw, hl, k⟩ := h
  unfold w_times_of
  refine wSeq_i fun κ hκ => ?_
  walk_at "dl2"
  refine ⟨w, rfl, hw, hl, ?_⟩
  subst hκ
  unfold tmP at k
  cases hq : numP w with
  | none =>
    rw [hq] at k
    unfold onD
    walk_at "dl2"
    exact ⟨_, Sub.refl _, k⟩
  | some n =>
    rw [hq] at k
    unfold onD nD
    walk_at "dl2"
    rw [Option.filter_some] at k
    by_cases h1 : n = 0
    · rw [if_neg (by omega)]
      rw [decide_eq_false (by omega), if_neg (by decide)] at k
      exact ⟨_, Sub.refl _, k⟩
    · rw [if_pos (by omega)]
      rw [decide_eq_true (by omega), if_pos rfl] at k
      exact ⟨_, Sub.refl _, k⟩
/-! ### routes -/
def rtP (N : Net) (w : Str) : Option (Nat × List Nat) := match Txt.split w ":" with
  | [a, b] => (match numP a, numsP b "." with
    | some s, some ls => if isRouteD N (rD s ls) = true then some (s, ls) else none
    | _, _ => none)
  | _ => none
def ortD : Option (Nat × List Nat) → PyData
  | some x => rD x.1 x.2
  | none => .none
def sp_route_of : DSp := fun ws M R xr => ∃ (w : Str) (N : Net), ws = [.d (.str w), .d N.d] ∧ OkS w ∧ w.length ≤ 16000000 ∧ (tl w).count 46 ≤ 2900 ∧ R (.d (ortD (rtP N w))) M
theorem spl_count {S : List Nat} (z : Nat) : ∀ (l : List Nat) (k : Nat) (acc : List Nat), ∀ p ∈ spl S k acc l, p.count z ≤ acc.count z + l.count z
  | [], k, acc, p, h => by
    rw [spl_nil] at h
    cases List.mem_singleton.mp h
    simp
  | c :: r, 0, acc, p, h => by
    by_cases hp : pre S (c :: r) = true
    · rw [spl_hit hp] at h
      rcases List.mem_cons.mp h with rfl | h
      · omega
      · have b := spl_count z r _ [] p h
        rw [List.count_cons]; simp only [List.count_nil] at b; omega
    · rw [spl_miss (by simpa using hp)] at h
      have b := spl_count z r 0 (acc ++ [c]) p h
      rw [List.count_append, List.count_singleton] at b
      rw [List.count_cons]; omega
  | c :: r, k + 1, acc, p, h => by
    have h' : p ∈ spl S k acc r := h
    have b := spl_count z r k acc p h'
    rw [List.count_cons]; omega
theorem spl_many {s : Nat} : ∀ (l acc : List Nat), (spl [s] 0 acc l).length = l.count s + 1
  | [], acc => by rw [spl_nil]; rfl
  | c :: r, acc => by
    by_cases hp : pre [s] (c :: r) = true
    · have : c = s := by
        have h2 : [c] = [s] := by simpa [pre] using hp
        injection h2
      rw [spl_hit hp, List.length_cons]
      show (spl [s] 0 [] r).length + 1 = _
      rw [spl_many r [], List.count_cons, this]; simp
    · have : c ≠ s := fun e => hp (by rw [e]; simp [pre])
      rw [spl_miss (by simpa using hp), spl_many r, List.count_cons]
      simp [this]
theorem split_count {w b : Str} (hb : SepOk b) (z : Nat) : ∀ p ∈ Txt.split w b, (tl p).count z ≤ (tl w).count z := fun p hp => by
  have h1 : tl p ∈ (Txt.split w b).map tl := List.mem_map_of_mem hp
  rw [split_spl w b hb.1 (kind_ok hb.2)] at h1
  simpa using spl_count z _ _ _ _ h1
theorem split_many {w b : Str} {c : Nat} (hb : tl b = [c]) (hc : c < 256) : (Txt.split w b).length = (tl w).count c + 1 := by
  have e := congrArg List.length (split_spl w b (sep_of hb hc).1 (kind_ok (sep_of hb hc).2))
  rw [List.length_map, hb, spl_many] at e
  exact e
theorem optAll_len {α : Type} {os : List (Option α)} {xs : List α} (h : optAll os = some xs) : xs.length = os.length := by rw [optAll_map h, List.length_map]
theorem pure_route_of (ws : List W) (M : MM) (R : KW) (xr : XR) (h : sp_route_of ws M R xr) : w_route_of sp_number_of sp_numbers_of sp_is_route (dEnds R xr) (startD ["word", "net", "parts", "start", "lines"] ws) M := by
  obtain ⟨w, N, rfl, hw, hl, hd, k⟩ := h
  unfold w_route_of
  refine wSeq_i fun κ hκ => ?_
  walk_at "dl2"
  refine ⟨⟨sep_colon.len, by omega⟩, ?_⟩
  have hp := split_parts sep_colon hw
  have hpc := split_count (w := w) sep_colon 46
  unfold rtP at k
  revert k
  have es : Txt.split w (Str.ofString ":") = Txt.split w ":" := rfl
  generalize Txt.split w ":" = ps at hp hpc
  intro k
  subst hκ
  refine wSeq_i fun κ hκ => ?_
  walk_at "dl2"
  match ps, k, hp, hpc with
  | [], k, _, _ => exact ⟨_, Sub.refl _, k⟩
  | [_], k, _, _ => exact ⟨_, Sub.refl _, k⟩
  | _ :: _ :: _ :: _, k, _, _ =>
    rw [if_pos (by simp only [List.length_cons]; omega)]
    exact ⟨_, Sub.refl _, k⟩
  | [a, b], k, hp, hpc =>
    rw [if_neg (fun z => z rfl)]
    obtain ⟨a1, a2⟩ := hp a List.mem_cons_self
    obtain ⟨b1, b2⟩ := hp b (List.mem_cons_of_mem _ List.mem_cons_self)
    have b3 := hpc b (List.mem_cons_of_mem _ List.mem_cons_self)
    dsimp only at k
    subst hκ
    refine wSeq_i fun κ hκ => ?_
    walk_at "dl2"
    refine ⟨a, rfl, a1, by omega, b, ".", rfl, b1, by omega, sep_dot, ?_⟩
    subst hκ
    refine wSeq_i fun κ hκ => ?_
    have en : numsP b (Str.ofString ".") = numsP b "." := rfl
    cases ha : numP a with
    | none =>
      rw [ha] at k
      unfold onD
      walk_at "dl2"
      exact ⟨_, Sub.refl _, k⟩
    | some s =>
    cases hb : numsP b "." with
    | none =>
      rw [ha, hb] at k
      skip
      unfold onD onsD nD
      walk_at "dl2"
      exact ⟨_, Sub.refl _, k⟩
    | some ls =>
    rw [ha, hb] at k
    skip
    unfold onD onsD nD
    unfold lnD
    walk_at "dl2"
    have hls : ls.length ≤ 2901 := by
      have e1 := optAll_len (show optAll ((Txt.split b ".").map numP) = some ls from hb)
      rw [List.length_map, split_many (c := 46) rfl (by decide)] at e1
      omega
    have hask : AskOk (rD s ls) := ⟨(Sh.tuple (n := 57) fun d hd => by
      simp only [List.mem_cons, List.not_mem_nil, or_false] at hd
      rcases hd with rfl | rfl
      · exact Sh.mono (Sh.int _) (by decide)
      · exact Sh.mono (Sh.tuple (n := 0) fun d hd => by
          obtain ⟨i, _, rfl⟩ := List.mem_map.mp hd
          exact Sh.int _) (by decide)), by show (ls.map nD).length ≤ 3000; rw [List.length_map]; omega⟩
    subst hκ
    walk_at "dl2"
    refine ⟨N, rD s ls, rfl, hask, ?_⟩
    dsimp only at k
    cases hr : isRouteD N (rD s ls) with
    | true =>
      rw [hr, if_pos rfl] at k
      dsimp only
      rw [if_pos rfl]
      exact ⟨_, Sub.refl _, k⟩
    | false =>
      rw [hr, if_neg (by decide)] at k
      dsimp only
      rw [if_neg (by decide)]
      exact ⟨_, Sub.refl _, k⟩
end DL
namespace DL
open PySem PySem.Spec PyProof.Rows L2 TL
local macro_rules | `(tactic| walk_at "dl2") => `(tactic| simp only [wAsg, wOp, wVar, wC, wgN, wgTup, wgCons, wgNil, wgSub, setW, wIf, wTest, wNext, wRet, wRetN, wDrop, wAndT, wOrT, wNotT, wAndV, wOrV, wNotV, wIfE, wNeg, wNil, wCons, wTup, wTupR, wLst, wBlt, wCall, wFrz, wFz, frz, wSl, wNoP, wSoP, wPar2, wPar3, wMethL, mAppend, isLst,
  wRev, wInR, wLenSet, bStr, bMax2, bMin2, wChain, wLc, wipeW, wYes, xq0, mkL, mkT, allD, allD_map, seeL, seeD, seeT, seeS, ownL, oIx, ixW, oAdd, oSub, oMul, oMod, oDiv, oPow, oLt, oLe, oGt, oGe, oB, isInts, oEq, oIsN, isNon, oIsB, oIn, oCat, oRep, bLen, bInt, bAbs, bList, bTuple, seeA, bSum, bInts, bAll, bAny, bBools, bIsi, tyName, bReprS,
  wFor, iR1, iR2, iS, iE, iEB, enW, iZ, stL, startD, dEnds, fin, at0, at1, at2, at3, at4, atm1, atm1', ix40, ix41, ix42, ix43, eqv_int, eqv_none_int, eqv_int_none, eqv_none, eqv_lnil, eqv_tnil, eqv_str, sh_int, sh_none, sh_bool, sh_ints, sh_nil, sh_tints, sh_tnil,
  kit_NoneType_bool, kit_NoneType_int, kit_NoneType_str, kit_NoneType_list, kit_NoneType_tuple, kit_bool_bool, kit_bool_int, kit_bool_str, kit_bool_list, kit_bool_tuple, kit_int_bool, kit_int_int, kit_int_str, kit_int_list, kit_int_tuple, kit_str_bool, kit_str_int, kit_str_str, kit_str_list, kit_str_tuple,
  kit_list_bool, kit_list_int, kit_list_str, kit_list_list, kit_list_tuple, kit_tuple_bool, kit_tuple_int, kit_tuple_str, kit_tuple_list, kit_tuple_tuple, kit_dict_bool, kit_dict_int, kit_dict_str, kit_dict_list, kit_dict_tuple,
  List.map_cons, List.map_nil, List.length_cons, List.length_nil, List.length_map, List.replicate, List.cons_append, List.nil_append, List.getElem?_cons_zero, List.getElem?_cons_succ, List.set_cons_zero, List.set_cons_succ, List.isEmpty_map,
  Bool.false_eq_true, reduceCtorEq, Nat.reduceAdd, Nat.reduceSub, Nat.reduceLeDiff, Option.map_some, Option.bind_some, true_and, and_true, decide_eq_true_eq, Bool.not_eq_true', Bool.not_true, Bool.not_false, decide_eq_false_iff_not, if_true, if_false, ite_true, ite_false, reduceIte, mset_same, cut_map, allD_f, allD_app, allD_rev, rep_map, Option.map_none, wSortK, bSorted, wMinD, bMinL, mExtend, iZA, wM1S, mSplit, mJoin, iG, oInSign, bIntS, oMulS, strsW])
def w_route_text : WS := (wRet (wOp oAdd (wOp oAdd (wBlt bStr (wCons (wOp oIx (wVar 0) (wC (.d (.int 0)))) wNil)) (wC (.d (.str ":")))) (wM1S mJoin (wC (.d (.str "."))) (wLc false (iS (wOp oIx (wVar 0) (wC (.d (.int 1))))) (wgN 1) wYes (wBlt bStr (wCons (wVar 1) wNil)) [1]))))
def w_sight_text (sp_route_text : DSp) : WS := (wSeq (wIf (wTest (wOp (oIn false) (wOp oIx (wVar 0) (wC (.d (.int 0)))) (wC (.d c_ROUTE_WORDS)))) (wRet (wLst false (wCons (wOp oIx (wVar 0) (wC (.d (.int 0)))) (wCons (wCall sp_route_text (wCons (wOp oIx (wVar 0) (wC (.d (.int 1)))) wNil)) wNil)))) wNext)
    (wSeq (wAsg (wVar 0) (wgTup 5 (wgCons (wgN 1) (wgCons (wgN 2) (wgCons (wgN 3) (wgCons (wgN 4) (wgCons (wgN 5) wgNil)))))))
    (wRet (wLst false (wCons (wVar 1) (wCons (wBlt bStr (wCons (wVar 2) wNil)) (wCons (wCall sp_route_text (wCons (wVar 3) wNil)) (wCons (wBlt bStr (wCons (wVar 4) wNil)) (wCons (wCall sp_route_text (wCons (wVar 5) wNil)) wNil)))))))))
def w_sights_text (sp_sight_text : DSp) : WS := (wSeq (wAsg (wOp (oCat false) (wLst false (wCons (wC (.d (.str "net"))) (wCons (wBlt bStr (wCons (wOp oIx (wVar 0) (wC (.d (.int 0)))) wNil)) wNil))) (wLc false (iS (wOp oIx (wVar 0) (wC (.d (.int 1))))) (wgTup 2 (wgCons (wgN 4) (wgCons (wgN 5) wgNil))) wYes (wOp oAdd (wOp oAdd (wBlt bStr (wCons (wVar 4) wNil)) (wC (.d (.str "-")))) (wBlt bStr (wCons (wVar 5) wNil))) [4, 5])) (wgN 2))
    (wSeq (wAsg (wOp (oCat false) (wLst false (wCons (wVar 2) wNil)) (wLc false (iS (wVar 1)) (wgN 6) wYes (wCall sp_sight_text (wCons (wVar 6) wNil)) [6])) (wgN 3))
    (wRet (wM1S mJoin (wC (.d (.str ""))) (wLc false (iS (wVar 3)) (wgN 7) wYes (wOp oAdd (wM1S mJoin (wC (.d (.str " "))) (wVar 7)) (wC (.d (.str "\n")))) [7])))))
def w__law_route_text : WS := (wRet (wOp oAdd (wOp oAdd (wBlt bStr (wCons (wOp oIx (wVar 0) (wC (.d (.int 0)))) wNil)) (wC (.d (.str ":")))) (wM1S mJoin (wC (.d (.str "."))) (wLc false (iS (wOp oIx (wVar 0) (wC (.d (.int 1))))) (wgN 1) wYes (wBlt bStr (wCons (wVar 1) wNil)) [1]))))
def w__law_words (sp__law_route_text : DSp) : WS := (wSeq (wAsg (wLst true (wCons (wOp (oCat false) (wLst false (wCons (wC (.d (.str "net"))) (wCons (wBlt bStr (wCons (wOp oIx (wVar 0) (wC (.d (.int 0)))) wNil)) wNil))) (wLc false (iS (wOp oIx (wVar 0) (wC (.d (.int 1))))) (wgN 9) wYes (wOp oAdd (wOp oAdd (wBlt bStr (wCons (wOp oIx (wVar 9) (wC (.d (.int 0)))) wNil)) (wC (.d (.str "-")))) (wBlt bStr (wCons (wOp oIx (wVar 9) (wC (.d (.int 1)))) wNil))) [9])) wNil)) (wgN 2))
    (wSeq (wFor (iS (wVar 1)) (wgN 3) (wIf (wTest (wOp (oEq false) (wBlt bLen (wCons (wVar 3) wNil)) (wC (.d (.int 2))))) (wDrop (wMethL mAppend (wVar 2) (wCons (wLst false (wCons (wOp oIx (wVar 3) (wC (.d (.int 0)))) (wCons (wCall sp__law_route_text (wCons (wOp oIx (wVar 3) (wC (.d (.int 1)))) wNil)) wNil))) wNil))) (wSeq (wAsg (wVar 3) (wgTup 5 (wgCons (wgN 4) (wgCons (wgN 5) (wgCons (wgN 6) (wgCons (wgN 7) (wgCons (wgN 8) wgNil)))))))
    (wDrop (wMethL mAppend (wVar 2) (wCons (wLst false (wCons (wVar 4) (wCons (wBlt bStr (wCons (wVar 5) wNil)) (wCons (wCall sp__law_route_text (wCons (wVar 6) wNil)) (wCons (wBlt bStr (wCons (wVar 7) wNil)) (wCons (wCall sp__law_route_text (wCons (wVar 8) wNil)) wNil)))))) wNil))))))
    (wRet (wFrz (wVar 2)))))
def w__law_text : WS := (wRet (wM1S mJoin (wC (.d (.str ""))) (wLc false (iS (wVar 0)) (wgN 1) wYes (wOp oAdd (wM1S mJoin (wC (.d (.str " "))) (wVar 1)) (wC (.d (.str "\n")))) [1])))
/-- every item taken, with any target -/
theorem lc_mg {α : Type} {g : WG} {e : WE} {st : MM → Prop} {ρ : Env} {M : MM} {K : List W → MM → Prop} (mk f : α → W) (hs : st M) : ∀ (xs : List α) (acc : List W), (∀ x ∈ xs, ∀ Q : KW, Q (f x) M → g xq0 (mk x) ρ M fun ρ' M1 => e xq0 ρ' M1 Q) →
    acc.length + xs.length ≤ 16777216 → K (acc ++ xs.map f) M → wLcI g wYes e st ρ (xs.map mk) acc M K
  | [], acc, _, _, k => ⟨hs, by rw [List.map_nil, List.append_nil] at k; exact k⟩
  | x :: r, acc, he, hl, k => by
    rw [List.length_cons] at hl
    refine ⟨hs, ?_⟩
    refine he x List.mem_cons_self _ ⟨by omega, ?_⟩
    refine lc_mg mk f hs r (acc ++ [f x]) (fun y hy => he y (List.mem_cons_of_mem _ hy)) (by rw [List.length_append, List.length_singleton]; omega) ?_
    rw [List.append_assoc]; exact k
/-! ### lengths of texts -/
def numS (i : Int) : Str := Str.ofString (toString i)
theorem tl_numS (n : Nat) : tl (numS n) = numL n := tl_num n
theorem numS_len {n k : Nat} (hk : 0 < k) (h : n < 10 ^ k) : (numS n).length ≤ k := by
  rw [len_tl, tl_numS]; exact numL_len hk h
theorem joinL_len (S : List Nat) : ∀ ps : List (List Nat), (joinL S ps).length ≤ (ps.map List.length).sum + ps.length * S.length
  | [] => by simp [joinL]
  | [p] => by simp [joinL]
  | p :: q :: r => by
    have := joinL_len S (q :: r)
    show (p ++ (S ++ joinL S (q :: r))).length ≤ _
    simp only [List.length_append, List.map_cons, List.sum_cons, List.length_cons, Nat.add_mul, Nat.one_mul] at this ⊢
    omega
theorem join_len (a : Str) (ys : List Str) : (Txt.join a ys).length ≤ (ys.map (·.length)).sum + ys.length * a.length := by
  rw [join_eq, len_tl, tl_join]
  have := joinL_len (tl a) (ys.map tl)
  rw [List.map_map, List.length_map] at this
  have e : (ys.map (List.length ∘ tl)) = ys.map (·.length) := List.map_congr_left fun x _ => (len_tl x).symm
  rw [e] at this
  rw [len_tl a]; exact this
theorem sum_le {b : Nat} : ∀ {ys : List Str}, (∀ y ∈ ys, y.length ≤ b) → (ys.map (·.length)).sum ≤ ys.length * b
  | [], _ => by simp
  | y :: r, h => by
    have h1 := h y List.mem_cons_self
    have h2 := sum_le (ys := r) fun z hz => h z (List.mem_cons_of_mem _ hz)
    rw [List.map_cons, List.sum_cons, List.length_cons, Nat.add_mul, Nat.one_mul]; omega
theorem join_le {a : Str} {ys : List Str} {n b c : Nat} (hn : ys.length ≤ n) (hb : ∀ y ∈ ys, y.length ≤ b) (hc : a.length ≤ c) : (ys.map (·.length)).sum + ys.length * a.length ≤ n * b + n * c := by
  have h1 := sum_le hb
  have h2 : ys.length * b ≤ n * b := Nat.mul_le_mul_right _ hn
  have h3 : ys.length * a.length ≤ n * c := Nat.mul_le_mul hn hc
  omega
/-! ### what is printed -/
def routeS (s : Int) (l : List Nat) : Str := numS s ++ ":" ++ Txt.join "." (l.map fun n : Nat => numS (n : Int))
def sightS : Sg → List Str
  | .r only ps l => [rWord only, routeS (ps.headD 0) l]
  | .p less t ps l m qs k => [pWord less, numS t, routeS (ps.headD 0) l, numS m, routeS (qs.headD 0) k]
def netS (N : Net) : List Str := "net" :: numS N.p :: N.ls.map fun x => numS x.1 ++ "-" ++ numS x.2
def rowS (r : List Str) : Str := Txt.join " " r ++ "\n"
def textS (rows : List (List Str)) : Str := Txt.join "" (rows.map rowS)
/-- sights with numbers of times of up to 41 figures -/
def SgW (N : Net) : Sg → Prop
  | .r _ ps l => Rt N ps l
  | .p _ t ps l m qs k => Rt N ps l ∧ Rt N qs k ∧ 1 ≤ t ∧ t < 10 ^ 41 ∧ 1 ≤ m ∧ m < 10 ^ 41
def RtS (s : Int) (l : List Nat) : Prop := 0 ≤ s ∧ s < 10 ∧ l.length ≤ 8 ∧ ∀ x ∈ l, x < 10
def sp_route_text : DSp := fun ws M R xr => ∃ (s : Int) (l : List Nat), ws = [.d (rD s l)] ∧ RtS s l ∧ R (.d (.str (routeS s l))) M
theorem num_log {i : Int} (h0 : 0 ≤ i) (h1 : i < 10 ^ 41) : i.natAbs.log2 < 1920 := by
  by_cases h : i.natAbs = 0
  · rw [h]; decide
  · refine (Nat.log2_lt h).mpr (Nat.lt_of_lt_of_le (show i.natAbs < 10 ^ 41 by omega) (by decide))
theorem numS_len' {i : Int} {k : Nat} (h0 : 0 ≤ i) (hk : 0 < k) (h : i < 10 ^ k) : (numS i).length ≤ k := by
  obtain ⟨n, rfl⟩ := Int.eq_ofNat_of_zero_le h0
  exact numS_len hk (by exact_mod_cast h)
theorem str_app_len (a b : Str) : (a ++ b).length = a.length + b.length := by rw [len_tl, tl_append, List.length_append, ← len_tl, ← len_tl]
theorem routeS_len {s : Int} {l : List Nat} (h : RtS s l) : (routeS s l).length ≤ 18 := by
  obtain ⟨h0, h1, h2, h3⟩ := h
  unfold routeS
  rw [str_app_len, str_app_len]
  have a1 := numS_len' (k := 1) h0 (by decide) (by omega)
  have a2 := join_len "." (l.map fun n : Nat => numS (n : Int))
  have a3 := join_le (a := ".") (ys := l.map fun n : Nat => numS (n : Int)) (n := 8) (b := 1) (c := 1) (by rw [List.length_map]; exact h2) (fun y hy => by
    obtain ⟨n, hn, rfl⟩ := List.mem_map.mp hy
    exact numS_len (by decide) (by have := h3 n hn; omega)) (by decide)
  have a4 : ((":" : Str)).length = 1 := rfl
  omega
theorem pure_route_text (ws : List W) (M : MM) (R : KW) (xr : XR) (h : sp_route_text ws M R xr) : w_route_text (dEnds R xr) (startD ["route", "line"] ws) M := by
  obtain ⟨s, l, rfl, hr, k⟩ := h
  obtain ⟨h0, h1, h2, h3⟩ := id hr
  unfold w_route_text rD
  walk_at "dl2"
  refine ⟨num_log h0 (by omega), ?_, ?_⟩
  · have a1 : (numS s).length ≤ 1 := numS_len' h0 (by decide) (by omega)
    have a4 : ((":" : Str)).length = 1 := rfl
    show (numS s).length + _ ≤ _
    omega
  rw [List.map_map]
  refine lc_m (W.d ∘ nD) (fun n : Nat => W.d (.str (numS (n : Int)))) trivial _ (fun n hn Q hQ => ?_) (by omega) ?_
  · have := h3 n hn
    show wBlt bStr _ xq0 [_, some (.d (.int (n : Int)))] M Q
    walk_at "dl2"
    exact ⟨num_log (by omega) (by omega), hQ⟩
  rw [allD_f]
  dsimp only
  have e1 : (l.map fun n : Nat => PyData.str (numS (n : Int))).map W.d = (l.map fun n : Nat => numS (n : Int)).map fun y => W.d (.str y) := by rw [List.map_map, List.map_map]; rfl
  rw [e1]
  simp only [strsW_map]
  have hb : ∀ y ∈ l.map fun n : Nat => numS (n : Int), y.length ≤ 1 := fun y hy => by
    obtain ⟨n, hn, rfl⟩ := List.mem_map.mp hy
    exact numS_len (by decide) (by have := h3 n hn; omega)
  have hj := join_le (a := ".") (c := 1) (n := 8) (by rw [List.length_map]; exact h2) hb (by decide)
  have hl := routeS_len hr
  unfold routeS at hl
  rw [str_app_len] at hl
  refine ⟨?_, ?_, _, Sub.refl _, k⟩
  · exact Nat.le_trans hj (by decide)
  · exact Nat.le_trans hl (by decide)
theorem pure__law_route_text (ws : List W) (M : MM) (R : KW) (xr : XR) (h : sp_route_text ws M R xr) : w__law_route_text (dEnds R xr) (startD ["_law_route_here", "_law_line"] ws) M := pure_route_text ws M R xr h
def sp__law_route_text : DSp := sp_route_text
def sp_sight_text : DSp := fun ws M R xr => ∃ (N : Net) (g : Sg), ws = [.d (sgD g)] ∧ N.Ok ∧ SgW N g ∧ R (.d (.list ((sightS g).map .str))) M
theorem in_RW_r (b : Bool) : ([PyData.str "one", PyData.str "only"].any fun z => PyData.eqv z (.str (rWord b))) = true := by
  simp only [List.any_cons, List.any_nil, eqv_str]
  cases b <;> decide +kernel
theorem in_RW_p (b : Bool) : ([PyData.str "one", PyData.str "only"].any fun z => PyData.eqv z (.str (pWord b))) = false := by
  simp only [List.any_cons, List.any_nil, eqv_str]
  cases b <;> decide +kernel
theorem rts_of {N : Net} (hN : N.Ok) {ps : List Int} {l : List Nat} (h : Rt N ps l) : RtS (ps.headD 0) l := by
  obtain ⟨a, b⟩ := h.rng hN
  obtain ⟨c, d⟩ := rt_le hN h a b
  have := hN.p6
  have := hN.l8
  exact ⟨a, by omega, by omega, fun z hz => by have := d z hz; omega⟩
theorem pure_sight_text (ws : List W) (M : MM) (R : KW) (xr : XR) (h : sp_sight_text ws M R xr) : w_sight_text sp_route_text (dEnds R xr) (startD ["sight", "word", "times", "route", "more", "other"] ws) M := by
  obtain ⟨N, g, rfl, hN, hg, k⟩ := h
  unfold w_sight_text
  refine wSeq_i fun κ hκ => ?_
  cases g with
  | r b ps l =>
    have hr := rts_of hN hg
    unfold sgD
    walk_at "dl2"
    refine ⟨rfl, rfl, ?_⟩
    rw [if_pos (in_RW_r b)]
    refine ⟨_, _, rfl, hr, ?_⟩
    exact ⟨_, Sub.refl _, k⟩
  | p b t ps l m qs o =>
    obtain ⟨h1, h2, t0, t1, m0, m1⟩ := hg
    have hr := rts_of hN h1
    have hr2 := rts_of hN h2
    unfold sgD
    walk_at "dl2"
    refine ⟨rfl, rfl, ?_⟩
    rw [if_neg (fun z => by rw [show _ = false from in_RW_p b] at z; cases z)]
    subst hκ
    refine wSeq_i fun κ hκ => ?_
    walk_at "dl2"
    subst hκ
    walk_at "dl2"
    refine ⟨num_log (by omega) t1, _, _, rfl, hr, num_log (by omega) m1, _, _, rfl, hr2, ?_⟩
    exact ⟨_, Sub.refl _, k⟩
def sp_sights_text : DSp := fun ws M R xr => ∃ (N : Net) (gs : List Sg), ws = [.d N.d, .d (.tuple (gs.map sgD))] ∧ N.Ok ∧ (∀ g ∈ gs, SgW N g) ∧ gs.length ≤ 1000 ∧ R (.d (.str (textS (netS N :: gs.map sightS)))) M
theorem net_word {N : Net} (hN : N.Ok) {x : Int × Int} (hx : x ∈ N.ls) : 0 ≤ x.1 ∧ x.1 < 10 ∧ 0 ≤ x.2 ∧ x.2 < 10 := by
  obtain ⟨a, b, c⟩ := hN.ln x hx
  have := hN.p6
  omega
theorem pword_len (b : Bool) : (pWord b).length ≤ 4 := by cases b <;> decide
theorem rword_len (b : Bool) : (rWord b).length ≤ 4 := by cases b <;> decide
theorem sight_words {N : Net} (hN : N.Ok) {g : Sg} (h : SgW N g) : (sightS g).length ≤ 5 ∧ ∀ y ∈ sightS g, y.length ≤ 41 := by
  cases g with
  | r b ps l =>
    have hr := routeS_len (rts_of hN h)
    refine ⟨by show 2 ≤ 5; decide, fun y hy => ?_⟩
    have := rword_len b
    simp only [sightS, List.mem_cons, List.not_mem_nil, or_false] at hy
    rcases hy with rfl | rfl <;> omega
  | p b t ps l m qs o =>
    obtain ⟨h1, h2, t0, t1, m0, m1⟩ := h
    have a1 := routeS_len (rts_of hN h1)
    have a2 := routeS_len (rts_of hN h2)
    have a3 := numS_len' (k := 41) (by omega) (by decide) t1
    have a4 := numS_len' (k := 41) (by omega) (by decide) m1
    have := pword_len b
    refine ⟨Nat.le_refl _, fun y hy => ?_⟩
    simp only [sightS, List.mem_cons, List.not_mem_nil, or_false] at hy
    rcases hy with rfl | rfl | rfl | rfl | rfl <;> omega
theorem net_words {N : Net} (hN : N.Ok) : (netS N).length ≤ 10 ∧ ∀ y ∈ netS N, y.length ≤ 41 := by
  have := hN.p2
  have := hN.p6
  refine ⟨by show (N.ls.map _).length + 1 + 1 ≤ 10; rw [List.length_map]; have := hN.l8; omega, fun y hy => ?_⟩
  rcases List.mem_cons.mp hy with rfl | hy
  · decide
  rcases List.mem_cons.mp hy with rfl | hy
  · exact Nat.le_trans (numS_len' (k := 1) (by omega) (by decide) (by omega)) (by decide)
  · obtain ⟨x, hx, rfl⟩ := List.mem_map.mp hy
    obtain ⟨a, b, c, d⟩ := net_word hN hx
    rw [str_app_len, str_app_len]
    have b1 := numS_len' (k := 1) a (by decide) (by omega)
    have b2 := numS_len' (k := 1) c (by decide) (by omega)
    have b3 : (("-" : Str)).length = 1 := rfl
    omega
/-- rows of a text -/
def RowOk (r : List Str) : Prop := r.length ≤ 10 ∧ ∀ y ∈ r, y.length ≤ 41
theorem rowS_len {r : List Str} (h : RowOk r) : (Txt.join " " r).length ≤ 420 ∧ (rowS r).length ≤ 421 := by
  have a := join_len " " r
  have b := join_le (a := " ") (c := 1) h.1 h.2 (by decide)
  unfold rowS
  rw [str_app_len]
  have c : (("\n" : Str)).length = 1 := rfl
  omega
theorem strsW_strs (ys : List Str) : strsW ((ys.map PyData.str).map W.d) = some ys := by rw [List.map_map]; exact strsW_map ys
def rowsD (rows : List (List Str)) : PyData := .list (rows.map fun r => .list (r.map .str))
theorem strs_mid (x y : Int) : PyData.str (numS x ++ Str.ofString "-" ++ numS y) = PyData.str (numS x ++ "-" ++ numS y) := rfl
theorem net_row (N : Net) : (netS N).map PyData.str = PyData.str (Str.ofString "net") :: PyData.str (Str.ofString (toString N.p)) :: N.ls.map (fun x => PyData.str (numS x.1 ++ Str.ofString "-" ++ numS x.2)) := by
  unfold netS
  rw [List.map_cons, List.map_cons, List.map_map]; rfl
/-- what one row is told as -/
theorem row_told {r : List Str} (h : RowOk r) {M : MM} {Q : KW} (k : Q (.d (.str (rowS r))) M) : (match strsW ((r.map PyData.str).map W.d) with
    | some ys => (ys.map fun x => x.length).sum + ys.length * (Str.ofString " ").length ≤ 16777216 ∧ (Txt.join (Str.ofString " ") ys).length + (Str.ofString "\n").length ≤ 16777216 ∧ Q (.d (.str (Txt.join (Str.ofString " ") ys ++ Str.ofString "\n"))) M
    | none => False) := by
  rw [strsW_strs]
  have b := join_le (a := " ") (c := 1) h.1 h.2 (by decide)
  have c := (rowS_len h).1
  refine ⟨Nat.le_trans b (by decide), ?_, k⟩
  have : ((Str.ofString "\n")).length = 1 := rfl
  have : (Txt.join (Str.ofString " ") r).length ≤ 420 := c
  omega
theorem text_le {rows : List (List Str)} (hr : ∀ r ∈ rows, RowOk r) (hl : rows.length ≤ 2000) : ((rows.map rowS).map (·.length)).sum + (rows.map rowS).length * (Str.ofString "").length ≤ 16777216 := by
  have := join_le (a := (Str.ofString "")) (ys := rows.map rowS) (n := 2000) (b := 421) (c := 0) (by rw [List.length_map]; exact hl) (fun y hy => by
    obtain ⟨r, h, rfl⟩ := List.mem_map.mp hy
    exact (rowS_len (hr r h)).2) (by decide)
  exact Nat.le_trans this (by decide)
theorem sights_rows {N : Net} (hN : N.Ok) {gs : List Sg} (hg : ∀ g ∈ gs, SgW N g) : ∀ r ∈ netS N :: gs.map sightS, RowOk r := fun r hr => by
  rcases List.mem_cons.mp hr with rfl | hr
  · exact net_words hN
  · obtain ⟨g, h, rfl⟩ := List.mem_map.mp hr
    obtain ⟨a, b⟩ := sight_words hN (hg g h)
    exact ⟨by omega, b⟩
theorem pure_sights_text (ws : List W) (M : MM) (R : KW) (xr : XR) (h : sp_sights_text ws M R xr) : w_sights_text sp_sight_text (dEnds R xr) (startD ["net", "sights", "first", "rows", "a", "b", "sight", "row"] ws) M := by
  obtain ⟨N, gs, rfl, hN, hg, hl, k⟩ := h
  have hp2 := hN.p2
  have hp6 := hN.p6
  unfold w_sights_text
  refine wSeq_i fun κ hκ => ?_
  unfold Net.d
  walk_at "dl2"
  refine ⟨num_log (by omega) (by omega), ?_⟩
  rw [List.map_map]
  have hl8 := hN.l8
  refine lc_mg (W.d ∘ prD) (fun x : Int × Int => W.d (.str (numS x.1 ++ "-" ++ numS x.2))) trivial _ _ (fun x hx Q hQ => ?_) (by simp only [List.length_nil]; omega) ?_
  · obtain ⟨a, b, c, d⟩ := net_word hN hx
    obtain ⟨i, j⟩ := x
    dsimp only at a b c d hQ
    have b1 : (numS i).length ≤ 1 := numS_len' (k := 1) a (by decide) (by omega)
    have b2 : (numS j).length ≤ 1 := numS_len' (k := 1) c (by decide) (by omega)
    have b3 : (("-" : Str)).length = 1 := rfl
    show wgTup 2 _ xq0 (.d (.tuple [.int i, .int j])) _ M _
    walk_at "dl2"
    refine ⟨num_log a (by omega), ?_, num_log c (by omega), ?_, hQ⟩
    · show (numS i).length + _ ≤ _
      omega
    · show (numS i ++ ("-" : Str)).length + (numS j).length ≤ _
      rw [str_app_len]; omega
  rw [List.nil_append, allD_f]
  dsimp only
  refine ⟨by rw [List.length_map]; omega, ?_⟩
  subst hκ
  refine wSeq_i fun κ hκ => ?_
  walk_at "dl2"
  rw [List.map_map]
  refine lc_m (W.d ∘ sgD) (fun g : Sg => W.d (.list ((sightS g).map .str))) trivial _ (fun g hgm Q hQ => ?_) (by omega) ?_
  · show wCall sp_sight_text _ xq0 [_, _, _, _, _, _, some (.d (sgD g)), _] M Q
    walk_at "dl2"
    exact ⟨N, g, rfl, hN, hg g hgm, hQ⟩
  rw [allD_f]
  dsimp only
  refine ⟨by rw [List.length_map]; omega, ?_⟩
  subst hκ
  walk_at "dl2"
  have e1 : (W.d (PyData.list (PyData.str (Str.ofString "net") :: PyData.str (Str.ofString (toString N.p)) :: N.ls.map (fun x => PyData.str (numS x.1 ++ Str.ofString "-" ++ numS x.2)))) :: (gs.map fun g => PyData.list ((sightS g).map PyData.str)).map W.d) = (netS N :: gs.map sightS).map fun r => W.d (.list (r.map .str)) := by
    rw [List.map_cons, net_row, List.map_map, List.map_map]; rfl
  rw [e1]
  have hR := sights_rows hN hg
  have hn : (netS N :: gs.map sightS).length ≤ 2000 := by rw [List.length_cons, List.length_map]; omega
  generalize netS N :: gs.map sightS = rows at hR hn k
  clear e1
  refine lc_m (fun r : List Str => W.d (.list (r.map .str))) (fun r : List Str => W.d (.str (rowS r))) trivial _ (fun r hr Q hQ => ?_) (by omega) ?_
  · show wOp _ _ _ xq0 [_, _, _, _, _, _, _, some (.d (.list (r.map .str)))] M Q
    walk_at "dl2"
    exact row_told (hR r hr) hQ
  rw [allD_f]
  dsimp only
  have e2 : (rows.map fun r => PyData.str (rowS r)).map W.d = ((rows.map rowS).map PyData.str).map W.d := by rw [List.map_map, List.map_map, List.map_map]; rfl
  rw [e2, strsW_strs]
  exact ⟨text_le hR hn, _, Sub.refl _, k⟩
def sp__law_text : DSp := fun ws M R xr => ∃ rows : List (List Str), ws = [.d (rowsD rows)] ∧ (∀ r ∈ rows, RowOk r) ∧ rows.length ≤ 2000 ∧ R (.d (.str (textS rows))) M
theorem pure__law_text (ws : List W) (M : MM) (R : KW) (xr : XR) (h : sp__law_text ws M R xr) : w__law_text (dEnds R xr) (startD ["_law_rows", "_law_row"] ws) M := by
  obtain ⟨rows, rfl, hR, hn, k⟩ := h
  unfold w__law_text rowsD
  walk_at "dl2"
  rw [List.map_map]
  refine lc_m (α := List Str) (W.d ∘ fun r => PyData.list (r.map .str)) (fun r : List Str => W.d (.str (rowS r))) trivial _ (fun r hr Q hQ => ?_) (by omega) ?_
  · show wOp _ _ _ xq0 [_, some (.d (.list (r.map .str)))] M Q
    walk_at "dl2"
    exact row_told (hR r hr) hQ
  rw [allD_f]
  dsimp only
  have e2 : (rows.map fun r => PyData.str (rowS r)).map W.d = ((rows.map rowS).map PyData.str).map W.d := by rw [List.map_map, List.map_map, List.map_map]; rfl
  rw [e2, strsW_strs]
  exact ⟨text_le hR hn, _, Sub.refl _, k⟩
def sp__law_words : DSp := fun ws M R xr => ∃ (N : Net) (gs : List Sg), ws = [.d N.d, .d (.tuple (gs.map sgD))] ∧ N.Ok ∧ (∀ g ∈ gs, SgW N g) ∧ gs.length ≤ 1000 ∧ R (.d (rowsD (netS N :: gs.map sightS))) M
theorem pure__law_words (ws : List W) (M : MM) (R : KW) (xr : XR) (h : sp__law_words ws M R xr) : w__law_words sp__law_route_text (dEnds R xr) (startD ["_law_net_here", "_law_sights_here", "_law_rows", "_law_sight_here", "_law_word", "_law_times", "_law_route_here", "_law_more", "_law_other", "_law_pair"] ws) M := by
  obtain ⟨N, gs, rfl, hN, hg, hl, k⟩ := h
  have hp2 := hN.p2
  have hp6 := hN.p6
  have hl8 := hN.l8
  unfold w__law_words
  refine wSeq_i fun κ hκ => ?_
  unfold Net.d
  walk_at "dl2"
  refine ⟨num_log (by omega) (by omega), ?_⟩
  rw [List.map_map]
  refine lc_m (W.d ∘ prD) (fun x : Int × Int => W.d (.str (numS x.1 ++ "-" ++ numS x.2))) trivial _ (fun x hx Q hQ => ?_) (by omega) ?_
  · obtain ⟨a, b, c, d⟩ := net_word hN hx
    obtain ⟨i, j⟩ := x
    dsimp only at a b c d hQ
    have b1 : (numS i).length ≤ 1 := numS_len' (k := 1) a (by decide) (by omega)
    have b2 : (numS j).length ≤ 1 := numS_len' (k := 1) c (by decide) (by omega)
    have b3 : (("-" : Str)).length = 1 := rfl
    show wOp _ _ _ xq0 [_, _, _, _, _, _, _, _, _, some (.d (.tuple [.int i, .int j]))] M Q
    walk_at "dl2"
    refine ⟨num_log a (by omega), ?_, num_log c (by omega), ?_, hQ⟩
    · show (numS i).length + _ ≤ _
      omega
    · show (numS i ++ ("-" : Str)).length + (numS j).length ≤ _
      rw [str_app_len]; omega
  rw [allD_f]
  dsimp only
  refine ⟨by rw [List.length_map]; omega, ?_⟩
  intro p hp
  generalize hM1 : mset M p _ = M1
  have hS : St M none [(p, .lst ([netS N].map fun r => W.d (.list (r.map .str))))] M1 := (St.start M).new' hp (by
    rw [← hM1, List.map_cons, List.map_nil, net_row])
  clear hM1
  subst hκ
  refine wSeq_i fun κ hκ => ?_
  walk_at "dl2"
  rw [List.map_map]
  refine iter_ls (f := W.d ∘ sgD) (fun r ρ M' => ∃ (x3 x4 x5 x6 x7 x8 x9 : Option W) (done : List (List Str)), ρ = [some (.d N.d), some (.d (.tuple (gs.map sgD))), some (.r (.ref p)), x3, x4, x5, x6, x7, x8, x9] ∧ (∀ g ∈ r, SgW N g) ∧ done ++ r.map sightS = netS N :: gs.map sightS ∧ St M none [(p, .lst (done.map fun r => W.d (.list (r.map .str))))] M') ?_ ?_ _ _ _ ⟨_, _, _, _, _, _, _, [netS N], rfl, hg, rfl, hS⟩
  · rintro _ M2 ⟨x3, x4, x5, x6, x7, x8, x9, done, rfl, _, h2, hS⟩
    refine ⟨trivial, ?_⟩
    dsimp only
    subst hκ
    walk_at "dl2"
    simp only [hS.at0]
    rw [List.map_nil, List.append_nil] at h2
    rw [h2, allD_f]
    exact ⟨_, hS.del0.sub, k⟩
  rintro g r _ M2 κ2 ⟨x3, x4, x5, x6, x7, x8, x9, done, rfl, h1, h2, hS⟩ hκ2
  have hgg := h1 g List.mem_cons_self
  have hlen := congrArg List.length h2
  simp only [List.length_append, List.length_cons, List.length_map] at hlen
  have K : ∀ (x4 x5 x6 x7 x8 x9 : Option W) (M3 : MM), St M none [(p, .lst ((done ++ [sightS g]).map fun r => W.d (.list (r.map .str))))] M3 → κ2 [some (.d N.d), some (.d (.tuple (gs.map sgD))), some (.r (.ref p)), some (.d (sgD g)), x4, x5, x6, x7, x8, x9] M3 := fun x4 x5 x6 x7 x8 x9 M3 h => hκ2 _ _ ⟨_, _, _, _, _, _, _, done ++ [sightS g], rfl, fun o ho => h1 o (List.mem_cons_of_mem _ ho), by rw [← h2, List.append_assoc]; rfl, h⟩
  clear hκ2 hκ
  refine ⟨trivial, ?_⟩
  cases g with
  | r b ps l =>
    show wIf _ _ _ _ [_, _, _, some (.d (.tuple [.str (rWord b), rD (ps.headD 0) l])), _, _, _, _, _, _] _
    walk_at "dl2"
    rw [if_pos (by decide)]
    simp only [hS.at0]
    refine ⟨rfl, _, _, rfl, rts_of hN hgg, ?_⟩
    simp only [hS.at0]
    refine ⟨by rw [List.length_map]; omega, ?_⟩
    refine K _ _ _ _ _ _ _ ?_
    have := hS.set0 (.lst (done.map (fun r => W.d (.list (r.map .str))) ++ [W.d (.list ((sightS (.r b ps l)).map .str))]))
    rw [List.map_append]
    exact this
  | p b t ps l m qs o =>
    obtain ⟨g1, g2, t0, t1, m0, m1⟩ := hgg
    show wIf _ _ _ _ [_, _, _, some (.d (.tuple [.str (pWord b), .int t, rD (ps.headD 0) l, .int m, rD (qs.headD 0) o])), _, _, _, _, _, _] _
    walk_at "dl2"
    rw [if_neg (by decide)]
    refine wSeq_i fun κ3 hκ3 => ?_
    walk_at "dl2"
    subst hκ3
    walk_at "dl2"
    simp only [hS.at0]
    refine ⟨rfl, num_log (by omega) t1, _, _, rfl, rts_of hN g1, num_log (by omega) m1, _, _, rfl, rts_of hN g2, ?_⟩
    simp only [hS.at0]
    refine ⟨by rw [List.length_map]; omega, ?_⟩
    refine K _ _ _ _ _ _ _ ?_
    have := hS.set0 (.lst (done.map (fun r => W.d (.list (r.map .str))) ++ [W.d (.list ((sightS (.p b t ps l m qs o)).map .str))]))
    rw [List.map_append]
    exact this
end DL
namespace DL
open PySem PySem.Spec PyProof.Rows L2 TL
local macro_rules | `(tactic| walk_at "dl2") => `(tactic| simp only [wAsg, wOp, wVar, wC, wgN, wgTup, wgCons, wgNil, wgSub, setW, wIf, wTest, wNext, wRet, wRetN, wDrop, wAndT, wOrT, wNotT, wAndV, wOrV, wNotV, wIfE, wNeg, wNil, wCons, wTup, wTupR, wLst, wBlt, wCall, wFrz, wFz, frz, wSl, wNoP, wSoP, wPar2, wPar3, wMethL, mAppend, isLst,
  wRev, wInR, wLenSet, bStr, bMax2, bMin2, wChain, wLc, wipeW, wYes, xq0, mkL, mkT, allD, allD_map, seeL, seeD, seeT, seeS, ownL, oIx, ixW, oAdd, oSub, oMul, oMod, oDiv, oPow, oLt, oLe, oGt, oGe, oB, isInts, oEq, oIsN, isNon, oIsB, oIn, oCat, oRep, bLen, bInt, bAbs, bList, bTuple, seeA, bSum, bInts, bAll, bAny, bBools, bIsi, tyName, bReprS,
  wFor, iR1, iR2, iS, iE, iEB, enW, iZ, stL, startD, dEnds, fin, at0, at1, at2, at3, at4, atm1, atm1', ix40, ix41, ix42, ix43, eqv_int, eqv_none_int, eqv_int_none, eqv_none, eqv_lnil, eqv_tnil, eqv_str, sh_int, sh_none, sh_bool, sh_ints, sh_nil, sh_tints, sh_tnil,
  kit_NoneType_bool, kit_NoneType_int, kit_NoneType_str, kit_NoneType_list, kit_NoneType_tuple, kit_bool_bool, kit_bool_int, kit_bool_str, kit_bool_list, kit_bool_tuple, kit_int_bool, kit_int_int, kit_int_str, kit_int_list, kit_int_tuple, kit_str_bool, kit_str_int, kit_str_str, kit_str_list, kit_str_tuple,
  kit_list_bool, kit_list_int, kit_list_str, kit_list_list, kit_list_tuple, kit_tuple_bool, kit_tuple_int, kit_tuple_str, kit_tuple_list, kit_tuple_tuple, kit_dict_bool, kit_dict_int, kit_dict_str, kit_dict_list, kit_dict_tuple,
  List.map_cons, List.map_nil, List.length_cons, List.length_nil, List.length_map, List.replicate, List.cons_append, List.nil_append, List.getElem?_cons_zero, List.getElem?_cons_succ, List.set_cons_zero, List.set_cons_succ, List.isEmpty_map,
  Bool.false_eq_true, reduceCtorEq, Nat.reduceAdd, Nat.reduceSub, Nat.reduceLeDiff, Option.map_some, Option.bind_some, true_and, and_true, decide_eq_true_eq, Bool.not_eq_true', Bool.not_true, Bool.not_false, decide_eq_false_iff_not, if_true, if_false, ite_true, ite_false, reduceIte, mset_same, cut_map, allD_f, allD_app, allD_rev, rep_map, Option.map_none, wSortK, bSorted, wMinD, bMinL, mExtend, iZA, wM1S, mSplit, mJoin, iG, oInSign, bIntS, oMulS, strsW])
/-! ### what is printed reads back -/
theorem numL_head : ∀ n : Nat, 0 < n → (numL n).head? ≠ some 48 := fun n => by
  induction n using Nat.strongRecOn with
  | _ n ih =>
    intro h
    by_cases c : n < 10
    · rw [numL_lt c]
      simp only [List.head?_cons, ne_eq, Option.some.injEq]
      omega
    · rw [numL_step (by omega), List.head?_append]
      have h2 := ih (n / 10) (by omega) (by omega)
      have h3 := numL_ne (n / 10)
      cases hq : numL (n / 10) with
      | nil => exact absurd hq h3
      | cons a r => rw [hq] at h2; exact h2
theorem numP_numS {n : Nat} (h : n < 10 ^ 41) : numP (numS n) = some n := by
  have hl : (numS n).length ≤ 41 := numS_len (by decide) h
  unfold numP
  rw [tl_numS, if_neg (numL_ne n), if_neg (by omega), if_neg (by rw [dig_all (numL_digits n)]; decide), numL_val, if_neg]
  rintro ⟨h1, h2⟩
  by_cases h0 : n = 0
  · subst h0
    have : (numS ((0 : Nat) : Int)).length = 1 := rfl
    omega
  · exact numL_head n (by omega) h1
theorem nums_free {n s : Nat} (h : s < 48 ∨ 57 < s) : s ∉ tl (numS n) := by rw [tl_numS]; exact numL_free h
theorem join_str (a : Str) (ys : List Str) : Txt.join a ys = Str.join a ys := join_eq a ys
theorem split_of {b : Str} {c : Nat} (hb : tl b = [c]) (hc : c < 256) {ys : List Str} (hne : ys ≠ []) (hp : ∀ p ∈ ys, c ∉ tl p) : Txt.split (Txt.join b ys) b = ys :=
  split_join (S := []) hb (sep_of hb hc).2 hne hp
theorem numsP_join {b : Str} {c : Nat} (hb : tl b = [c]) (hc : c < 48) {ns : List Nat} (hne : ns ≠ []) (h : ∀ n ∈ ns, n < 10 ^ 41) : numsP (Txt.join b (ns.map fun n : Nat => numS (n : Int))) b = some ns := by
  unfold numsP
  rw [split_of hb (by omega) (by simpa using hne) (fun p hp => by
    obtain ⟨n, _, rfl⟩ := List.mem_map.mp hp
    exact nums_free (.inl hc)), List.map_map]
  have e : ns.map (numP ∘ fun n : Nat => numS (n : Int)) = ns.map some := List.map_congr_left fun n hn => numP_numS (h n hn)
  rw [e, optAll_some]
theorem join_two (b x y : Str) : Txt.join b [x, y] = x ++ b ++ y := by
  rw [join_str]
  apply ext_tl
  rw [tl_join, tl_append, tl_append]
  show tl x ++ (tl b ++ tl y) = _
  rw [List.append_assoc]
theorem joinL_free {s : Nat} {S : List Nat} (hS : s ∉ S) : ∀ {ps : List (List Nat)}, (∀ p ∈ ps, s ∉ p) → s ∉ joinL S ps
  | [], _, h => (nomatch h)
  | [p], hp, h => hp p List.mem_cons_self h
  | p :: q :: r, hp, h => by
    have h' : s ∈ p ++ (S ++ joinL S (q :: r)) := h
    rcases List.mem_append.mp h' with h | h
    · exact hp p List.mem_cons_self h
    · rcases List.mem_append.mp h with h | h
      · exact hS h
      · exact joinL_free hS (fun z hz => hp z (List.mem_cons_of_mem _ hz)) h
theorem join_free {b : Str} {s : Nat} (hb : s ∉ tl b) {ys : List Str} (h : ∀ y ∈ ys, s ∉ tl y) : s ∉ tl (Txt.join b ys) := by
  rw [join_str, tl_join]
  exact joinL_free hb fun p hp => by
    obtain ⟨y, hy, rfl⟩ := List.mem_map.mp hp
    exact h y hy
theorem app_free {x y : Str} {s : Nat} (h : s ∉ tl x) (k : s ∉ tl y) : s ∉ tl (x ++ y) := by
  rw [tl_append]
  exact fun z => (List.mem_append.mp z).elim h k
theorem rtP_routeS {N : Net} (hN : N.Ok) {ps : List Int} {l : List Nat} (h : Rt N ps l) : rtP N (routeS (ps.headD 0) l) = some ((ps.headD 0).toNat, l) := by
  have hr := rts_of hN h
  have his := h.is hN
  obtain ⟨h0, h1, h2, h3⟩ := hr
  obtain ⟨s, hs⟩ := Int.eq_ofNat_of_zero_le h0
  rw [hs] at his ⊢
  have e : routeS (s : Int) l = Txt.join ":" [numS (s : Int), Txt.join "." (l.map fun n : Nat => numS (n : Int))] := by rw [join_two]; rfl
  unfold rtP
  rw [e, split_of (c := 58) rfl (by decide) (by simp) (fun p hp => by
    rcases List.mem_cons.mp hp with rfl | hp
    · exact nums_free (.inr (by decide))
    · cases List.mem_singleton.mp hp
      exact join_free (by decide) fun y hy => by
        obtain ⟨n, _, rfl⟩ := List.mem_map.mp hy
        exact nums_free (.inr (by decide)))]
  dsimp only
  rw [numP_numS (by omega), numsP_join (c := 46) rfl (by decide) h.ne (fun n hn => by have := h3 n hn; omega)]
  dsimp only
  rw [if_pos his]; rfl
theorem prP_word {N : Net} (hN : N.Ok) {x : Int × Int} (hx : x ∈ N.ls) : prP (numS x.1 ++ "-" ++ numS x.2) N.p = some (x.1.toNat, x.2.toNat) := by
  obtain ⟨a, b, c⟩ := hN.ln x hx
  have := hN.p6
  obtain ⟨i, j⟩ := x
  dsimp only at a b c ⊢
  obtain ⟨i, rfl⟩ := Int.eq_ofNat_of_zero_le a
  obtain ⟨j, rfl⟩ := Int.eq_ofNat_of_zero_le (show 0 ≤ j by omega)
  unfold prP
  have e : numS (i : Int) ++ "-" ++ numS (j : Int) = Txt.join "-" ([i, j].map fun n : Nat => numS (n : Int)) := by
    rw [List.map_cons, List.map_cons, List.map_nil, join_two]
  rw [e, numsP_join (c := 45) rfl (by decide) (by simp) (fun n hn => by
    simp only [List.mem_cons, List.not_mem_nil, or_false] at hn
    rcases hn with rfl | rfl <;> omega)]
  dsimp only
  rw [if_pos ⟨by omega, by omega⟩]; rfl
theorem plcP_num {N : Net} (hN : N.Ok) : plcP (numS N.p) = some N.p.toNat := by
  have h2 := hN.p2
  have h6 := hN.p6
  obtain ⟨n, hn⟩ := Int.eq_ofNat_of_zero_le (show 0 ≤ N.p by omega)
  rw [hn] at h2 h6 ⊢
  unfold plcP
  rw [numP_numS (by omega), Option.filter_some, if_pos]
  · rfl
  · rw [decide_eq_true (by omega), decide_eq_true (by omega)]; rfl
theorem tmP_num {t : Int} (h0 : 1 ≤ t) (h1 : t < 10 ^ 41) : tmP (numS t) = some t.toNat := by
  obtain ⟨n, rfl⟩ := Int.eq_ofNat_of_zero_le (show 0 ≤ t by omega)
  unfold tmP
  rw [numP_numS (by exact_mod_cast h1), Option.filter_some, if_pos]
  · rfl
  · rw [decide_eq_true (by omega)]
/-! ### rows and texts -/
/-- a word without blanks and ends of rows -/
def Plain (w : Str) : Prop := 32 ∉ tl w ∧ 10 ∉ tl w
theorem plain_num {i : Int} (h : 0 ≤ i) : Plain (numS i) := by
  obtain ⟨n, rfl⟩ := Int.eq_ofNat_of_zero_le h
  exact ⟨nums_free (.inl (by decide)), nums_free (.inl (by decide))⟩
theorem Plain.app {x y : Str} (h : Plain x) (k : Plain y) : Plain (x ++ y) := ⟨app_free h.1 k.1, app_free h.2 k.2⟩
theorem Plain.join {b : Str} (hb : Plain b) {ys : List Str} (h : ∀ y ∈ ys, Plain y) : Plain (Txt.join b ys) := ⟨join_free hb.1 fun y hy => (h y hy).1, join_free hb.2 fun y hy => (h y hy).2⟩
theorem plain_route {s : Int} {l : List Nat} (h : 0 ≤ s) : Plain (routeS s l) := ((plain_num h).app ⟨by decide, by decide⟩).app (Plain.join ⟨by decide, by decide⟩ fun y hy => by
  obtain ⟨n, _, rfl⟩ := List.mem_map.mp hy
  exact plain_num (by omega))
theorem plain_p (b : Bool) : Plain (pWord b) := by cases b <;> exact ⟨by decide, by decide⟩
theorem plain_r (b : Bool) : Plain (rWord b) := by cases b <;> exact ⟨by decide, by decide⟩
theorem plain_sight {N : Net} (hN : N.Ok) {g : Sg} (h : SgW N g) : sightS g ≠ [] ∧ ∀ y ∈ sightS g, Plain y := by
  cases g with
  | r b ps l =>
    refine ⟨by simp [sightS], fun y hy => ?_⟩
    simp only [sightS, List.mem_cons, List.not_mem_nil, or_false] at hy
    rcases hy with rfl | rfl
    · exact plain_r b
    · exact plain_route (rts_of hN h).1
  | p b t ps l m qs o =>
    obtain ⟨h1, h2, t0, t1, m0, m1⟩ := h
    refine ⟨by simp [sightS], fun y hy => ?_⟩
    simp only [sightS, List.mem_cons, List.not_mem_nil, or_false] at hy
    rcases hy with rfl | rfl | rfl | rfl | rfl
    · exact plain_p b
    · exact plain_num (by omega)
    · exact plain_route (rts_of hN h1).1
    · exact plain_num (by omega)
    · exact plain_route (rts_of hN h2).1
theorem plain_net {N : Net} (hN : N.Ok) : netS N ≠ [] ∧ ∀ y ∈ netS N, Plain y := by
  have := hN.p2
  refine ⟨by simp [netS], fun y hy => ?_⟩
  rcases List.mem_cons.mp hy with rfl | hy
  · exact ⟨by decide, by decide⟩
  rcases List.mem_cons.mp hy with rfl | hy
  · exact plain_num (by omega)
  · obtain ⟨x, hx, rfl⟩ := List.mem_map.mp hy
    obtain ⟨a, _, c, _⟩ := net_word hN hx
    exact ((plain_num a).app ⟨by decide, by decide⟩).app (plain_num c)
theorem split_row {r : List Str} (hne : r ≠ []) (h : ∀ y ∈ r, Plain y) : Txt.split (Txt.join " " r) " " = r := split_of (c := 32) rfl (by decide) hne fun p hp => (h p hp).1
theorem text_join : ∀ rows : List (List Nat), rows ≠ [] → joinL [] (rows.map fun r => r ++ [10]) = joinL [10] (rows ++ [[]])
  | [], h => absurd rfl h
  | [p], _ => by
    show p ++ [10] = p ++ ([10] ++ [])
    rw [List.append_nil]
  | p :: q :: r, _ => by
    have := text_join (q :: r) (by simp)
    show p ++ [10] ++ ([] ++ joinL [] ((q :: r).map fun r => r ++ [10])) = p ++ ([10] ++ joinL [10] ((q :: r) ++ [[]]))
    rw [this, List.nil_append, List.append_assoc]
theorem textS_eq {rows : List (List Str)} (hne : rows ≠ []) : textS rows = Txt.join "\n" (rows.map (Txt.join " ") ++ [("" : Str)]) := by
  unfold textS
  rw [join_str, join_str (Str.ofString "\n")]
  apply ext_tl
  rw [tl_join, tl_join, List.map_append, List.map_map]
  have e1 : tl (Str.ofString "") = [] := rfl
  have e2 : tl (Str.ofString "\n") = [10] := rfl
  have e3 : rows.map (tl ∘ rowS) = (rows.map fun r => tl (Txt.join " " r)).map fun r => r ++ [10] := by
    rw [List.map_map]
    refine List.map_congr_left fun r _ => ?_
    show tl (rowS r) = tl (Txt.join " " r) ++ [10]
    unfold rowS
    rw [tl_append]; rfl
  rw [e1, e2, e3, text_join _ (by simpa using hne), List.map_map]
  rfl
theorem split_text {rows : List (List Str)} (hne : rows ≠ []) (h : ∀ r ∈ rows, ∀ y ∈ r, Plain y) : Txt.split (textS rows) "\n" = rows.map (Txt.join " ") ++ [("" : Str)] := by
  rw [textS_eq hne]
  refine split_of (c := 10) rfl (by decide) (by simp) fun p hp => ?_
  rcases List.mem_append.mp hp with hp | hp
  · obtain ⟨r, hr, rfl⟩ := List.mem_map.mp hp
    exact join_free (by decide) fun y hy => (h r hr y hy).2
  · cases List.mem_singleton.mp hp
    decide
end DL
namespace DL
open PySem PySem.Spec PyProof.Rows L2 TL
local macro_rules | `(tactic| walk_at "dl2") => `(tactic| simp only [wAsg, wOp, wVar, wC, wgN, wgTup, wgCons, wgNil, wgSub, setW, wIf, wTest, wNext, wRet, wRetN, wDrop, wAndT, wOrT, wNotT, wAndV, wOrV, wNotV, wIfE, wNeg, wNil, wCons, wTup, wTupR, wLst, wBlt, wCall, wFrz, wFz, frz, wSl, wNoP, wSoP, wPar2, wPar3, wMethL, mAppend, isLst,
  wRev, wInR, wLenSet, bStr, bMax2, bMin2, wChain, wLc, wipeW, wYes, xq0, mkL, mkT, allD, allD_map, seeL, seeD, seeT, seeS, ownL, oIx, ixW, oAdd, oSub, oMul, oMod, oDiv, oPow, oLt, oLe, oGt, oGe, oB, isInts, oEq, oIsN, isNon, oIsB, oIn, oCat, oRep, bLen, bInt, bAbs, bList, bTuple, seeA, bSum, bInts, bAll, bAny, bBools, bIsi, tyName, bReprS,
  wFor, iR1, iR2, iS, iE, iEB, enW, iZ, stL, startD, dEnds, fin, at0, at1, at2, at3, at4, atm1, atm1', ix40, ix41, ix42, ix43, eqv_int, eqv_none_int, eqv_int_none, eqv_none, eqv_lnil, eqv_tnil, eqv_str, sh_int, sh_none, sh_bool, sh_ints, sh_nil, sh_tints, sh_tnil,
  kit_NoneType_bool, kit_NoneType_int, kit_NoneType_str, kit_NoneType_list, kit_NoneType_tuple, kit_bool_bool, kit_bool_int, kit_bool_str, kit_bool_list, kit_bool_tuple, kit_int_bool, kit_int_int, kit_int_str, kit_int_list, kit_int_tuple, kit_str_bool, kit_str_int, kit_str_str, kit_str_list, kit_str_tuple,
  kit_list_bool, kit_list_int, kit_list_str, kit_list_list, kit_list_tuple, kit_tuple_bool, kit_tuple_int, kit_tuple_str, kit_tuple_list, kit_tuple_tuple, kit_dict_bool, kit_dict_int, kit_dict_str, kit_dict_list, kit_dict_tuple,
  List.map_cons, List.map_nil, List.length_cons, List.length_nil, List.length_map, List.replicate, List.cons_append, List.nil_append, List.getElem?_cons_zero, List.getElem?_cons_succ, List.set_cons_zero, List.set_cons_succ, List.isEmpty_map,
  Bool.false_eq_true, reduceCtorEq, Nat.reduceAdd, Nat.reduceSub, Nat.reduceLeDiff, Option.map_some, Option.bind_some, true_and, and_true, decide_eq_true_eq, Bool.not_eq_true', Bool.not_true, Bool.not_false, decide_eq_false_iff_not, if_true, if_false, ite_true, ite_false, reduceIte, mset_same, cut_map, allD_f, allD_app, allD_rev, rep_map, Option.map_none, wSortK, bSorted, wMinD, bMinL, mExtend, iZA, wM1S, mSplit, mJoin, iG, oInSign, bIntS, oMulS, strsW])
abbrev c_PAIR_WORDS' : PyData := .tuple ((["most", "less"] : List Str).map PyData.str)
def w_wanted : WS := (wSeq (wIf (wTest (wOp (oIsN false) (wVar 0) (wC (.d .none)))) wNever wNext)
    (wRet (wVar 0)))
def w_word_at : WS := (wSeq (wIf (wTest (wOp oGe (wVar 1) (wBlt bLen (wCons (wVar 0) wNil)))) wNever wNext)
    (wRet (wOp oIx (wVar 0) (wVar 1))))
def w_net_of (sp_wanted : DSp) (sp_places_of_texts : DSp) (sp_word_at : DSp) (sp_pair_of : DSp) : WS := (wSeq (wIf (wTest (wOp (oEq true) (wOp oIx (wVar 0) (wC (.d (.int 0)))) (wC (.d (.str "net"))))) wNever wNext)
    (wSeq (wAsg (wCall sp_wanted (wCons (wCall sp_places_of_texts (wCons (wCall sp_word_at (wCons (wVar 0) (wCons (wC (.d (.int 1))) (wCons (wC (.d (.int 0))) wNil)))) wNil)) (wCons (wC (.d (.int 0))) (wCons (wC (.d (.int 1))) wNil)))) (wgN 1))
    (wSeq (wAsg (wLst true (wCons (wCall sp_wanted (wCons (wCall sp_pair_of (wCons (wCall sp_word_at (wCons (wVar 0) (wCons (wC (.d (.int 2))) (wCons (wC (.d (.int 0))) wNil)))) (wCons (wVar 1) wNil))) (wCons (wC (.d (.int 0))) (wCons (wC (.d (.int 2))) wNil)))) wNil)) (wgN 2))
    (wSeq (wFor (iR2 (wCons (wC (.d (.int 3))) (wCons (wBlt bLen (wCons (wVar 0) wNil)) wNil))) (wgN 3) (wSeq (wIf (wTest (wOp (oEq false) (wBlt bLen (wCons (wVar 2) wNil)) (wC (.d (.int 8))))) wNever wNext)
    (wDrop (wMethL mAppend (wVar 2) (wCons (wCall sp_wanted (wCons (wCall sp_pair_of (wCons (wOp oIx (wVar 0) (wVar 3)) (wCons (wVar 1) wNil))) (wCons (wC (.d (.int 0))) (wCons (wVar 3) wNil)))) wNil)))))
    (wRet (wTup (wCons (wVar 1) (wCons (wBlt bTuple (wCons (wVar 2) wNil)) wNil))))))))
def w_sight_of (sp_wanted : DSp) (sp_route_of : DSp) (sp_word_at : DSp) (sp_times_of : DSp) : WS := (wSeq (wIf (wTest (wOp (oIn false) (wOp oIx (wVar 0) (wC (.d (.int 0)))) (wC (.d c_ROUTE_WORDS)))) (wAsg (wTup (wCons (wOp oIx (wVar 0) (wC (.d (.int 0)))) (wCons (wCall sp_wanted (wCons (wCall sp_route_of (wCons (wCall sp_word_at (wCons (wVar 0) (wCons (wC (.d (.int 1))) (wCons (wVar 2) wNil)))) (wCons (wVar 1) wNil))) (wCons (wVar 2) (wCons (wC (.d (.int 1))) wNil)))) wNil))) (wgN 3)) (wIf (wTest (wOp (oIn false) (wOp oIx (wVar 0) (wC (.d (.int 0)))) (wC (.d c_PAIR_WORDS)))) (wSeq (wAsg (wCall sp_wanted (wCons (wCall sp_times_of (wCons (wCall sp_word_at (wCons (wVar 0) (wCons (wC (.d (.int 1))) (wCons (wVar 2) wNil)))) wNil)) (wCons (wVar 2) (wCons (wC (.d (.int 1))) wNil)))) (wgN 4))
    (wSeq (wAsg (wCall sp_wanted (wCons (wCall sp_route_of (wCons (wCall sp_word_at (wCons (wVar 0) (wCons (wC (.d (.int 2))) (wCons (wVar 2) wNil)))) (wCons (wVar 1) wNil))) (wCons (wVar 2) (wCons (wC (.d (.int 2))) wNil)))) (wgN 5))
    (wSeq (wAsg (wCall sp_wanted (wCons (wCall sp_times_of (wCons (wCall sp_word_at (wCons (wVar 0) (wCons (wC (.d (.int 3))) (wCons (wVar 2) wNil)))) wNil)) (wCons (wVar 2) (wCons (wC (.d (.int 3))) wNil)))) (wgN 6))
    (wAsg (wTup (wCons (wOp oIx (wVar 0) (wC (.d (.int 0)))) (wCons (wVar 4) (wCons (wVar 5) (wCons (wVar 6) (wCons (wCall sp_wanted (wCons (wCall sp_route_of (wCons (wCall sp_word_at (wCons (wVar 0) (wCons (wC (.d (.int 4))) (wCons (wVar 2) wNil)))) (wCons (wVar 1) wNil))) (wCons (wVar 2) (wCons (wC (.d (.int 4))) wNil)))) wNil)))))) (wgN 3))))) wNever))
    (wSeq (wIf (wTest (wOp oGt (wBlt bLen (wCons (wVar 0) wNil)) (wBlt bLen (wCons (wVar 3) wNil)))) wNever wNext)
    (wRet (wVar 3))))
def w_read_sights (sp_net_of : DSp) (sp_sight_of : DSp) : WS := (wSeq (wAsg (wM1S mSplit (wVar 0) (wC (.d (.str "\n")))) (wgN 1))
    (wSeq (wAsg (wAndV (wOp (oEq false) (wOp oIx (wVar 1) (wNeg (wC (.d (.int 1))))) (wC (.d (.str "")))) (wOp oGt (wBlt bLen (wCons (wVar 1) wNil)) (wC (.d (.int 1))))) (wgN 2))
    (wSeq (wIf (wTest (wVar 2)) (wAsg (wSl false (wVar 1) wNoP (wSoP (wNeg (wC (.d (.int 1)))))) (wgN 1)) wNext)
    (wSeq (wAsg (wCall sp_net_of (wCons (wM1S mSplit (wOp oIx (wVar 1) (wC (.d (.int 0)))) (wC (.d (.str " ")))) wNil)) (wgN 3))
    (wSeq (wAsg (wBlt bTuple (wCons (wLc false (iEB (wCons (wVar 1) wNil)) (wgTup 2 (wgCons (wgN 5) (wgCons (wgN 6) wgNil))) (wTest (wOp oGt (wVar 5) (wC (.d (.int 0))))) (wCall sp_sight_of (wCons (wM1S mSplit (wVar 6) (wC (.d (.str " ")))) (wCons (wVar 3) (wCons (wVar 5) wNil)))) [5, 6]) wNil)) (wgN 4))
    (wSeq (wIf (wNotT (wTest (wVar 2))) wNever wNext)
    (wRet (wTup (wCons (wVar 3) (wCons (wVar 4) wNil))))))))))
def w__law_sights (sp__law_draw : DSp) (sp__law_sight : DSp) : WS := (wSeq (wPar2 2 3 (wCons (wLst true wNil) (wCons (wCall sp__law_draw (wCons (wVar 0) (wCons (wC (.d (.int 6))) wNil))) wNil)))
    (wSeq (wIf (wTest (wOp (oEq false) (wCall sp__law_draw (wCons (wVar 0) (wCons (wC (.d (.int 4))) wNil))) (wC (.d (.int 0))))) (wAsg (wOp oAdd (wC (.d (.int 6))) (wCall sp__law_draw (wCons (wVar 0) (wCons (wC (.d (.int 7))) wNil)))) (wgN 3)) wNext)
    (wSeq (wFor (iR1 (wCons (wVar 3) wNil)) (wgN 4) (wSeq (wAsg (wCall sp__law_sight (wCons (wVar 0) (wCons (wVar 1) wNil))) (wgN 5))
    (wSeq (wIf (wAndT (wTest (wOp (oEq false) (wBlt bLen (wCons (wVar 5) wNil)) (wC (.d (.int 5))))) (wTest (wOp (oEq false) (wCall sp__law_draw (wCons (wVar 0) (wCons (wC (.d (.int 3))) wNil))) (wC (.d (.int 0)))))) (wSeq (wAsg (wOp oAdd (wC (.d (.int 1))) (wOp oMul (wCall sp__law_draw (wCons (wVar 0) (wCons (wC (.d (.int 9))) wNil))) (wBlt bIntS (wCons (wOp oAdd (wC (.d (.str "1"))) (wOp oMulS (wC (.d (.str "0"))) (wCall sp__law_draw (wCons (wVar 0) (wCons (wC (.d (.int 40))) wNil))))) wNil)))) (wgN 6))
    (wAsg (wTup (wCons (wOp oIx (wVar 5) (wC (.d (.int 0)))) (wCons (wVar 6) (wCons (wOp oIx (wVar 5) (wC (.d (.int 2)))) (wCons (wOp oIx (wVar 5) (wC (.d (.int 3)))) (wCons (wOp oIx (wVar 5) (wC (.d (.int 4)))) wNil)))))) (wgN 5))) wNext)
    (wDrop (wMethL mAppend (wVar 2) (wCons (wVar 5) wNil))))))
    (wRet (wBlt bTuple (wCons (wVar 2) wNil))))))
def w_law (sp__law_deck : DSp) (sp__law_net : DSp) (sp__law_sights : DSp) (sp__law_text : DSp) (sp__law_words : DSp) (sp_sights_text : DSp) (sp_read_sights : DSp) : WS := (wSeq (wAsg (wCall sp__law_deck (wCons (wVar 0) wNil)) (wgN 1))
    (wSeq (wFor (iR1 (wCons (wC (.d (.int 10))) wNil)) (wgN 2) (wSeq (wAsg (wCall sp__law_net (wCons (wVar 1) wNil)) (wgN 3))
    (wSeq (wAsg (wCall sp__law_sights (wCons (wVar 1) (wCons (wVar 3) wNil))) (wgN 4))
    (wSeq (wPar2 5 6 (wCons (wBlt bReprS (wCons (wLst false (wCons (wVar 3) (wCons (wVar 4) wNil))) wNil)) (wCons (wCall sp__law_text (wCons (wCall sp__law_words (wCons (wVar 3) (wCons (wVar 4) wNil))) wNil)) wNil)))
    (wSeq (wIf (wTest (wOp (oEq true) (wBlt bReprS (wCons (wLst false (wCons (wCall sp_sights_text (wCons (wVar 3) (wCons (wVar 4) wNil))) (wCons (wCall sp_sights_text (wCons (wVar 3) (wCons (wVar 4) wNil))) wNil))) wNil)) (wBlt bReprS (wCons (wLst false (wCons (wVar 6) (wCons (wVar 6) wNil))) wNil)))) (wRet (wC (.d (.bool false)))) wNext)
    (wIf (wOrT (wTest (wOp (oEq true) (wBlt bReprS (wCons (wLst false (wCons (wCall sp_read_sights (wCons (wVar 6) wNil)) (wCons (wCall sp_read_sights (wCons (wVar 6) wNil)) wNil))) wNil)) (wBlt bReprS (wCons (wOp (oRep false) (wLst false (wCons (wTup (wCons (wVar 3) (wCons (wVar 4) wNil))) wNil)) (wC (.d (.int 2)))) wNil)))) (wTest (wOp (oEq true) (wBlt bReprS (wCons (wLst false (wCons (wVar 3) (wCons (wVar 4) wNil))) wNil)) (wVar 5)))) (wRet (wC (.d (.bool false)))) wNext))))))
    (wRet (wC (.d (.bool true))))))
abbrev sp_places_of_nets : DSp := sp_places_of
abbrev w_places_of_nets (sp_next_place : DSp) : WS := w_places_of sp_next_place
theorem pure_places_of_nets (ws : List W) (M : MM) (R : KW) (xr : XR) (h : sp_places_of_nets ws M R xr) : w_places_of_nets sp_next_place (dEnds R xr) (startD ["net", "route", "found", "line"] ws) M := pure_places_of ws M R xr h
def sp_wanted : DSp := fun ws M R xr => ∃ d x y : PyData, ws = [.d d, .d x, .d y] ∧ isNon (.d d) = false ∧ R (.d d) M
theorem pure_wanted (ws : List W) (M : MM) (R : KW) (xr : XR) (h : sp_wanted ws M R xr) : w_wanted (dEnds R xr) (startD ["found", "line", "word"] ws) M := by
  obtain ⟨d, x, y, rfl, hd, k⟩ := h
  unfold w_wanted
  refine wSeq_i fun κ hκ => ?_
  walk_at "dl2"
  cases d with
  | none => cases hd
  | _ =>
    dsimp only
    rw [if_neg (by decide)]
    subst hκ
    walk_at "dl2"
    exact ⟨_, Sub.refl _, k⟩
def sp_word_at : DSp := fun ws M R xr => ∃ (ds : List PyData) (i : Nat) (y d : PyData), ws = [.d (.list ds), .d (.int i), .d y] ∧ ds[i]? = some d ∧ R (.d d) M
theorem pure_word_at (ws : List W) (M : MM) (R : KW) (xr : XR) (h : sp_word_at ws M R xr) : w_word_at (dEnds R xr) (startD ["words", "at", "line"] ws) M := by
  obtain ⟨ds, i, y, d, rfl, hd, k⟩ := h
  have hi : i < ds.length := (List.getElem?_eq_some_iff.mp hd).1
  unfold w_word_at
  refine wSeq_i fun κ hκ => ?_
  walk_at "dl2"
  rw [if_neg (by omega)]
  subst hκ
  walk_at "dl2"
  rw [atI_ok _ i _ rfl, List.getElem?_map, hd]
  exact ⟨_, Sub.refl _, k⟩
theorem net_back {N : Net} (hN : N.Ok) {x : Int × Int} (hx : x ∈ N.ls) : oprD (some (x.1.toNat, x.2.toNat)) = prD x := by
  obtain ⟨a, b, c⟩ := hN.ln x hx
  show prD _ = prD x
  obtain ⟨i, j⟩ := x
  dsimp only at a b c ⊢
  rw [show ((i.toNat : Nat) : Int) = i by omega, show ((j.toNat : Nat) : Int) = j by omega]
def sp_net_of : DSp := fun ws M R xr => ∃ N : Net, ws = [.d (.list ((netS N).map .str))] ∧ N.Ok ∧ R (.d N.d) M
theorem oks_num {i : Int} : OkS (numS i) := OkS.lit _
theorem oks_join {b : Str} (hb : OkS b) {ys : List Str} (h : ∀ y ∈ ys, OkS y) : OkS (Txt.join b ys) := fun c hc => by
  by_cases z : c ∈ tl (Txt.join b ys)
  · refine Decidable.byContradiction fun hn => ?_
    refine join_free (b := b) (ys := ys) (s := c) (fun q => hn (hb c q)) (fun y hy q => hn (h y hy c q)) z
  · exact absurd hc z
theorem oks_route {s : Int} {l : List Nat} : OkS (routeS s l) := (oks_num.app (OkS.lit ":")).app (oks_join (OkS.lit ".") fun y hy => by
  obtain ⟨n, _, rfl⟩ := List.mem_map.mp hy
  exact oks_num)
theorem oks_pair {x : Int × Int} : OkS (numS x.1 ++ "-" ++ numS x.2) := (oks_num.app (OkS.lit "-")).app oks_num
theorem pure_net_of (ws : List W) (M : MM) (R : KW) (xr : XR) (h : sp_net_of ws M R xr) : w_net_of sp_wanted sp_places_of_texts sp_word_at sp_pair_of (dEnds R xr) (startD ["words", "places", "lines", "at"] ws) M := by
  obtain ⟨N, rfl, hN, k⟩ := h
  have hp2 := hN.p2
  have hp6 := hN.p6
  have hl1 := hN.l1
  have hl8 := hN.l8
  obtain ⟨x0, xs, hx⟩ : ∃ x0 xs, N.ls = x0 :: xs := by
    cases hq : N.ls with
    | nil => rw [hq] at hl1; cases hl1
    | cons a r => exact ⟨a, r, rfl⟩
  unfold w_net_of
  refine wSeq_i fun κ hκ => ?_
  have en : (netS N).map PyData.str = PyData.str (Str.ofString "net") :: PyData.str (numS N.p) :: PyData.str (numS x0.1 ++ "-" ++ numS x0.2) :: xs.map fun x => PyData.str (numS x.1 ++ "-" ++ numS x.2) := by rw [net_row, hx]; rfl
  have hx0 : x0 ∈ N.ls := by rw [hx]; exact List.mem_cons_self
  have hxs : ∀ x ∈ xs, x ∈ N.ls := fun x h => by rw [hx]; exact List.mem_cons_of_mem _ h
  have hlen : xs.length ≤ 7 := by rw [hx, List.length_cons] at hl8; omega
  have hpl : ∀ x ∈ N.ls, OkS (numS x.1 ++ "-" ++ numS x.2) ∧ (numS x.1 ++ "-" ++ numS x.2).length ≤ 16000000 := fun x h => by
    obtain ⟨a, b, c, d⟩ := net_word hN h
    have b1 := numS_len' (k := 1) a (by decide) (by omega)
    have b2 := numS_len' (k := 1) c (by decide) (by omega)
    have b3 : (("-" : Str)).length = 1 := rfl
    refine ⟨oks_pair, ?_⟩
    rw [str_app_len, str_app_len]; omega
  rw [en]
  walk_at "dl2"
  refine ⟨sh_lit _, sh_lit _, ?_⟩
  rw [if_neg (fun z => z trivial)]
  generalize hw : (PyData.str (Str.ofString "net") :: PyData.str (numS N.p) :: PyData.str (numS x0.1 ++ Str.ofString "-" ++ numS x0.2) :: xs.map fun x => PyData.str (numS x.1 ++ Str.ofString "-" ++ numS x.2)) = ws
  have hw1 : ws[1]? = some (.str (numS N.p)) := by rw [← hw]; rfl
  have hw2 : ws[2]? = some (.str (numS x0.1 ++ "-" ++ numS x0.2)) := by rw [← hw]; rfl
  have hw3 : ∀ (j : Nat) (x : Int × Int), xs[j]? = some x → ws[j + 3]? = some (.str (numS x.1 ++ "-" ++ numS x.2)) := fun j x h => by
    rw [← hw]
    show (xs.map fun x => PyData.str (numS x.1 ++ Str.ofString "-" ++ numS x.2))[j]? = _
    rw [List.getElem?_map, h]; rfl
  have hwl : ws.length = xs.length + 3 := by rw [← hw]; simp
  clear hw en
  subst hκ
  refine wSeq_i fun κ hκ => ?_
  walk_at "dl2"
  refine ⟨ws, 1, _, _, rfl, hw1, _, rfl, oks_num, Nat.le_trans (numS_len' (k := 1) (by omega) (by decide) (by omega)) (by decide), _, _, _, rfl, ?_⟩
  rw [plcP_num hN]
  refine ⟨rfl, ?_⟩
  have ep : onD (some N.p.toNat) = .int N.p := by
    show PyData.int ((N.p.toNat : Nat) : Int) = _
    rw [show ((N.p.toNat : Nat) : Int) = N.p by omega]
  rw [ep]
  subst hκ
  refine wSeq_i fun κ hκ => ?_
  walk_at "dl2"
  refine ⟨ws, 2, _, _, rfl, hw2, _, _, rfl, (hpl x0 hx0).1, (hpl x0 hx0).2, _, _, _, rfl, ?_⟩
  rw [prP_word hN hx0, net_back hN hx0]
  refine ⟨rfl, fun q hq => ?_⟩
  generalize hM1 : mset M q _ = M1
  have hS : St M none [(q, .lst ([x0].map fun x => W.d (prD x)))] M1 := (St.start M).new' hq hM1
  clear hM1
  subst hκ
  refine wSeq_i fun κ hκ => ?_
  walk_at "dl2"
  refine ⟨⟨by omega, by omega⟩, ?_⟩
  have ec : (((ws.length : Nat) : Int) - 3).toNat = xs.length := by omega
  rw [ec]
  refine iter_rg (fun i n ρ M' => ∃ (x3 : Option W) (j : Nat), ρ = [some (.d (.list ws)), some (.d (.int N.p)), some (.r (.ref q)), x3] ∧ i = 3 + (j : Int) ∧ j + n = xs.length ∧ St M none [(q, .lst ((x0 :: xs.take j).map fun x => W.d (prD x)))] M') ?_ ?_ _ 3 _ _ ⟨_, 0, rfl, rfl, by omega, hS⟩
  · rintro i _ M2 ⟨x3, j, rfl, rfl, h2, hS⟩
    refine ⟨trivial, ?_⟩
    dsimp only
    subst hκ
    walk_at "dl2"
    simp only [hS.at0]
    have ej : xs.take j = xs := List.take_of_length_le (by omega)
    rw [ej, ← hx, allD_f]
    exact ⟨_, hS.sub, k⟩
  rintro i n _ M2 κ2 ⟨x3, j, rfl, rfl, h2, hS⟩ hκ2
  obtain ⟨x, hxj⟩ : ∃ x, xs[j]? = some x := ⟨_, List.getElem?_eq_getElem (by omega)⟩
  have hxm : x ∈ N.ls := hxs x (List.mem_of_getElem? hxj)
  refine ⟨trivial, ?_⟩
  refine wSeq_i fun κ3 hκ3 => ?_
  walk_at "dl2"
  simp only [hS.at0]
  rw [if_neg (by simp only [List.length_map, List.length_cons, List.length_take]; omega)]
  subst hκ3
  walk_at "dl2"
  simp only [hS.at0]
  rw [atI_ok _ (j + 3) _ (by omega), List.getElem?_map, hw3 j x hxj]
  refine ⟨rfl, _, _, rfl, (hpl x hxm).1, (hpl x hxm).2, _, _, _, rfl, ?_⟩
  rw [prP_word hN hxm, net_back hN hxm]
  refine ⟨rfl, ?_⟩
  simp only [hS.at0]
  refine ⟨by simp only [List.length_map, List.length_cons, List.length_take]; omega, ?_⟩
  refine hκ2 _ _ ⟨_, j + 1, rfl, by omega, by omega, ?_⟩
  have := hS.set0 (.lst ((x0 :: xs.take j).map (fun x => W.d (prD x)) ++ [W.d (prD x)]))
  have et : x0 :: xs.take (j + 1) = (x0 :: xs.take j) ++ [x] := by
    rw [List.take_succ, hxj]; rfl
  rw [et, List.map_append]
  exact this
def sp_sight_of : DSp := fun ws M R xr => ∃ (N : Net) (g : Sg) (at_ : Int), ws = [.d (.list ((sightS g).map .str)), .d N.d, .d (.int at_)] ∧ N.Ok ∧ SgW N g ∧ R (.d (sgD g)) M
theorem in_PW_p (b : Bool) : ([PyData.str "most", PyData.str "less"].any fun z => PyData.eqv z (.str (pWord b))) = true := by
  simp only [List.any_cons, List.any_nil, eqv_str]
  cases b <;> decide +kernel
theorem route_fit {N : Net} (hN : N.Ok) {ps : List Int} {l : List Nat} (h : Rt N ps l) : (routeS (ps.headD 0) l).length ≤ 16000000 ∧ (tl (routeS (ps.headD 0) l)).count 46 ≤ 2900 := by
  have a := routeS_len (rts_of hN h)
  have b := List.count_le_length (a := 46) (l := tl (routeS (ps.headD 0) l))
  rw [← len_tl] at b
  omega
theorem route_back {N : Net} (hN : N.Ok) {ps : List Int} {l : List Nat} (h : Rt N ps l) : ortD (some ((ps.headD 0).toNat, l)) = rD (ps.headD 0) l := by
  have a := (rts_of hN h).1
  show rD _ l = _
  rw [show (((ps.headD 0).toNat : Nat) : Int) = ps.headD 0 by omega]
theorem pure_sight_of (ws : List W) (M : MM) (R : KW) (xr : XR) (h : sp_sight_of ws M R xr) : w_sight_of sp_wanted sp_route_of sp_word_at sp_times_of (dEnds R xr) (startD ["words", "net", "line", "found", "times", "route", "more"] ws) M := by
  obtain ⟨N, g, at_, rfl, hN, hg, k⟩ := h
  unfold w_sight_of
  refine wSeq_i fun κ hκ => ?_
  cases g with
  | r b ps l =>
    show wIf _ _ _ _ [some (.d (.list [.str (rWord b), .str (routeS (ps.headD 0) l)])), _, _, _, _, _, _] _
    walk_at "dl2"
    refine ⟨rfl, rfl, ?_⟩
    rw [if_pos (in_RW_r b)]
    refine ⟨_, 1, _, _, rfl, rfl, ?_⟩
    refine ⟨_, N, rfl, oks_route, (route_fit hN hg).1, (route_fit hN hg).2, _, _, _, rfl, ?_⟩
    rw [rtP_routeS hN hg, route_back hN hg]
    refine ⟨rfl, ?_⟩
    subst hκ
    refine wSeq_i fun κ hκ => ?_
    walk_at "dl2"
    subst hκ
    walk_at "dl2"
    exact ⟨_, Sub.refl _, k⟩
  | p b t ps l m qs o =>
    obtain ⟨g1, g2, t0, t1, m0, m1⟩ := hg
    have b1 := numS_len' (k := 41) (by omega) (by decide) t1
    have b2 := numS_len' (k := 41) (by omega) (by decide) m1
    have et : ∀ t : Int, 1 ≤ t → onD (some t.toNat) = .int t := fun t h => by
      show PyData.int ((t.toNat : Nat) : Int) = _
      rw [show ((t.toNat : Nat) : Int) = t by omega]
    show wIf _ _ _ _ [some (.d (.list [.str (pWord b), .str (numS t), .str (routeS (ps.headD 0) l), .str (numS m), .str (routeS (qs.headD 0) o)])), _, _, _, _, _, _] _
    walk_at "dl2"
    refine ⟨rfl, rfl, ?_⟩
    rw [if_neg (fun z => by rw [show _ = false from in_RW_p b] at z; cases z)]
    refine ⟨rfl, rfl, ?_⟩
    rw [if_pos (in_PW_p b)]
    refine wSeq_i fun κ2 hκ2 => ?_
    walk_at "dl2"
    refine ⟨_, 1, _, _, rfl, rfl, _, rfl, oks_num, by omega, _, _, _, rfl, ?_⟩
    rw [tmP_num t0 t1, et t t0]
    refine ⟨rfl, ?_⟩
    subst hκ2
    refine wSeq_i fun κ2 hκ2 => ?_
    walk_at "dl2"
    refine ⟨_, 2, _, _, rfl, rfl, _, N, rfl, oks_route, (route_fit hN g1).1, (route_fit hN g1).2, _, _, _, rfl, ?_⟩
    rw [rtP_routeS hN g1, route_back hN g1]
    refine ⟨rfl, ?_⟩
    subst hκ2
    refine wSeq_i fun κ2 hκ2 => ?_
    walk_at "dl2"
    refine ⟨_, 3, _, _, rfl, rfl, _, rfl, oks_num, by omega, _, _, _, rfl, ?_⟩
    rw [tmP_num m0 m1, et m m0]
    refine ⟨rfl, ?_⟩
    subst hκ2
    walk_at "dl2"
    refine ⟨_, 4, _, _, rfl, rfl, _, N, rfl, oks_route, (route_fit hN g2).1, (route_fit hN g2).2, _, _, _, rfl, ?_⟩
    rw [rtP_routeS hN g2, route_back hN g2]
    refine ⟨rfl, ?_⟩
    dsimp only
    subst hκ
    refine wSeq_i fun κ hκ => ?_
    walk_at "dl2"
    subst hκ
    walk_at "dl2"
    exact ⟨_, Sub.refl _, k⟩
def sp_read_sights : DSp := fun ws M R xr => ∃ (N : Net) (gs : List Sg), ws = [.d (.str (textS (netS N :: gs.map sightS)))] ∧ N.Ok ∧ (∀ g ∈ gs, SgW N g) ∧ gs.length ≤ 1000 ∧ R (.d (.tuple [N.d, .tuple (gs.map sgD)])) M
theorem plain_rows {N : Net} (hN : N.Ok) {gs : List Sg} (hg : ∀ g ∈ gs, SgW N g) : ∀ r ∈ netS N :: gs.map sightS, ∀ y ∈ r, Plain y := fun r hr => by
  rcases List.mem_cons.mp hr with rfl | hr
  · exact (plain_net hN).2
  · obtain ⟨g, h, rfl⟩ := List.mem_map.mp hr
    exact (plain_sight hN (hg g h)).2
theorem cut_last {α : Type} (xs : List α) (x : α) : cut (xs ++ [x]) none (some (-1)) = xs := by
  have e : HT.sIx (xs ++ [x]).length (xs ++ [x]).length (some (-1)) = xs.length := by
    show (if (-1 : Int) < 0 then ((-1 : Int) + (((xs ++ [x]).length : Nat) : Int)).toNat else min (-1 : Int).toNat (xs ++ [x]).length) = _
    rw [if_pos (by decide), List.length_append, List.length_singleton]
    omega
  unfold cut
  rw [e, HT.sIx_none, List.drop_zero, Nat.sub_zero, List.take_left]
theorem read_loop {N : Net} (hN : N.Ok) {x0 x1 x2 x4 x5 x6 : Option W} {M : MM} {K : List W → MM → Prop} : ∀ (gs : List Sg) (n : Nat) (acc : List W), 0 < n → (∀ g ∈ gs, SgW N g) → acc.length + gs.length ≤ 16777216 → K (acc ++ gs.map fun g => W.d (sgD g)) M →
    wLcI (wgTup 2 (wgCons (wgN 5) (wgCons (wgN 6) wgNil))) (wTest (wOp oGt (wVar 5) (wC (.d (.int 0))))) (wCall sp_sight_of (wCons (wM1S mSplit (wVar 6) (wC (.d (.str " ")))) (wCons (wVar 3) (wCons (wVar 5) wNil)))) (fun _ => True)
      [x0, x1, x2, some (.d N.d), x4, x5, x6] (enW n (gs.map fun g => PyData.str (Txt.join " " (sightS g)))) acc M K
  | [], n, acc, _, _, _, k => ⟨trivial, by rw [List.map_nil, List.append_nil] at k; exact k⟩
  | g :: r, n, acc, hn, hg, hl, k => by
    rw [List.length_cons] at hl
    have hgg := hg g List.mem_cons_self
    obtain ⟨p1, p2⟩ := plain_sight hN hgg
    obtain ⟨w1, w2⟩ := sight_words hN hgg
    have es : Txt.split (Txt.join " " (sightS g)) (Str.ofString " ") = sightS g := split_row p1 p2
    have hr : RowOk (sightS g) := ⟨by omega, w2⟩
    refine ⟨trivial, ?_⟩
    show wgTup 2 _ xq0 (.d (.tuple [.int (n : Int), .str (Txt.join " " (sightS g))])) _ M _
    walk_at "dl2"
    rw [if_pos (by omega)]
    refine ⟨⟨sep_blank.len, Nat.le_trans (rowS_len hr).1 (by decide)⟩, ?_⟩
    rw [es]
    refine ⟨N, g, n, rfl, hN, hgg, by omega, ?_⟩
    refine read_loop hN r (n + 1) (acc ++ [.d (sgD g)]) (by omega) (fun o ho => hg o (List.mem_cons_of_mem _ ho)) (by rw [List.length_append, List.length_singleton]; omega) ?_
    rw [List.append_assoc]; exact k
theorem pure_read_sights (ws : List W) (M : MM) (R : KW) (xr : XR) (h : sp_read_sights ws M R xr) : w_read_sights sp_net_of sp_sight_of (dEnds R xr) (startD ["text", "rows", "is_ended", "net", "sights", "at", "row"] ws) M := by
  obtain ⟨N, gs, rfl, hN, hg, hl, k⟩ := h
  have hR := sights_rows hN hg
  have hn : (netS N :: gs.map sightS).length ≤ 2000 := by rw [List.length_cons, List.length_map]; omega
  have hlen : (textS (netS N :: gs.map sightS)).length ≤ 16777214 := by
    have a := join_len "" ((netS N :: gs.map sightS).map rowS)
    have b := join_le (a := (Str.ofString "")) (ys := (netS N :: gs.map sightS).map rowS) (n := 2000) (b := 421) (c := 0) (by rw [List.length_map]; exact hn) (fun y hy => by
      obtain ⟨r, h, rfl⟩ := List.mem_map.mp hy
      exact (rowS_len (hR r h)).2) (by decide)
    have c : (textS (netS N :: gs.map sightS)).length ≤ 2000 * 421 + 2000 * 0 := Nat.le_trans a b
    omega
  have es := split_text (rows := netS N :: gs.map sightS) (by simp) (plain_rows hN hg)
  unfold w_read_sights
  refine wSeq_i fun κ hκ => ?_
  walk_at "dl2"
  have es' : Txt.split (textS (netS N :: gs.map sightS)) (Str.ofString "\n") = (netS N :: gs.map sightS).map (Txt.join " ") ++ [("" : Str)] := es
  refine ⟨⟨sep_row.len, hlen⟩, ?_⟩
  rw [es', List.map_append]
  generalize textS (netS N :: gs.map sightS) = T
  obtain ⟨L, hL⟩ : ∃ L, L = ((netS N :: gs.map sightS).map (Txt.join " ")).map PyData.str := ⟨_, rfl⟩
  have hL' : L = .str (Txt.join " " (netS N)) :: gs.map fun g => PyData.str (Txt.join " " (sightS g)) := by rw [hL, List.map_cons, List.map_cons, List.map_map, List.map_map]; rfl
  rw [← hL]
  have hLl : L.length = gs.length + 1 := by rw [hL', List.length_cons, List.length_map]
  subst hκ
  refine wSeq_i fun κ hκ => ?_
  walk_at "dl2"
  simp only [List.map_append, List.map_cons, List.map_nil, atm1]
  refine ⟨sh_lit _, sh_lit _, ?_⟩
  rw [if_pos (by rw [eqv_str]; exact decide_eq_true rfl)]
  have e1 : decide (1 < (((L ++ [PyData.str (Str.ofString "")]).length : Nat) : Int)) = true := decide_eq_true (by rw [List.length_append, List.length_singleton]; omega)
  rw [e1]
  subst hκ
  refine wSeq_i fun κ hκ => ?_
  walk_at "dl2"
  rw [cut_last]
  subst hκ
  refine wSeq_i fun κ hκ => ?_
  walk_at "dl2"
  rw [hL']
  walk_at "dl2"
  have hpn := plain_net hN
  have hrn := net_words hN
  refine ⟨⟨sep_blank.len, Nat.le_trans (rowS_len hrn).1 (by decide)⟩, ?_⟩
  have esn : Txt.split (Txt.join " " (netS N)) (Str.ofString " ") = netS N := split_row hpn.1 hpn.2
  rw [esn]
  refine ⟨N, rfl, hN, ?_⟩
  subst hκ
  refine wSeq_i fun κ hκ => ?_
  walk_at "dl2"
  refine ⟨trivial, ?_⟩
  walk_at "dl2"
  rw [if_neg (by decide)]
  refine read_loop hN gs 1 [] (by decide) hg (by simp only [List.length_nil]; omega) ?_
  rw [List.nil_append, allD_f]
  dsimp only
  subst hκ
  refine wSeq_i fun κ hκ => ?_
  walk_at "dl2"
  subst hκ
  walk_at "dl2"
  exact ⟨_, Sub.refl _, k⟩
theorem sgw_of {N : Net} {g : Sg} (h : SgOk N g) : SgW N g := by
  cases g with
  | r b ps l => exact h
  | p b t ps l m qs o =>
    obtain ⟨h1, h2, t0, t1, m0, m1⟩ := h
    exact ⟨h1, h2, t0, by omega, m0, by omega⟩
theorem tl_rep (n : Nat) : tl (repS "0" n) = List.replicate n 48 := by
  have : ∀ (n : Nat) (acc : Array Nat), ((List.replicate n (#[48] : Array Nat)).foldl (· ++ ·) acc).toList = acc.toList ++ List.replicate n 48 := by
    intro n
    induction n with
    | zero => intro acc; simp
    | succ n ih =>
      intro acc
      rw [List.replicate_succ, List.foldl_cons, ih, Array.toList_append, List.append_assoc, List.replicate_succ]; rfl
  have e := this n #[]
  show ((List.replicate n (#[48] : Array Nat)).foldl (· ++ ·) #[]).toList = _
  rw [e]; rfl
theorem ten_val (n : Nat) : NumText.digitsVal (49 :: List.replicate n 48) = 10 ^ n := by
  have : ∀ (n a : Nat), (List.replicate n 48).foldl (fun acc c => acc * 10 + (c - 48)) a = a * 10 ^ n := by
    intro n
    induction n with
    | zero => intro a; simp
    | succ n ih =>
      intro a
      rw [List.replicate_succ, List.foldl_cons, ih, Nat.pow_succ, Nat.sub_self, Nat.add_zero, Nat.mul_assoc, Nat.mul_comm 10]
  show (List.replicate n 48).foldl (fun acc c => acc * 10 + (c - 48)) (0 * 10 + (49 - 48)) = _
  rw [this]; omega
theorem ten_text {n : Nat} (h : n ≤ 100) : ((("1" : Str) ++ repS "0" n).length ≤ 640) ∧ intText? (("1" : Str) ++ repS "0" n) = some ((10 ^ n : Nat) : Int) := by
  have e : tl (("1" : Str) ++ repS "0" n) = 49 :: List.replicate n 48 := by rw [tl_append, tl_rep]; rfl
  have hl : (("1" : Str) ++ repS "0" n).length = n + 1 := by rw [len_tl, e, List.length_cons, List.length_replicate]
  refine ⟨by omega, ?_⟩
  have e' : (("1" : Str) ++ repS "0" n).cps.toList = 49 :: List.replicate n 48 := e
  rw [intText_digits (by
      rw [e']
      intro c hc
      rcases List.mem_cons.mp hc with rfl | hc
      · decide
      · rw [(List.mem_replicate.mp hc).2]; decide) (by rw [e']; simp) (by omega), e', ten_val]
def sp__law_sights : DSp := fun ws M R xr => ∃ (a : Addr) (c : Int) (N : Net), ws = [.r (.ref a), .d N.d] ∧ N.Ok ∧ Dk M a c ∧ c < 800000000 ∧
  ∀ (gs : List Sg) M', (∀ g ∈ gs, SgW N g) → gs.length ≤ 12 → Dk M' a (c + 2000) → Kp a M M' → R (.d (.tuple (gs.map sgD))) M'
theorem pure__law_sights (ws : List W) (M : MM) (R : KW) (xr : XR) (h : sp__law_sights ws M R xr) : w__law_sights sp__law_draw sp__law_sight (dEnds R xr) (startD ["_law_deck_here", "_law_net_here", "_law_found", "_law_many", "_law_k", "_law_sight_here", "_law_great"] ws) M := by
  obtain ⟨a, c, N, rfl, hN, hD, hc, k⟩ := h
  unfold w__law_sights
  refine wSeq_i fun κ hκ => ?_
  walk_at "dl2"
  intro p hp
  generalize hM1 : mset M p _ = M1
  have hS := (St.deck hD).new' hp hM1
  clear hM1
  refine ⟨a, c, 6, rfl, hS.d, by omega, by decide, by decide, fun m M2 m0 m1 hD2 hF2 => ?_⟩
  replace hS := hS.off hD2 hF2
  subst hκ
  refine wSeq_i fun κ hκ => ?_
  have K : ∀ (m : Int) (M3 : MM), 0 ≤ m → m ≤ 12 → St M (some (a, c + 3)) [(p, .lst [])] M3 → κ [some (.r (.ref a)), some (.d N.d), some (.r (.ref p)), some (.d (.int m)), none, none, none] M3 := fun m M3 m0 m1 hS => by
    subst hκ
    refine wSeq_i fun κ hκ => ?_
    walk_at "dl2"
    refine ⟨⟨by omega, by omega⟩, ?_⟩
    refine iter_rg (fun i n ρ M' => ∃ (x4 x5 x6 : Option W) (gs : List Sg), ρ = [some (.r (.ref a)), some (.d N.d), some (.r (.ref p)), some (.d (.int m)), x4, x5, x6] ∧ 0 ≤ i ∧ i + n = m ∧ (∀ g ∈ gs, SgW N g) ∧ (gs.length : Int) = i ∧ St M (some (a, c + 3 + 110 * i)) [(p, .lst (gs.map fun g => W.d (sgD g)))] M') ?_ ?_ _ 0 _ _ ⟨_, _, _, [], rfl, by decide, by omega, fun _ h => (nomatch h), rfl, by simpa using hS⟩
    · rintro i _ M2 ⟨x4, x5, x6, gs, rfl, h1, h2, h3, h4, hS⟩
      refine ⟨trivial, ?_⟩
      dsimp only
      subst hκ
      walk_at "dl2"
      simp only [hS.at0]
      rw [allD_f]
      refine ⟨_, Sub.refl _, k gs _ h3 (by omega) (hS.d.le (by omega)) hS.k'⟩
    rintro i n _ M2 κ2 ⟨x4, x5, x6, gs, rfl, h1, h2, h3, h4, hS⟩ hκ2
    have hi : i < 12 := by omega
    refine ⟨trivial, ?_⟩
    refine wSeq_i fun κ3 hκ3 => ?_
    walk_at "dl2"
    refine ⟨a, _, N, rfl, hN, hS.d, by omega, fun g M4 hg hD4 hK4 => ?_⟩
    have hS4 := hS.offK hD4 hK4
    have G : ∀ (g : Sg) (x6 : Option W) (M5 : MM), SgW N g → St M (some (a, c + 3 + 110 * (i + 1))) [(p, .lst (gs.map fun g => W.d (sgD g)))] M5 → wDrop (wMethL mAppend (wVar 2) (wCons (wVar 5) wNil)) { dEnds R xr with nx := κ2, ct := κ2, bk := κ } [some (.r (.ref a)), some (.d N.d), some (.r (.ref p)), some (.d (.int m)), some (.d (.int i)), some (.d (sgD g)), x6] M5 := fun g x6 M5 hg hS => by
      walk_at "dl2"
      simp only [hS.at0]
      refine ⟨rfl, by rw [List.length_map]; omega, ?_⟩
      refine hκ2 _ _ ⟨_, _, _, gs ++ [g], rfl, by omega, by omega, fun o ho => ?_, by rw [List.length_append, List.length_singleton]; omega, ?_⟩
      · rcases List.mem_append.mp ho with h | h
        · exact h3 o h
        · cases List.mem_singleton.mp h; exact hg
      · have := hS.set0 (.lst (gs.map (fun g => W.d (sgD g)) ++ [W.d (sgD g)]))
        rw [List.map_append]
        exact this
    dsimp only
    subst hκ3
    refine wSeq_i fun κ3 hκ3 => ?_
    cases g with
    | r b ps l =>
      show wIf _ _ _ _ [_, _, _, _, _, some (.d (.tuple [.str (rWord b), rD (ps.headD 0) l])), _] _
      walk_at "dl2"
      rw [if_neg (by decide)]
      subst hκ3
      exact G (.r b ps l) _ _ (sgw_of hg) (hS4.le (by omega))
    | p b t ps l m' qs o =>
      have hw := sgw_of hg
      obtain ⟨g1, g2, t0, t1, m0', m1'⟩ := hw
      show wIf _ _ _ _ [_, _, _, _, _, some (.d (.tuple [.str (pWord b), .int t, rD (ps.headD 0) l, .int m', rD (qs.headD 0) o])), _] _
      walk_at "dl2"
      rw [if_pos (by decide)]
      refine ⟨a, _, 3, rfl, hS4.d, by omega, by decide, by decide, fun d M5 d0 d1 hD5 hF5 => ?_⟩
      have hS5 := hS4.off hD5 hF5
      dsimp only
      simp only [sh_int, eqv_int, true_and, decide_eq_true_eq]
      by_cases hd : d = 0
      rotate_left
      · rw [if_neg hd]
        subst hκ3
        exact G (.p b t ps l m' qs o) _ _ ⟨g1, g2, t0, t1, m0', m1'⟩ (hS5.le (by omega))
      rw [if_pos hd]
      refine wSeq_i fun κ4 hκ4 => ?_
      walk_at "dl2"
      refine ⟨a, _, 9, rfl, hS5.d, by omega, by decide, by decide, fun u M6 u0 u1 hD6 hF6 => ?_⟩
      have hS6 := hS5.off hD6 hF6
      refine ⟨a, _, 40, rfl, hS6.d, by omega, by decide, by decide, fun z M7 z0 z1 hD7 hF7 => ?_⟩
      have hS7 := hS6.off hD7 hF7
      dsimp only
      obtain ⟨n, rfl⟩ := Int.eq_ofNat_of_zero_le z0
      have hn : n < 40 := by exact_mod_cast z1
      rw [Int.toNat_natCast]
      have hrl : (repS (Str.ofString "0") n).length = n := by
        rw [repS_len]; show n * 1 = n; omega
      obtain ⟨q1, q2⟩ := ten_text (n := n) (by omega)
      have hp : (10 ^ n : Nat) ≤ 10 ^ 39 := Nat.pow_le_pow_right (by decide) (by omega)
      have hp' : ((10 ^ n : Nat) : Int) ≤ 10 ^ 39 := by exact_mod_cast hp
      have hp0 : 1 ≤ ((10 ^ n : Nat) : Int) := by exact_mod_cast Nat.pow_pos (n := n) (show 0 < 10 by decide)
      have q3 : intText? (Str.ofString "1" ++ repS (Str.ofString "0") n) = some ((10 ^ n : Nat) : Int) := q2
      rw [q3]
      generalize ((10 ^ n : Nat) : Int) = T at hp' hp0
      have hT : u * T ≤ 8 * 10 ^ 39 := by
        have h1 : u * T ≤ 8 * T := Int.mul_le_mul_of_nonneg_right (by omega) (by omega)
        omega
      have hT0 : 0 ≤ u * T := Int.mul_nonneg u0 (by omega)
      refine ⟨⟨by omega, by omega, by decide⟩, ?_, q1, .inl ⟨by omega, by omega⟩, ?_⟩
      · rw [hrl]; show 1 + n ≤ _; omega
      generalize u * T = v at hT hT0
      subst hκ4
      walk_at "dl2"
      subst hκ3
      exact G (.p b (1 + v) ps l m' qs o) _ _ ⟨g1, g2, by omega, by omega, m0', m1'⟩ (hS7.le (by omega))
  walk_at "dl2"
  refine ⟨a, _, 4, rfl, hS.d, by omega, by decide, by decide, fun d M3 d0 d1 hD3 hF3 => ?_⟩
  replace hS := hS.off hD3 hF3
  dsimp only
  simp only [sh_int, eqv_int, true_and, decide_eq_true_eq]
  by_cases hd : d = 0
  · rw [if_pos hd]
    refine ⟨a, _, 7, rfl, hS.d, by omega, by decide, by decide, fun e M4 e0 e1 hD4 hF4 => ?_⟩
    replace hS := hS.off hD4 hF4
    dsimp only
    exact K _ _ (by omega) (by omega) (hS.le (by omega))
  · rw [if_neg hd]
    exact K _ _ (by omega) (by omega) (hS.le (by omega))
theorem rp_long {x : Str} {n : Nat} (h : OkS x) (hl : x.length ≤ n) : Rp 0 (10 * n + 2) (.str x) := by
  have h0 := h.ok
  refine ⟨by simp only [PyData.showable], by simp only [PyData.depth]; exact Nat.le_refl _, ?_, by simp [PyData.canLay0, h0]⟩
  simp only [PyData.shown]
  have h1 : ∀ c ∈ x.cps.toList, c < 16 ^ 8 := fun c hc => by
    have := h c hc
    omega
  have := StrLaws.reprText_len x h1
  omega
theorem rp_sgw {N : Net} (hN : N.Ok) {g : Sg} (hg : SgW N g) : Rp 3 10000 (sgD g) := by
  have big : ∀ t : Int, 1 ≤ t → t < 10 ^ 41 → Rp 0 1921 (.int t) := fun t h0 h1 => Rp.int (Nat.lt_of_lt_of_le (show t.natAbs < 10 ^ 41 by omega) (by decide +kernel))
  cases g with
  | r only ps l => exact rp_sg hN (g := .r only ps l) hg
  | p less t ps l m qs k =>
    obtain ⟨a, b, c, d, e, f⟩ := hg
    refine (Rp.tuple' (k := 2) (n := 1921) (m := 5) (ds := [.str (pWord less), .int t, rD (ps.headD 0) l, .int m, rD (qs.headD 0) k]) (fun x hx => ?_) (Nat.le_refl 5)).mono (by decide) (by decide)
    simp only [List.mem_cons, List.not_mem_nil, or_false] at hx
    rcases hx with rfl | rfl | rfl | rfl | rfl
    · exact (rp_pWord less).mono (by decide) (by decide)
    · exact (big _ c d).mono (by decide) (by decide)
    · exact (rp_rt hN a).mono (by decide) (by decide)
    · exact (big _ e f).mono (by decide) (by decide)
    · exact (rp_rt hN b).mono (by decide) (by decide)
theorem oks_row {r : List Str} (h : ∀ y ∈ r, OkS y) : OkS (rowS r) := (oks_join (OkS.lit " ") h).app (OkS.lit "\n")
theorem oks_text {rows : List (List Str)} (h : ∀ r ∈ rows, ∀ y ∈ r, OkS y) : OkS (textS rows) := oks_join (OkS.lit "") fun y hy => by
  obtain ⟨r, hr, rfl⟩ := List.mem_map.mp hy
  exact oks_row (h r hr)
theorem oks_p (b : Bool) : OkS (pWord b) := by cases b <;> exact OkS.lit _
theorem oks_r (b : Bool) : OkS (rWord b) := by cases b <;> exact OkS.lit _
theorem oks_sight (g : Sg) : ∀ y ∈ sightS g, OkS y := fun y hy => by
  cases g with
  | r b ps l =>
    simp only [sightS, List.mem_cons, List.not_mem_nil, or_false] at hy
    rcases hy with rfl | rfl
    · exact oks_r b
    · exact oks_route
  | p b t ps l m qs o =>
    simp only [sightS, List.mem_cons, List.not_mem_nil, or_false] at hy
    rcases hy with rfl | rfl | rfl | rfl | rfl
    · exact oks_p b
    · exact oks_num
    · exact oks_route
    · exact oks_num
    · exact oks_route
theorem oks_net (N : Net) : ∀ y ∈ netS N, OkS y := fun y hy => by
  rcases List.mem_cons.mp hy with rfl | hy
  · exact OkS.lit _
  rcases List.mem_cons.mp hy with rfl | hy
  · exact oks_num
  · obtain ⟨x, hx, rfl⟩ := List.mem_map.mp hy
    exact oks_pair
theorem oks_rows (N : Net) (gs : List Sg) : ∀ r ∈ netS N :: gs.map sightS, ∀ y ∈ r, OkS y := fun r hr => by
  rcases List.mem_cons.mp hr with rfl | hr
  · exact oks_net N
  · obtain ⟨g, _, rfl⟩ := List.mem_map.mp hr
    exact oks_sight g
theorem textS_len {rows : List (List Str)} (hr : ∀ r ∈ rows, RowOk r) {n : Nat} (hl : rows.length ≤ n) : (textS rows).length ≤ n * 421 := by
  have a := join_len "" (rows.map rowS)
  have b := join_le (a := (Str.ofString "")) (ys := rows.map rowS) (n := n) (b := 421) (c := 0) (by rw [List.length_map]; exact hl) (fun y hy => by
    obtain ⟨r, h, rfl⟩ := List.mem_map.mp hy
    exact (rowS_len (hr r h)).2) (by decide)
  have c : (textS rows).length ≤ n * 421 + n * 0 := Nat.le_trans a b
  omega
theorem rp_two {k n : Nat} {d : PyData} (h : Rp k n d) : Rp (k + 1) (4 + 2 * (n + 2)) (.list [d, d]) := Rp.list' (m := 2) (ds := [d, d]) (fun x hx => by
  simp only [List.mem_cons, List.not_mem_nil, or_false, or_self] at hx
  subst hx; exact h) (Nat.le_refl 2)
theorem pure_law (ws : List W) (M : MM) (R : KW) (xr : XR) (h : spLawD 63 ws M R xr) : w_law sp__law_deck sp__law_net sp__law_sights sp__law_text sp__law_words sp_sights_text sp_read_sights (dEnds R xr) (startD ["_law_script", "_law_deck_here", "_law_turn", "_law_net_here", "_law_sights_here", "_law_held", "_law_due"] ws) M := by
  obtain ⟨ns, rfl, hns, k⟩ := h
  unfold w_law
  refine wSeq_i fun κ hκ => ?_
  walk_at "dl2"
  refine ⟨ns, rfl, hns, fun a M1 ha hD => ?_⟩
  subst hκ
  refine wSeq_i fun κ hκ => ?_
  walk_at "dl2"
  refine ⟨⟨by decide, by decide⟩, ?_⟩
  refine iter_rg (fun i n ρ M' => ∃ (x2 x3 x4 x5 x6 : Option W) (c' : Int), ρ = [some (.d (.list (ns.map .int))), some (.r (.ref a)), x2, x3, x4, x5, x6] ∧ Dk M' a c' ∧ 0 ≤ i ∧ i + n = 10 ∧ c' ≤ 10000 * i) ?_ ?_ _ 0 _ _
    ⟨_, _, _, _, _, _, rfl, hD, by decide, by decide, by decide⟩
  · rintro i _ M4 ⟨x2, x3, x4, x5, x6, c', rfl, h1, h2, h3, h4⟩
    refine ⟨trivial, ?_⟩
    dsimp only
    subst hκ
    walk_at "dl2"
    exact ⟨_, Sub.refl _, k _⟩
  rintro i n _ M4 κ2 ⟨x2, x3, x4, x5, x6, c0, rfl, h1, h2, h3, h4⟩ hκ2
  refine ⟨trivial, ?_⟩
  refine wSeq_i fun κ3 hκ3 => ?_
  walk_at "dl2"
  refine ⟨a, c0, rfl, h1, by omega, fun N M hN hD5 _ => ?_⟩
  subst hκ3
  refine wSeq_i fun κ3 hκ3 => ?_
  walk_at "dl2"
  refine ⟨a, _, N, rfl, hN, hD5, by omega, fun gs M hg hgl hD6 _ => ?_⟩
  have hR := sights_rows hN hg
  have hn13 : (netS N :: gs.map sightS).length ≤ 13 := by rw [List.length_cons, List.length_map]; omega
  have hT : Rp 0 60000 (.str (textS (netS N :: gs.map sightS))) := (rp_long (oks_text (oks_rows N gs)) (textS_len hR hn13)).mono (Nat.le_refl 0) (by decide)
  have hgD : Rp 4 130000 (.tuple (gs.map sgD)) := (Rp.tuple' (k := 3) (n := 10000) (m := 12) (fun d hd => by
    obtain ⟨g, hgm, rfl⟩ := List.mem_map.mp hd
    exact rp_sgw hN (hg g hgm)) (by rw [List.length_map]; exact hgl)).mono (Nat.le_refl 4) (by decide)
  have hND := rp_net hN
  have hE : ∀ (x3 x4 x5 x6 : Option W) M', Dk M' a (c0 + 5000) → κ2 [some (.d (.list (ns.map .int))), some (.r (.ref a)), some (.d (.int i)), x3, x4, x5, x6] M' := fun x3 x4 x5 x6 M' hD => hκ2 _ _ ⟨_, _, _, _, _, _, rfl, hD, by omega, by omega, by omega⟩
  clear hκ2
  subst hκ3
  refine wSeq_i fun κ3 hκ3 => ?_
  walk_at "dl2"
  have rL : Rp 1 200000 (.list [.str (textS (netS N :: gs.map sightS)), .str (textS (netS N :: gs.map sightS))]) := (rp_two hT).mono (Nat.le_refl 1) (by decide)
  have rP : ∀ z : List PyData, z = [N.d, .tuple (gs.map sgD)] → ∀ x ∈ z, Rp 4 130000 x := fun z hz x hx => by
    subst hz
    simp only [List.mem_cons, List.not_mem_nil, or_false] at hx
    rcases hx with rfl | rfl
    · exact hND.mono (by decide) (by decide)
    · exact hgD
  have r1 : Rp 5 300000 (.list [N.d, .tuple (gs.map sgD)]) := (Rp.list' (m := 2) (rP _ rfl) (Nat.le_refl 2)).mono (Nat.le_refl 5) (by decide)
  have r2 : Rp 5 300000 (.tuple [N.d, .tuple (gs.map sgD)]) := (Rp.tuple' (m := 2) (rP _ rfl) (Nat.le_refl 2)).mono (Nat.le_refl 5) (by decide)
  have r3 : Rp 6 700000 (.list [.tuple [N.d, .tuple (gs.map sgD)], .tuple [N.d, .tuple (gs.map sgD)]]) := (rp_two r2).mono (Nat.le_refl 6) (by decide)
  refine ⟨r1.ok (by decide) (by decide), ?_⟩
  refine ⟨N, gs, rfl, hN, hg, by omega, netS N :: gs.map sightS, rfl, hR, by omega, ?_⟩
  generalize hq : textS (netS N :: gs.map sightS) = T at hT rL
  subst hκ3
  refine wSeq_i fun κ3 hκ3 => ?_
  walk_at "dl2"
  refine ⟨N, gs, rfl, hN, hg, by omega, N, gs, rfl, hN, hg, by omega, ?_⟩
  rw [hq]
  dsimp only
  rw [show allD [W.d (.str T), W.d (.str T)] = some [.str T, .str T] from rfl]
  dsimp only
  refine ⟨rL.ok (by decide) (by decide), rL.ok (by decide) (by decide), sh_shown rL.cl, sh_shown rL.cl, ?_⟩
  rw [if_neg (fun z => z rfl)]
  subst hκ3
  walk_at "dl2"
  refine ⟨N, gs, by rw [hq], hN, hg, by omega, N, gs, by rw [hq], hN, hg, by omega, ?_⟩
  dsimp only
  rw [show ∀ x : PyData, allD [W.d x, W.d x] = some [x, x] from fun _ => rfl]
  dsimp only
  refine ⟨r3.ok (by decide) (by decide), ⟨by decide, by decide, by decide⟩, ?_⟩
  rw [show ∀ x : PyData, allD (List.replicate (Int.toNat 2) [W.d x]).flatten = some [x, x] from fun _ => rfl]
  dsimp only
  refine ⟨r3.ok (by decide) (by decide), sh_shown r3.cl, sh_shown r3.cl, ?_⟩
  rw [if_neg (fun z => z rfl)]
  refine ⟨r1.ok (by decide) (by decide), sh_shown r1.cl, sh_shown r1.cl, ?_⟩
  rw [if_neg (fun z => z trivial)]
  exact hE _ _ _ _ _ (hD6.le (by omega))
end DL
namespace DL
open PySem PySem.Spec PyProof.Rows L2

def topS (i : Nat) : Stmt := PySem.Challenge.pw_seenroutes_k65_texts_of_sights.main.body.getD i (.Pass ⟨0, 0, 0, 0⟩)
structure NB (mg : Str → Option Value) : Prop where
  int : mg "int" = none
  isinstance : mg "isinstance" = none
  bool : mg "bool" = none
  tuple : mg "tuple" = none
  len : mg "len" = none
  all : mg "all" = none
  set : mg "set" = none
  str : mg "str" = none
  range : mg "range" = none
  enumerate : mg "enumerate" = none
  list : mg "list" = none
  abs : mg "abs" = none
  repr : mg "repr" = none

theorem len_law : ∀ (ws : List W) (M : MM) (R : KW) (xr : XR), (spLawD 63) ws M R xr → ws.length = 1 := by
  intro ws M R xr h
  unfold spLawD at h
  repeat' first | (obtain ⟨rfl, _⟩ := h; rfl) | obtain ⟨_, h⟩ := h

theorem len__law_sights : ∀ (ws : List W) (M : MM) (R : KW) (xr : XR), sp__law_sights ws M R xr → ws.length = 2 := by
  intro ws M R xr h
  unfold sp__law_sights at h
  repeat' first | (obtain ⟨rfl, _⟩ := h; rfl) | obtain ⟨_, h⟩ := h

theorem len__law_text : ∀ (ws : List W) (M : MM) (R : KW) (xr : XR), sp__law_text ws M R xr → ws.length = 1 := by
  intro ws M R xr h
  unfold sp__law_text at h
  repeat' first | (obtain ⟨rfl, _⟩ := h; rfl) | obtain ⟨_, h⟩ := h

theorem len__law_words : ∀ (ws : List W) (M : MM) (R : KW) (xr : XR), sp__law_words ws M R xr → ws.length = 2 := by
  intro ws M R xr h
  unfold sp__law_words at h
  repeat' first | (obtain ⟨rfl, _⟩ := h; rfl) | obtain ⟨_, h⟩ := h

theorem len__law_route_text : ∀ (ws : List W) (M : MM) (R : KW) (xr : XR), sp__law_route_text ws M R xr → ws.length = 1 := by
  intro ws M R xr h
  unfold sp__law_route_text at h
  repeat' first | (obtain ⟨rfl, _⟩ := h; rfl) | obtain ⟨_, h⟩ := h

theorem len__law_sight : ∀ (ws : List W) (M : MM) (R : KW) (xr : XR), sp__law_sight ws M R xr → ws.length = 2 := by
  intro ws M R xr h
  unfold sp__law_sight at h
  repeat' first | (obtain ⟨rfl, _⟩ := h; rfl) | obtain ⟨_, h⟩ := h

theorem len__law_route : ∀ (ws : List W) (M : MM) (R : KW) (xr : XR), sp__law_route ws M R xr → ws.length = 2 := by
  intro ws M R xr h
  unfold sp__law_route at h
  repeat' first | (obtain ⟨rfl, _⟩ := h; rfl) | obtain ⟨_, h⟩ := h

theorem len__law_next : ∀ (ws : List W) (M : MM) (R : KW) (xr : XR), sp__law_next ws M R xr → ws.length = 3 := by
  intro ws M R xr h
  unfold sp__law_next at h
  repeat' first | (obtain ⟨rfl, _⟩ := h; rfl) | obtain ⟨_, h⟩ := h

theorem len__law_net : ∀ (ws : List W) (M : MM) (R : KW) (xr : XR), sp__law_net ws M R xr → ws.length = 1 := by
  intro ws M R xr h
  unfold sp__law_net at h
  repeat' first | (obtain ⟨rfl, _⟩ := h; rfl) | obtain ⟨_, h⟩ := h

theorem len__law_one : ∀ (ws : List W) (M : MM) (R : KW) (xr : XR), sp__law_one ws M R xr → ws.length = 2 := by
  intro ws M R xr h
  unfold sp__law_one at h
  repeat' first | (obtain ⟨rfl, _⟩ := h; rfl) | obtain ⟨_, h⟩ := h

theorem len__law_draw : ∀ (ws : List W) (M : MM) (R : KW) (xr : XR), sp__law_draw ws M R xr → ws.length = 2 := by
  intro ws M R xr h
  unfold sp__law_draw at h
  repeat' first | (obtain ⟨rfl, _⟩ := h; rfl) | obtain ⟨_, h⟩ := h

theorem len__law_deck : ∀ (ws : List W) (M : MM) (R : KW) (xr : XR), sp__law_deck ws M R xr → ws.length = 1 := by
  intro ws M R xr h
  unfold sp__law_deck at h
  repeat' first | (obtain ⟨rfl, _⟩ := h; rfl) | obtain ⟨_, h⟩ := h

theorem len_read_sights : ∀ (ws : List W) (M : MM) (R : KW) (xr : XR), sp_read_sights ws M R xr → ws.length = 1 := by
  intro ws M R xr h
  unfold sp_read_sights at h
  repeat' first | (obtain ⟨rfl, _⟩ := h; rfl) | obtain ⟨_, h⟩ := h

theorem len_sight_of : ∀ (ws : List W) (M : MM) (R : KW) (xr : XR), sp_sight_of ws M R xr → ws.length = 3 := by
  intro ws M R xr h
  unfold sp_sight_of at h
  repeat' first | (obtain ⟨rfl, _⟩ := h; rfl) | obtain ⟨_, h⟩ := h

theorem len_net_of : ∀ (ws : List W) (M : MM) (R : KW) (xr : XR), sp_net_of ws M R xr → ws.length = 1 := by
  intro ws M R xr h
  unfold sp_net_of at h
  repeat' first | (obtain ⟨rfl, _⟩ := h; rfl) | obtain ⟨_, h⟩ := h

theorem len_word_at : ∀ (ws : List W) (M : MM) (R : KW) (xr : XR), sp_word_at ws M R xr → ws.length = 3 := by
  intro ws M R xr h
  unfold sp_word_at at h
  repeat' first | (obtain ⟨rfl, _⟩ := h; rfl) | obtain ⟨_, h⟩ := h

theorem len_wanted : ∀ (ws : List W) (M : MM) (R : KW) (xr : XR), sp_wanted ws M R xr → ws.length = 3 := by
  intro ws M R xr h
  unfold sp_wanted at h
  repeat' first | (obtain ⟨rfl, _⟩ := h; rfl) | obtain ⟨_, h⟩ := h

theorem len_times_of : ∀ (ws : List W) (M : MM) (R : KW) (xr : XR), sp_times_of ws M R xr → ws.length = 1 := by
  intro ws M R xr h
  unfold sp_times_of at h
  repeat' first | (obtain ⟨rfl, _⟩ := h; rfl) | obtain ⟨_, h⟩ := h

theorem len_route_of : ∀ (ws : List W) (M : MM) (R : KW) (xr : XR), sp_route_of ws M R xr → ws.length = 2 := by
  intro ws M R xr h
  unfold sp_route_of at h
  repeat' first | (obtain ⟨rfl, _⟩ := h; rfl) | obtain ⟨_, h⟩ := h

theorem len_pair_of : ∀ (ws : List W) (M : MM) (R : KW) (xr : XR), sp_pair_of ws M R xr → ws.length = 2 := by
  intro ws M R xr h
  unfold sp_pair_of at h
  repeat' first | (obtain ⟨rfl, _⟩ := h; rfl) | obtain ⟨_, h⟩ := h

theorem len_places_of_texts : ∀ (ws : List W) (M : MM) (R : KW) (xr : XR), sp_places_of_texts ws M R xr → ws.length = 1 := by
  intro ws M R xr h
  unfold sp_places_of_texts at h
  repeat' first | (obtain ⟨rfl, _⟩ := h; rfl) | obtain ⟨_, h⟩ := h

theorem len_numbers_of : ∀ (ws : List W) (M : MM) (R : KW) (xr : XR), sp_numbers_of ws M R xr → ws.length = 2 := by
  intro ws M R xr h
  unfold sp_numbers_of at h
  repeat' first | (obtain ⟨rfl, _⟩ := h; rfl) | obtain ⟨_, h⟩ := h

theorem len_number_of : ∀ (ws : List W) (M : MM) (R : KW) (xr : XR), sp_number_of ws M R xr → ws.length = 1 := by
  intro ws M R xr h
  unfold sp_number_of at h
  repeat' first | (obtain ⟨rfl, _⟩ := h; rfl) | obtain ⟨_, h⟩ := h

theorem len_sights_text : ∀ (ws : List W) (M : MM) (R : KW) (xr : XR), sp_sights_text ws M R xr → ws.length = 2 := by
  intro ws M R xr h
  unfold sp_sights_text at h
  repeat' first | (obtain ⟨rfl, _⟩ := h; rfl) | obtain ⟨_, h⟩ := h

theorem len_sight_text : ∀ (ws : List W) (M : MM) (R : KW) (xr : XR), sp_sight_text ws M R xr → ws.length = 1 := by
  intro ws M R xr h
  unfold sp_sight_text at h
  repeat' first | (obtain ⟨rfl, _⟩ := h; rfl) | obtain ⟨_, h⟩ := h

theorem len_route_text : ∀ (ws : List W) (M : MM) (R : KW) (xr : XR), sp_route_text ws M R xr → ws.length = 1 := by
  intro ws M R xr h
  unfold sp_route_text at h
  repeat' first | (obtain ⟨rfl, _⟩ := h; rfl) | obtain ⟨_, h⟩ := h

theorem len_is_route : ∀ (ws : List W) (M : MM) (R : KW) (xr : XR), sp_is_route ws M R xr → ws.length = 2 := by
  intro ws M R xr h
  unfold sp_is_route at h
  repeat' first | (obtain ⟨rfl, _⟩ := h; rfl) | obtain ⟨_, h⟩ := h

theorem len_places_of_nets : ∀ (ws : List W) (M : MM) (R : KW) (xr : XR), sp_places_of_nets ws M R xr → ws.length = 2 := by
  intro ws M R xr h
  unfold sp_places_of_nets at h
  repeat' first | (obtain ⟨rfl, _⟩ := h; rfl) | obtain ⟨_, h⟩ := h

theorem len_next_place : ∀ (ws : List W) (M : MM) (R : KW) (xr : XR), sp_next_place ws M R xr → ws.length = 3 := by
  intro ws M R xr h
  unfold sp_next_place at h
  repeat' first | (obtain ⟨rfl, _⟩ := h; rfl) | obtain ⟨_, h⟩ := h

theorem len_is_integer : ∀ (ws : List W) (M : MM) (R : KW) (xr : XR), sp_is_integer ws M R xr → ws.length = 2 := by
  intro ws M R xr h
  unfold sp_is_integer at h
  repeat' first | (obtain ⟨rfl, _⟩ := h; rfl) | obtain ⟨_, h⟩ := h

section
variable {P : Program} {w : World} {K : PySem.W.Frag} {mg : Str → Option Value} {base : Heap} {k : Nat}

abbrev s_is_integer : Stmt := topS 6
abbrev N_is_integer : List Str := ["value", "least"]
theorem sc_is_integer : FnScope N_is_integer ["value", "least"] (defScope s_is_integer) := ⟨rfl, rfl, rfl, by decide +kernel, rfl, by decide +kernel, by decide +kernel⟩
theorem walk_is_integer { sp_is_integer : DSp} (nb : NB mg) (D : Def K mg "is_integer" s_is_integer ["value", "least"]) (len : ∀ ws M R xr, sp_is_integer ws M R xr → ws.length = 2)
    (pure : ∀ ws M R xr, sp_is_integer ws M R xr → w_is_integer (dEnds R xr) (startD N_is_integer ws) M) : HasF P w K mg base (k + 1) "is_integer" ["value", "least"] sp_is_integer :=
  hasF_ok D sc_is_integer len w_is_integer (fun f cdv A outer s H E c hp => (dss_one (ds_ret (de_and (de_blt call_isi sc_isi nb.isinstance (da_cons (de_var 0) (da_cons (de_ty nb.int) da_nil))) (de_and (de_not (de_blt call_isi sc_isi nb.isinstance (da_cons (de_var 0) (da_cons (de_ty nb.bool) da_nil)))) (de_one (de_cmp op_ge so_ge (de_var 0) (de_var 1)))))))) pure

abbrev s_next_place : Stmt := topS 7
abbrev N_next_place : List Str := ["net", "place", "line", "first", "second"]
theorem sc_next_place : FnScope N_next_place ["net", "place", "line"] (defScope s_next_place) := ⟨rfl, rfl, rfl, by decide +kernel, rfl, by decide +kernel, by decide +kernel⟩
theorem walk_next_place { sp_next_place : DSp} (nb : NB mg) (D : Def K mg "next_place" s_next_place ["net", "place", "line"]) (len : ∀ ws M R xr, sp_next_place ws M R xr → ws.length = 3)
    (pure : ∀ ws M R xr, sp_next_place ws M R xr → w_next_place (dEnds R xr) (startD N_next_place ws) M) : HasF P w K mg base (k + 1) "next_place" ["net", "place", "line"] sp_next_place :=
  hasF_ok D sc_next_place len w_next_place (fun f cdv A outer s H E c hp => (dss_cons (ds_asg (de_ix (de_ix (de_var 0) de_int) (de_var 2)) (dg_tup c (dgs_cons (dg_name 3 c) (dgs_cons (dg_name 4 c) dgs_nil))))
    (dss_cons (ds_if (dt_cmp op_notIn_seq (so_in (neg := true)) (de_var 1) (de_tup (da_cons (de_var 3) (da_cons (de_var 4) da_nil)))) (dss_one (ds_ret de_non)) dss_nil)
    (dss_one (ds_ret (de_if (dt_cmp (op_eqD c.rm.room.units) so_eq (de_var 1) (de_var 3)) (de_var 4) (de_var 3))))))) pure

abbrev s_places_of_nets : Stmt := topS 8
abbrev N_places_of_nets : List Str := ["net", "route", "found", "line"]
theorem sc_places_of_nets : FnScope N_places_of_nets ["net", "route"] (defScope s_places_of_nets) := ⟨rfl, rfl, rfl, by decide +kernel, rfl, by decide +kernel, by decide +kernel⟩
theorem walk_places_of_nets {sp_next_place sp_places_of_nets : DSp} (nb : NB mg) (D : DefA K mg "places_of_nets" "places_of" s_places_of_nets ["net", "route"]) (h_next_place : HasF P w K mg base k "next_place" ["net", "place", "line"] sp_next_place) (len : ∀ ws M R xr, sp_places_of_nets ws M R xr → ws.length = 2)
    (pure : ∀ ws M R xr, sp_places_of_nets ws M R xr → (w_places_of_nets sp_next_place) (dEnds R xr) (startD N_places_of_nets ws) M) : HasF P w K mg base (k + 1) "places_of_nets" ["net", "route"] sp_places_of_nets :=
  hasF_okA D sc_places_of_nets len (w_places_of_nets sp_next_place) (fun f cdv A outer s H E c hp => (dss_cons (ds_set 2 c (de_lst true (da_cons (de_ix (de_var 1) de_int) da_nil)))
    (dss_cons (ds_for c hp (di_seq (de_ix (de_var 1) de_int)) (dg_name 3 c) (dss_one (ds_if (dt_cmp op_notN so_notN (de_ix (de_var 2) (de_neg de_int)) de_non) (dss_one (ds_expr (de_append (de_var 2) (da_cons (de_callH h_next_place c (da_cons (de_var 0) (da_cons (de_ix (de_var 2) (de_neg de_int)) (da_cons (de_var 3) da_nil)))) da_nil)))) dss_nil)))
    (dss_one (ds_ret (de_frz (de_var 2))))))) pure

abbrev s_is_route : Stmt := topS 10
abbrev N_is_route : List Str := ["net", "value", "found", "line"]
theorem sc_is_route : FnScope N_is_route ["net", "value"] (defScope s_is_route) := ⟨rfl, rfl, rfl, by decide +kernel, rfl, by decide +kernel, by decide +kernel⟩
theorem walk_is_route {sp_is_integer sp_places_of_nets sp_is_route : DSp} (nb : NB mg) (D : Def K mg "is_route" s_is_route ["net", "value"]) (h_is_integer : HasF P w K mg base k "is_integer" ["value", "least"] sp_is_integer) (h_places_of_nets : HasF P w K mg base k "places_of_nets" ["net", "route"] sp_places_of_nets) (len : ∀ ws M R xr, sp_is_route ws M R xr → ws.length = 2)
    (pure : ∀ ws M R xr, sp_is_route ws M R xr → (w_is_route sp_is_integer sp_places_of_nets) (dEnds R xr) (startD N_is_route ws) M) : HasF P w K mg base (k + 1) "is_route" ["net", "value"] sp_is_route :=
  hasF_ok D sc_is_route len (w_is_route sp_is_integer sp_places_of_nets) (fun f cdv A outer s H E c hp => (dss_cons (ds_if (DTW.dt (dtw_or (dt_not (dt_val (de_blt call_isi sc_isi nb.isinstance (da_cons (de_var 1) (da_cons (de_ty nb.tuple) da_nil))))) (dtw_or (dt_cmp (op_neD c.rm.room.units) so_ne (de_blt call_len sc_len nb.len (da_cons (de_var 1) da_nil)) de_int) (dtw_or (dt_not (dt_val (de_callH h_is_integer c (da_cons (de_ix (de_var 1) de_int) (da_cons de_int da_nil))))) (dtw_or1 (dt_cmp op_ge so_ge (de_ix (de_var 1) de_int) (de_ix (de_var 0) de_int))))))) (dss_one (ds_ret de_bl)) dss_nil)
    (dss_cons (ds_if (DTW.dt (dtw_or (dt_not (dt_val (de_blt call_isi sc_isi nb.isinstance (da_cons (de_ix (de_var 1) de_int) (da_cons (de_ty nb.tuple) da_nil))))) (dtw_or1 (dt_cmp (op_eqD c.rm.room.units) so_eq (de_ix (de_var 1) de_int) (de_tup da_nil))))) (dss_one (ds_ret de_bl)) dss_nil)
    (dss_cons (ds_if (dt_not (dt_val (de_blt (cr_all c.calm) sc_all nb.all (da_cons (de_lc false c (di_seq (de_ix (de_var 1) de_int)) (blkOk_by (N := N_is_route) (sc := defScope s_is_route) (own := [("line", 3)]) (by decide +kernel)) (dgw_name 3 c) (fun _ _ _ _ _ c => dts_nil) (fun _ _ _ _ _ c => (de_and (de_callH h_is_integer c (da_cons (de_var 3) (da_cons de_int da_nil))) (de_one (de_cmp op_lt so_lt (de_var 3) (de_blt call_len sc_len nb.len (da_cons (de_ix (de_var 0) de_int) da_nil))))))) da_nil)))) (dss_one (ds_ret de_bl)) dss_nil)
    (dss_cons (ds_set 2 c (de_callH h_places_of_nets c (da_cons (de_var 0) (da_cons (de_var 1) da_nil))))
    (dss_one (ds_ret (de_and (de_cmp op_notIn_seq (so_in (neg := true)) de_non (de_var 2)) (de_one (de_cmp (op_eqD c.rm.room.units) so_eq (de_lenSet nb.len nb.set c (de_var 2)) (de_blt call_len sc_len nb.len (da_cons (de_var 2) da_nil)))))))))))) pure

abbrev s_route_text : Stmt := topS 16
abbrev N_route_text : List Str := ["route", "line"]
theorem sc_route_text : FnScope N_route_text ["route"] (defScope s_route_text) := ⟨rfl, rfl, rfl, by decide +kernel, rfl, by decide +kernel, by decide +kernel⟩
theorem walk_route_text { sp_route_text : DSp} (nb : NB mg) (D : Def K mg "route_text" s_route_text ["route"]) (len : ∀ ws M R xr, sp_route_text ws M R xr → ws.length = 1)
    (pure : ∀ ws M R xr, sp_route_text ws M R xr → w_route_text (dEnds R xr) (startD N_route_text ws) M) : HasF P w K mg base (k + 1) "route_text" ["route"] sp_route_text :=
  hasF_ok D sc_route_text len w_route_text (fun f cdv A outer s H E c hp => (dss_one (ds_ret (de_op op_addA so_add (de_op op_addA so_add (de_bltT call_str_int sc_str nb.str (da_cons (de_ix (de_var 0) de_int) da_nil)) de_str) (de_join de_str (de_lc false c (di_seq (de_ix (de_var 0) de_int)) (blkOk_by (N := N_route_text) (sc := defScope s_route_text) (own := [("line", 1)]) (by decide +kernel)) (dgw_name 1 c) (fun _ _ _ _ _ c => dts_nil) (fun _ _ _ _ _ c => (de_bltT call_str_int sc_str nb.str (da_cons (de_var 1) da_nil))))))))) pure

abbrev s_sight_text : Stmt := topS 17
abbrev N_sight_text : List Str := ["sight", "word", "times", "route", "more", "other"]
theorem sc_sight_text : FnScope N_sight_text ["sight"] (defScope s_sight_text) := ⟨rfl, rfl, rfl, by decide +kernel, rfl, by decide +kernel, by decide +kernel⟩
theorem walk_sight_text {sp_route_text sp_sight_text : DSp} (nb : NB mg) (D : Def K mg "sight_text" s_sight_text ["sight"]) (h_route_text : HasF P w K mg base k "route_text" ["route"] sp_route_text) (k_ROUTE_WORDS : KC K mg "ROUTE_WORDS" c_ROUTE_WORDS) (len : ∀ ws M R xr, sp_sight_text ws M R xr → ws.length = 1)
    (pure : ∀ ws M R xr, sp_sight_text ws M R xr → (w_sight_text sp_route_text) (dEnds R xr) (startD N_sight_text ws) M) : HasF P w K mg base (k + 1) "sight_text" ["sight"] sp_sight_text :=
  hasF_ok D sc_sight_text len (w_sight_text sp_route_text) (fun f cdv A outer s H E c hp => (dss_cons (ds_if (dt_cmp op_in_seq (so_in (neg := false)) (de_ix (de_var 0) de_int) (de_globC k_ROUTE_WORDS)) (dss_one (ds_ret (de_lst false (da_cons (de_ix (de_var 0) de_int) (da_cons (de_callH h_route_text c (da_cons (de_ix (de_var 0) de_int) da_nil)) da_nil))))) dss_nil)
    (dss_cons (ds_asg (de_var 0) (dg_tup c (dgs_cons (dg_name 1 c) (dgs_cons (dg_name 2 c) (dgs_cons (dg_name 3 c) (dgs_cons (dg_name 4 c) (dgs_cons (dg_name 5 c) dgs_nil)))))))
    (dss_one (ds_ret (de_lst false (da_cons (de_var 1) (da_cons (de_bltT call_str_int sc_str nb.str (da_cons (de_var 2) da_nil)) (da_cons (de_callH h_route_text c (da_cons (de_var 3) da_nil)) (da_cons (de_bltT call_str_int sc_str nb.str (da_cons (de_var 4) da_nil)) (da_cons (de_callH h_route_text c (da_cons (de_var 5) da_nil)) da_nil))))))))))) pure

abbrev s_sights_text : Stmt := topS 18
abbrev N_sights_text : List Str := ["net", "sights", "first", "rows", "a", "b", "sight", "row"]
theorem sc_sights_text : FnScope N_sights_text ["net", "sights"] (defScope s_sights_text) := ⟨rfl, rfl, rfl, by decide +kernel, rfl, by decide +kernel, by decide +kernel⟩
theorem walk_sights_text {sp_sight_text sp_sights_text : DSp} (nb : NB mg) (D : Def K mg "sights_text" s_sights_text ["net", "sights"]) (h_sight_text : HasF P w K mg base k "sight_text" ["sight"] sp_sight_text) (len : ∀ ws M R xr, sp_sights_text ws M R xr → ws.length = 2)
    (pure : ∀ ws M R xr, sp_sights_text ws M R xr → (w_sights_text sp_sight_text) (dEnds R xr) (startD N_sights_text ws) M) : HasF P w K mg base (k + 1) "sights_text" ["net", "sights"] sp_sights_text :=
  hasF_ok D sc_sights_text len (w_sights_text sp_sight_text) (fun f cdv A outer s H E c hp => (dss_cons (ds_set 2 c (de_op op_catL (so_cat (o := false)) (de_lst false (da_cons de_str (da_cons (de_bltT call_str_int sc_str nb.str (da_cons (de_ix (de_var 0) de_int) da_nil)) da_nil))) (de_lc false c (di_seq (de_ix (de_var 0) de_int)) (blkOk_by (N := N_sights_text) (sc := defScope s_sights_text) (own := [("a", 4), ("b", 5)]) (by decide +kernel)) (dgw_tup c (dgws_cons (dgw_name 4 c) (dgws_cons (dgw_name 5 c) dgws_nil))) (fun _ _ _ _ _ c => dts_nil) (fun _ _ _ _ _ c => (de_op op_addA so_add (de_op op_addA so_add (de_bltT call_str_int sc_str nb.str (da_cons (de_var 4) da_nil)) de_str) (de_bltT call_str_int sc_str nb.str (da_cons (de_var 5) da_nil)))))))
    (dss_cons (ds_set 3 c (de_op op_catL (so_cat (o := false)) (de_lst false (da_cons (de_var 2) da_nil)) (de_lc false c (di_seq (de_var 1)) (blkOk_by (N := N_sights_text) (sc := defScope s_sights_text) (own := [("sight", 6)]) (by decide +kernel)) (dgw_name 6 c) (fun _ _ _ _ _ c => dts_nil) (fun _ _ _ _ _ c => (de_callH h_sight_text c (da_cons (de_var 6) da_nil))))))
    (dss_one (ds_ret (de_join de_str (de_lc false c (di_seq (de_var 3)) (blkOk_by (N := N_sights_text) (sc := defScope s_sights_text) (own := [("row", 7)]) (by decide +kernel)) (dgw_name 7 c) (fun _ _ _ _ _ c => dts_nil) (fun _ _ _ _ _ c => (de_op op_addA so_add (de_join de_str (de_var 7)) de_str))))))))) pure

abbrev s_number_of : Stmt := topS 19
abbrev N_number_of : List Str := ["word", "sign"]
theorem sc_number_of : FnScope N_number_of ["word"] (defScope s_number_of) := ⟨rfl, rfl, rfl, by decide +kernel, rfl, by decide +kernel, by decide +kernel⟩
theorem walk_number_of { sp_number_of : DSp} (nb : NB mg) (D : Def K mg "number_of" s_number_of ["word"]) (k_MOST_DIGITS : KI mg "MOST_DIGITS" 600) (k_DIGITS : KC K mg "DIGITS" c_DIGITS) (len : ∀ ws M R xr, sp_number_of ws M R xr → ws.length = 1)
    (pure : ∀ ws M R xr, sp_number_of ws M R xr → w_number_of (dEnds R xr) (startD N_number_of ws) M) : HasF P w K mg base (k + 1) "number_of" ["word"] sp_number_of :=
  hasF_ok D sc_number_of len w_number_of (fun f cdv A outer s H E c hp => (dss_cons (ds_if (DTW.dt (dtw_or (dt_cmp (op_eqD c.rm.room.units) so_eq (de_var 0) de_str) (dtw_or (dt_cmp op_gt so_gt (de_blt call_len sc_len nb.len (da_cons (de_var 0) da_nil)) (de_globI k_MOST_DIGITS)) (dtw_or1 (dt_not (dt_val (de_blt (cr_all c.calm) sc_all nb.all (da_cons (de_lc false c (di_str (de_var 0)) (blkOk_by (N := N_number_of) (sc := defScope s_number_of) (own := [("sign", 1)]) (by decide +kernel)) (dgw_name 1 c) (fun _ _ _ _ _ c => dts_nil) (fun _ _ _ _ _ c => (de_cmp op_in_sign so_inSign (de_var 1) (de_globC k_DIGITS)))) da_nil)))))))) (dss_one (ds_ret de_non)) dss_nil)
    (dss_cons (ds_if (DTW.dt (dtw_and (dt_cmp (op_eqD c.rm.room.units) so_eq (de_ix (de_var 0) de_int) de_str) (dtw_and1 (dt_cmp op_gt so_gt (de_blt call_len sc_len nb.len (da_cons (de_var 0) da_nil)) de_int)))) (dss_one (ds_ret de_non)) dss_nil)
    (dss_one (ds_ret (de_bltT call_int_str sc_intS nb.int (da_cons (de_var 0) da_nil))))))) pure

abbrev s_numbers_of : Stmt := topS 20
abbrev N_numbers_of : List Str := ["word", "between", "found", "part"]
theorem sc_numbers_of : FnScope N_numbers_of ["word", "between"] (defScope s_numbers_of) := ⟨rfl, rfl, rfl, by decide +kernel, rfl, by decide +kernel, by decide +kernel⟩
theorem walk_numbers_of {sp_number_of sp_numbers_of : DSp} (nb : NB mg) (D : Def K mg "numbers_of" s_numbers_of ["word", "between"]) (h_number_of : HasF P w K mg base k "number_of" ["word"] sp_number_of) (len : ∀ ws M R xr, sp_numbers_of ws M R xr → ws.length = 2)
    (pure : ∀ ws M R xr, sp_numbers_of ws M R xr → (w_numbers_of sp_number_of) (dEnds R xr) (startD N_numbers_of ws) M) : HasF P w K mg base (k + 1) "numbers_of" ["word", "between"] sp_numbers_of :=
  hasF_ok D sc_numbers_of len (w_numbers_of sp_number_of) (fun f cdv A outer s H E c hp => (dss_cons (ds_setLc false 2 c (di_seq (de_split (de_var 0) (de_var 1))) (blkOk_by (N := N_numbers_of) (sc := defScope s_numbers_of) (own := [("part", 3)]) (by decide +kernel)) (dgw_name 3 c) (fun _ _ _ _ _ c => dts_nil) (fun _ _ _ _ _ c => (de_callH h_number_of c (da_cons (de_var 3) da_nil))))
    (dss_one (ds_ret (de_if (dt_cmp op_in_seq (so_in (neg := false)) de_non (de_var 2)) de_non (de_bltT call_tuple_of sc_tuple nb.tuple (da_cons (de_var 2) da_nil))))))) pure

abbrev s_places_of_texts : Stmt := topS 21
abbrev N_places_of_texts : List Str := ["word", "number"]
theorem sc_places_of_texts : FnScope N_places_of_texts ["word"] (defScope s_places_of_texts) := ⟨rfl, rfl, rfl, by decide +kernel, rfl, by decide +kernel, by decide +kernel⟩
theorem walk_places_of_texts {sp_number_of sp_places_of_texts : DSp} (nb : NB mg) (D : DefA K mg "places_of_texts" "places_of" s_places_of_texts ["word"]) (h_number_of : HasF P w K mg base k "number_of" ["word"] sp_number_of) (k_PLACES : KI mg "PLACES" 6) (len : ∀ ws M R xr, sp_places_of_texts ws M R xr → ws.length = 1)
    (pure : ∀ ws M R xr, sp_places_of_texts ws M R xr → (w_places_of_texts sp_number_of) (dEnds R xr) (startD N_places_of_texts ws) M) : HasF P w K mg base (k + 1) "places_of_texts" ["word"] sp_places_of_texts :=
  hasF_okA D sc_places_of_texts len (w_places_of_texts sp_number_of) (fun f cdv A outer s H E c hp => (dss_cons (ds_set 1 c (de_callH h_number_of c (da_cons (de_var 0) da_nil)))
    (dss_one (ds_ret (de_if (DTW.dt (dtw_and (dt_cmp op_notN so_notN (de_var 1) de_non) (dtw_and1 (dt_chain op_le op_le so_le so_le de_int (de_var 1) (de_globI k_PLACES))))) (de_var 1) de_non))))) pure

abbrev s_pair_of : Stmt := topS 23
abbrev N_pair_of : List Str := ["word", "places", "found"]
theorem sc_pair_of : FnScope N_pair_of ["word", "places"] (defScope s_pair_of) := ⟨rfl, rfl, rfl, by decide +kernel, rfl, by decide +kernel, by decide +kernel⟩
theorem walk_pair_of {sp_numbers_of sp_pair_of : DSp} (nb : NB mg) (D : Def K mg "pair_of" s_pair_of ["word", "places"]) (h_numbers_of : HasF P w K mg base k "numbers_of" ["word", "between"] sp_numbers_of) (len : ∀ ws M R xr, sp_pair_of ws M R xr → ws.length = 2)
    (pure : ∀ ws M R xr, sp_pair_of ws M R xr → (w_pair_of sp_numbers_of) (dEnds R xr) (startD N_pair_of ws) M) : HasF P w K mg base (k + 1) "pair_of" ["word", "places"] sp_pair_of :=
  hasF_ok D sc_pair_of len (w_pair_of sp_numbers_of) (fun f cdv A outer s H E c hp => (dss_cons (ds_set 2 c (de_callH h_numbers_of c (da_cons (de_var 0) (da_cons de_str da_nil))))
    (dss_cons (ds_if (DTW.dt (dtw_or (dt_cmp op_isN so_isN (de_var 2) de_non) (dtw_or1 (dt_cmp (op_neD c.rm.room.units) so_ne (de_blt call_len sc_len nb.len (da_cons (de_var 2) da_nil)) de_int)))) (dss_one (ds_ret de_non)) dss_nil)
    (dss_one (ds_ret (de_if (DTW.dt (dtw_and (dt_cmp op_lt so_lt (de_ix (de_var 2) de_int) (de_ix (de_var 2) de_int)) (dtw_and1 (dt_cmp op_lt so_lt (de_ix (de_var 2) de_int) (de_var 1))))) (de_var 2) de_non)))))) pure

abbrev s_route_of : Stmt := topS 24
abbrev N_route_of : List Str := ["word", "net", "parts", "start", "lines"]
theorem sc_route_of : FnScope N_route_of ["word", "net"] (defScope s_route_of) := ⟨rfl, rfl, rfl, by decide +kernel, rfl, by decide +kernel, by decide +kernel⟩
theorem walk_route_of {sp_number_of sp_numbers_of sp_is_route sp_route_of : DSp} (nb : NB mg) (D : Def K mg "route_of" s_route_of ["word", "net"]) (h_number_of : HasF P w K mg base k "number_of" ["word"] sp_number_of) (h_numbers_of : HasF P w K mg base k "numbers_of" ["word", "between"] sp_numbers_of) (h_is_route : HasF P w K mg base k "is_route" ["net", "value"] sp_is_route) (len : ∀ ws M R xr, sp_route_of ws M R xr → ws.length = 2)
    (pure : ∀ ws M R xr, sp_route_of ws M R xr → (w_route_of sp_number_of sp_numbers_of sp_is_route) (dEnds R xr) (startD N_route_of ws) M) : HasF P w K mg base (k + 1) "route_of" ["word", "net"] sp_route_of :=
  hasF_ok D sc_route_of len (w_route_of sp_number_of sp_numbers_of sp_is_route) (fun f cdv A outer s H E c hp => (dss_cons (ds_set 2 c (de_split (de_var 0) de_str))
    (dss_cons (ds_if (dt_cmp (op_neD c.rm.room.units) so_ne (de_blt call_len sc_len nb.len (da_cons (de_var 2) da_nil)) de_int) (dss_one (ds_ret de_non)) dss_nil)
    (dss_cons (ds_par2 3 4 c (da_cons (de_callH h_number_of c (da_cons (de_ix (de_var 2) de_int) da_nil)) (da_cons (de_callH h_numbers_of c (da_cons (de_ix (de_var 2) de_int) (da_cons de_str da_nil))) da_nil)))
    (dss_cons (ds_if (DTW.dt (dtw_or (dt_cmp op_isN so_isN (de_var 3) de_non) (dtw_or1 (dt_cmp op_isN so_isN (de_var 4) de_non)))) (dss_one (ds_ret de_non)) dss_nil)
    (dss_one (ds_ret (de_if (dt_val (de_callH h_is_route c (da_cons (de_var 1) (da_cons (de_tup (da_cons (de_var 3) (da_cons (de_var 4) da_nil))) da_nil)))) (de_tup (da_cons (de_var 3) (da_cons (de_var 4) da_nil))) de_non)))))))) pure

abbrev s_times_of : Stmt := topS 25
abbrev N_times_of : List Str := ["word", "number"]
theorem sc_times_of : FnScope N_times_of ["word"] (defScope s_times_of) := ⟨rfl, rfl, rfl, by decide +kernel, rfl, by decide +kernel, by decide +kernel⟩
theorem walk_times_of {sp_number_of sp_times_of : DSp} (nb : NB mg) (D : Def K mg "times_of" s_times_of ["word"]) (h_number_of : HasF P w K mg base k "number_of" ["word"] sp_number_of) (len : ∀ ws M R xr, sp_times_of ws M R xr → ws.length = 1)
    (pure : ∀ ws M R xr, sp_times_of ws M R xr → (w_times_of sp_number_of) (dEnds R xr) (startD N_times_of ws) M) : HasF P w K mg base (k + 1) "times_of" ["word"] sp_times_of :=
  hasF_ok D sc_times_of len (w_times_of sp_number_of) (fun f cdv A outer s H E c hp => (dss_cons (ds_set 1 c (de_callH h_number_of c (da_cons (de_var 0) da_nil)))
    (dss_one (ds_ret (de_if (dt_cmp (op_neD c.rm.room.units) so_ne (de_var 1) de_int) (de_var 1) de_non))))) pure

abbrev s_wanted : Stmt := topS 26
abbrev N_wanted : List Str := ["found", "line", "word"]
theorem sc_wanted : FnScope N_wanted ["found", "line", "word"] (defScope s_wanted) := ⟨rfl, rfl, rfl, by decide +kernel, rfl, by decide +kernel, by decide +kernel⟩
theorem walk_wanted { sp_wanted : DSp} (nb : NB mg) (D : Def K mg "wanted" s_wanted ["found", "line", "word"]) (len : ∀ ws M R xr, sp_wanted ws M R xr → ws.length = 3)
    (pure : ∀ ws M R xr, sp_wanted ws M R xr → w_wanted (dEnds R xr) (startD N_wanted ws) M) : HasF P w K mg base (k + 1) "wanted" ["found", "line", "word"] sp_wanted :=
  hasF_ok D sc_wanted len w_wanted (fun f cdv A outer s H E c hp => (dss_cons (ds_if (dt_cmp op_isN so_isN (de_var 0) de_non) (dss_one ds_never) dss_nil)
    (dss_one (ds_ret (de_var 0))))) pure

abbrev s_word_at : Stmt := topS 27
abbrev N_word_at : List Str := ["words", "at", "line"]
theorem sc_word_at : FnScope N_word_at ["words", "at", "line"] (defScope s_word_at) := ⟨rfl, rfl, rfl, by decide +kernel, rfl, by decide +kernel, by decide +kernel⟩
theorem walk_word_at { sp_word_at : DSp} (nb : NB mg) (D : Def K mg "word_at" s_word_at ["words", "at", "line"]) (len : ∀ ws M R xr, sp_word_at ws M R xr → ws.length = 3)
    (pure : ∀ ws M R xr, sp_word_at ws M R xr → w_word_at (dEnds R xr) (startD N_word_at ws) M) : HasF P w K mg base (k + 1) "word_at" ["words", "at", "line"] sp_word_at :=
  hasF_ok D sc_word_at len w_word_at (fun f cdv A outer s H E c hp => (dss_cons (ds_if (dt_cmp op_ge so_ge (de_var 1) (de_blt call_len sc_len nb.len (da_cons (de_var 0) da_nil))) (dss_one ds_never) dss_nil)
    (dss_one (ds_ret (de_ix (de_var 0) (de_var 1)))))) pure

abbrev s_net_of : Stmt := topS 28
abbrev N_net_of : List Str := ["words", "places", "lines", "at"]
theorem sc_net_of : FnScope N_net_of ["words"] (defScope s_net_of) := ⟨rfl, rfl, rfl, by decide +kernel, rfl, by decide +kernel, by decide +kernel⟩
theorem walk_net_of {sp_wanted sp_places_of_texts sp_word_at sp_pair_of sp_net_of : DSp} (nb : NB mg) (D : Def K mg "net_of" s_net_of ["words"]) (h_wanted : HasF P w K mg base k "wanted" ["found", "line", "word"] sp_wanted) (h_places_of_texts : HasF P w K mg base k "places_of_texts" ["word"] sp_places_of_texts) (h_word_at : HasF P w K mg base k "word_at" ["words", "at", "line"] sp_word_at) (h_pair_of : HasF P w K mg base k "pair_of" ["word", "places"] sp_pair_of) (k_LINES : KI mg "LINES" 8) (len : ∀ ws M R xr, sp_net_of ws M R xr → ws.length = 1)
    (pure : ∀ ws M R xr, sp_net_of ws M R xr → (w_net_of sp_wanted sp_places_of_texts sp_word_at sp_pair_of) (dEnds R xr) (startD N_net_of ws) M) : HasF P w K mg base (k + 1) "net_of" ["words"] sp_net_of :=
  hasF_ok D sc_net_of len (w_net_of sp_wanted sp_places_of_texts sp_word_at sp_pair_of) (fun f cdv A outer s H E c hp => (dss_cons (ds_if (dt_cmp (op_neD c.rm.room.units) so_ne (de_ix (de_var 0) de_int) de_str) (dss_one ds_never) dss_nil)
    (dss_cons (ds_set 1 c (de_callH h_wanted c (da_cons (de_callH h_places_of_texts c (da_cons (de_callH h_word_at c (da_cons (de_var 0) (da_cons de_int (da_cons de_int da_nil)))) da_nil)) (da_cons de_int (da_cons de_int da_nil)))))
    (dss_cons (ds_set 2 c (de_lst true (da_cons (de_callH h_wanted c (da_cons (de_callH h_pair_of c (da_cons (de_callH h_word_at c (da_cons (de_var 0) (da_cons de_int (da_cons de_int da_nil)))) (da_cons (de_var 1) da_nil))) (da_cons de_int (da_cons de_int da_nil)))) da_nil)))
    (dss_cons (ds_for c hp (di_range2 nb.range (da_cons de_int (da_cons (de_blt call_len sc_len nb.len (da_cons (de_var 0) da_nil)) da_nil))) (dg_name 3 c) (dss_cons (ds_if (dt_cmp (op_eqD c.rm.room.units) so_eq (de_blt call_len sc_len nb.len (da_cons (de_var 2) da_nil)) (de_globI k_LINES)) (dss_one ds_never) dss_nil)
    (dss_one (ds_expr (de_append (de_var 2) (da_cons (de_callH h_wanted c (da_cons (de_callH h_pair_of c (da_cons (de_ix (de_var 0) (de_var 3)) (da_cons (de_var 1) da_nil))) (da_cons de_int (da_cons (de_var 3) da_nil)))) da_nil))))))
    (dss_one (ds_ret (de_tup (da_cons (de_var 1) (da_cons (de_bltT call_tuple_of sc_tuple nb.tuple (da_cons (de_var 2) da_nil)) da_nil)))))))))) pure

abbrev s_sight_of : Stmt := topS 29
abbrev N_sight_of : List Str := ["words", "net", "line", "found", "times", "route", "more"]
theorem sc_sight_of : FnScope N_sight_of ["words", "net", "line"] (defScope s_sight_of) := ⟨rfl, rfl, rfl, by decide +kernel, rfl, by decide +kernel, by decide +kernel⟩
theorem walk_sight_of {sp_wanted sp_route_of sp_word_at sp_times_of sp_sight_of : DSp} (nb : NB mg) (D : Def K mg "sight_of" s_sight_of ["words", "net", "line"]) (h_wanted : HasF P w K mg base k "wanted" ["found", "line", "word"] sp_wanted) (h_route_of : HasF P w K mg base k "route_of" ["word", "net"] sp_route_of) (h_word_at : HasF P w K mg base k "word_at" ["words", "at", "line"] sp_word_at) (h_times_of : HasF P w K mg base k "times_of" ["word"] sp_times_of) (k_ROUTE_WORDS : KC K mg "ROUTE_WORDS" c_ROUTE_WORDS) (k_PAIR_WORDS : KC K mg "PAIR_WORDS" c_PAIR_WORDS) (len : ∀ ws M R xr, sp_sight_of ws M R xr → ws.length = 3)
    (pure : ∀ ws M R xr, sp_sight_of ws M R xr → (w_sight_of sp_wanted sp_route_of sp_word_at sp_times_of) (dEnds R xr) (startD N_sight_of ws) M) : HasF P w K mg base (k + 1) "sight_of" ["words", "net", "line"] sp_sight_of :=
  hasF_ok D sc_sight_of len (w_sight_of sp_wanted sp_route_of sp_word_at sp_times_of) (fun f cdv A outer s H E c hp => (dss_cons (ds_if (dt_cmp op_in_seq (so_in (neg := false)) (de_ix (de_var 0) de_int) (de_globC k_ROUTE_WORDS)) (dss_one (ds_set 3 c (de_tup (da_cons (de_ix (de_var 0) de_int) (da_cons (de_callH h_wanted c (da_cons (de_callH h_route_of c (da_cons (de_callH h_word_at c (da_cons (de_var 0) (da_cons de_int (da_cons (de_var 2) da_nil)))) (da_cons (de_var 1) da_nil))) (da_cons (de_var 2) (da_cons de_int da_nil)))) da_nil))))) (dss_one (ds_if (dt_cmp op_in_seq (so_in (neg := false)) (de_ix (de_var 0) de_int) (de_globC k_PAIR_WORDS)) (dss_cons (ds_set 4 c (de_callH h_wanted c (da_cons (de_callH h_times_of c (da_cons (de_callH h_word_at c (da_cons (de_var 0) (da_cons de_int (da_cons (de_var 2) da_nil)))) da_nil)) (da_cons (de_var 2) (da_cons de_int da_nil)))))
    (dss_cons (ds_set 5 c (de_callH h_wanted c (da_cons (de_callH h_route_of c (da_cons (de_callH h_word_at c (da_cons (de_var 0) (da_cons de_int (da_cons (de_var 2) da_nil)))) (da_cons (de_var 1) da_nil))) (da_cons (de_var 2) (da_cons de_int da_nil)))))
    (dss_cons (ds_set 6 c (de_callH h_wanted c (da_cons (de_callH h_times_of c (da_cons (de_callH h_word_at c (da_cons (de_var 0) (da_cons de_int (da_cons (de_var 2) da_nil)))) da_nil)) (da_cons (de_var 2) (da_cons de_int da_nil)))))
    (dss_one (ds_set 3 c (de_tup (da_cons (de_ix (de_var 0) de_int) (da_cons (de_var 4) (da_cons (de_var 5) (da_cons (de_var 6) (da_cons (de_callH h_wanted c (da_cons (de_callH h_route_of c (da_cons (de_callH h_word_at c (da_cons (de_var 0) (da_cons de_int (da_cons (de_var 2) da_nil)))) (da_cons (de_var 1) da_nil))) (da_cons (de_var 2) (da_cons de_int da_nil)))) da_nil))))))))))) (dss_one ds_never))))
    (dss_cons (ds_if (dt_cmp op_gt so_gt (de_blt call_len sc_len nb.len (da_cons (de_var 0) da_nil)) (de_blt call_len sc_len nb.len (da_cons (de_var 3) da_nil))) (dss_one ds_never) dss_nil)
    (dss_one (ds_ret (de_var 3)))))) pure

abbrev s_read_sights : Stmt := topS 30
abbrev N_read_sights : List Str := ["text", "rows", "is_ended", "net", "sights", "at", "row"]
theorem sc_read_sights : FnScope N_read_sights ["text"] (defScope s_read_sights) := ⟨rfl, rfl, rfl, by decide +kernel, rfl, by decide +kernel, by decide +kernel⟩
theorem walk_read_sights {sp_net_of sp_sight_of sp_read_sights : DSp} (nb : NB mg) (D : Def K mg "read_sights" s_read_sights ["text"]) (h_net_of : HasF P w K mg base k "net_of" ["words"] sp_net_of) (h_sight_of : HasF P w K mg base k "sight_of" ["words", "net", "line"] sp_sight_of) (len : ∀ ws M R xr, sp_read_sights ws M R xr → ws.length = 1)
    (pure : ∀ ws M R xr, sp_read_sights ws M R xr → (w_read_sights sp_net_of sp_sight_of) (dEnds R xr) (startD N_read_sights ws) M) : HasF P w K mg base (k + 1) "read_sights" ["text"] sp_read_sights :=
  hasF_ok D sc_read_sights len (w_read_sights sp_net_of sp_sight_of) (fun f cdv A outer s H E c hp => (dss_cons (ds_set 1 c (de_split (de_var 0) de_str))
    (dss_cons (ds_set 2 c (de_and (de_cmp (op_eqD c.rm.room.units) so_eq (de_ix (de_var 1) (de_neg de_int)) de_str) (de_one (de_cmp op_gt so_gt (de_blt call_len sc_len nb.len (da_cons (de_var 1) da_nil)) de_int))))
    (dss_cons (ds_if (dt_val (de_var 2)) (dss_one (ds_set 1 c (de_sl false (de_var 1) do_none (do_some (de_neg de_int))))) dss_nil)
    (dss_cons (ds_set 3 c (de_callH h_net_of c (da_cons (de_split (de_ix (de_var 1) de_int) de_str) da_nil)))
    (dss_cons (ds_set 4 c (de_bltT call_tuple_of sc_tuple nb.tuple (da_cons (de_lc false c (di_enumB nb.enumerate (da_cons (de_var 1) da_nil)) (blkOk_by (N := N_read_sights) (sc := defScope s_read_sights) (own := [("at", 5), ("row", 6)]) (by decide +kernel)) (dgw_tup c (dgws_cons (dgw_name 5 c) (dgws_cons (dgw_name 6 c) dgws_nil))) (fun _ _ _ _ _ c => (dts_one (dt_cmp op_gt so_gt (de_var 5) de_int))) (fun _ _ _ _ _ c => (de_callH h_sight_of c (da_cons (de_split (de_var 6) de_str) (da_cons (de_var 3) (da_cons (de_var 5) da_nil)))))) da_nil)))
    (dss_cons (ds_if (dt_not (dt_val (de_var 2))) (dss_one ds_never) dss_nil)
    (dss_one (ds_ret (de_tup (da_cons (de_var 3) (da_cons (de_var 4) da_nil)))))))))))) pure

abbrev s__law_deck : Stmt := topS 32
abbrev N__law_deck : List Str := ["_law_script"]
theorem sc__law_deck : FnScope N__law_deck ["_law_script"] (defScope s__law_deck) := ⟨rfl, rfl, rfl, by decide +kernel, rfl, by decide +kernel, by decide +kernel⟩
theorem walk__law_deck { sp__law_deck : DSp} (nb : NB mg) (D : Def K mg "_law_deck" s__law_deck ["_law_script"]) (len : ∀ ws M R xr, sp__law_deck ws M R xr → ws.length = 1)
    (pure : ∀ ws M R xr, sp__law_deck ws M R xr → w__law_deck (dEnds R xr) (startD N__law_deck ws) M) : HasF P w K mg base (k + 1) "_law_deck" ["_law_script"] sp__law_deck :=
  hasF_ok D sc__law_deck len w__law_deck (fun f cdv A outer s H E c hp => (dss_one (ds_ret (de_lst true (da_cons (de_bltT call_list_of (sc_list (o := false)) nb.list (da_cons (de_sl false (de_var 0) do_none (do_some de_int)) da_nil)) (da_cons de_int (da_cons de_int (da_cons de_int da_nil)))))))) pure

abbrev s__law_draw : Stmt := topS 33
abbrev N__law_draw : List Str := ["_law_deck_here", "_law_many", "_law_found", "_law_cell", "_law_mixed"]
theorem sc__law_draw : FnScope N__law_draw ["_law_deck_here", "_law_many"] (defScope s__law_draw) := ⟨rfl, rfl, rfl, by decide +kernel, rfl, by decide +kernel, by decide +kernel⟩
theorem walk__law_draw { sp__law_draw : DSp} (nb : NB mg) (D : Def K mg "_law_draw" s__law_draw ["_law_deck_here", "_law_many"]) (len : ∀ ws M R xr, sp__law_draw ws M R xr → ws.length = 2)
    (pure : ∀ ws M R xr, sp__law_draw ws M R xr → w__law_draw (dEnds R xr) (startD N__law_draw ws) M) : HasF P w K mg base (k + 1) "_law_draw" ["_law_deck_here", "_law_many"] sp__law_draw :=
  hasF_ok D sc__law_draw len w__law_draw (fun f cdv A outer s H E c hp => (dss_cons (ds_asg (de_op op_addA so_add (de_ix (de_var 0) de_int) de_int) (dg_sub (de_var 0) de_int))
    (dss_cons (ds_if (dt_cmp op_gt so_gt (de_ix (de_var 0) de_int) de_int) (dss_cons (ds_set 2 c (de_op op_mod so_mod (de_bltT call_int1 sc_int nb.int (da_cons (de_ix (de_var 0) de_int) da_nil)) (de_var 1)))
    (dss_cons (ds_asg (de_op op_fdiv so_div (de_ix (de_var 0) de_int) (de_var 1)) (dg_sub (de_var 0) de_int))
    (dss_one (ds_ret (de_var 2))))) dss_nil)
    (dss_cons (ds_set 3 c de_int)
    (dss_cons (ds_if (dt_cmp (op_neD c.rm.room.units) so_ne (de_ix (de_var 0) de_int) (de_lst false da_nil)) (dss_one (ds_set 3 c (de_ix (de_ix (de_var 0) de_int) (de_op op_mod so_mod (de_bltT call_int1 sc_int nb.int (da_cons (de_ix (de_var 0) de_int) da_nil)) (de_blt call_len sc_len nb.len (da_cons (de_ix (de_var 0) de_int) da_nil)))))) dss_nil)
    (dss_cons (ds_asg (de_op op_addA so_add (de_ix (de_var 0) de_int) de_int) (dg_sub (de_var 0) de_int))
    (dss_cons (ds_if (DTW.dt (dtw_and (dt_cmp op_ge so_ge (de_blt call_abs sc_abs nb.abs (da_cons (de_var 3) da_nil)) (de_op op_pow so_pow de_int de_int)) (dtw_and1 (dt_cmp op_le so_le (de_ix (de_var 0) de_int) (de_blt call_len sc_len nb.len (da_cons (de_ix (de_var 0) de_int) da_nil)))))) (dss_cons (ds_asg (de_op op_fdiv so_div (de_blt call_abs sc_abs nb.abs (da_cons (de_var 3) da_nil)) (de_var 1)) (dg_sub (de_var 0) de_int))
    (dss_one (ds_ret (de_op op_mod so_mod (de_bltT call_int1 sc_int nb.int (da_cons (de_blt call_abs sc_abs nb.abs (da_cons (de_var 3) da_nil)) da_nil)) (de_var 1))))) dss_nil)
    (dss_cons (ds_set 4 c (de_op op_mod so_mod (de_op op_pow so_pow (de_bltT call_int1 sc_int nb.int (da_cons (de_op op_addA so_add (de_op op_mod so_mod (de_bltT call_int1 sc_int nb.int (da_cons (de_var 3) da_nil)) de_int) (de_op op_mul so_mul de_int (de_ix (de_var 0) de_int))) da_nil)) de_int) de_int))
    (dss_cons (ds_set 4 c (de_op op_mod so_mod (de_op op_pow so_pow (de_bltT call_int1 sc_int nb.int (da_cons (de_op op_addA so_add (de_op op_mul so_mul (de_var 4) (de_op op_addA so_add (de_op op_mul so_mul de_int (de_ix (de_var 0) de_int)) de_int)) de_int) da_nil)) de_int) de_int))
    (dss_one (ds_ret (de_op op_mod so_mod (de_op op_fdiv so_div (de_var 4) de_int) (de_var 1))))))))))))) pure

abbrev s__law_one : Stmt := topS 34
abbrev N__law_one : List Str := ["_law_deck_here", "_law_items"]
theorem sc__law_one : FnScope N__law_one ["_law_deck_here", "_law_items"] (defScope s__law_one) := ⟨rfl, rfl, rfl, by decide +kernel, rfl, by decide +kernel, by decide +kernel⟩
theorem walk__law_one {sp__law_draw sp__law_one : DSp} (nb : NB mg) (D : Def K mg "_law_one" s__law_one ["_law_deck_here", "_law_items"]) (h__law_draw : HasF P w K mg base k "_law_draw" ["_law_deck_here", "_law_many"] sp__law_draw) (len : ∀ ws M R xr, sp__law_one ws M R xr → ws.length = 2)
    (pure : ∀ ws M R xr, sp__law_one ws M R xr → (w__law_one sp__law_draw) (dEnds R xr) (startD N__law_one ws) M) : HasF P w K mg base (k + 1) "_law_one" ["_law_deck_here", "_law_items"] sp__law_one :=
  hasF_ok D sc__law_one len (w__law_one sp__law_draw) (fun f cdv A outer s H E c hp => (dss_one (ds_ret (de_ix (de_var 1) (de_callH h__law_draw c (da_cons (de_var 0) (da_cons (de_blt call_len sc_len nb.len (da_cons (de_var 1) da_nil)) da_nil))))))) pure

abbrev s__law_net : Stmt := topS 35
abbrev N__law_net : List Str := ["_law_deck_here", "_law_places", "_law_lines", "_law_place", "_law_turn", "_law_first"]
theorem sc__law_net : FnScope N__law_net ["_law_deck_here"] (defScope s__law_net) := ⟨rfl, rfl, rfl, by decide +kernel, rfl, by decide +kernel, by decide +kernel⟩
theorem walk__law_net {sp__law_draw sp__law_net : DSp} (nb : NB mg) (D : Def K mg "_law_net" s__law_net ["_law_deck_here"]) (h__law_draw : HasF P w K mg base k "_law_draw" ["_law_deck_here", "_law_many"] sp__law_draw) (len : ∀ ws M R xr, sp__law_net ws M R xr → ws.length = 1)
    (pure : ∀ ws M R xr, sp__law_net ws M R xr → (w__law_net sp__law_draw) (dEnds R xr) (startD N__law_net ws) M) : HasF P w K mg base (k + 1) "_law_net" ["_law_deck_here"] sp__law_net :=
  hasF_ok D sc__law_net len (w__law_net sp__law_draw) (fun f cdv A outer s H E c hp => (dss_cons (ds_par2 1 2 c (da_cons (de_op op_addA so_add de_int (de_callH h__law_draw c (da_cons (de_var 0) (da_cons de_int da_nil)))) (da_cons (de_lst true da_nil) da_nil)))
    (dss_cons (ds_for c hp (di_range2 nb.range (da_cons de_int (da_cons (de_var 1) da_nil))) (dg_name 3 c) (dss_one (ds_if (DTW.dt (dtw_or (dt_cmp (op_eqD c.rm.room.units) so_eq (de_var 3) de_int) (dtw_or1 (dt_cmp op_gt so_gt (de_callH h__law_draw c (da_cons (de_var 0) (da_cons de_int da_nil))) de_int)))) (dss_one (ds_expr (de_append (de_var 2) (da_cons (de_tup (da_cons (de_callH h__law_draw c (da_cons (de_var 0) (da_cons (de_var 3) da_nil))) (da_cons (de_var 3) da_nil))) da_nil)))) dss_nil)))
    (dss_cons (ds_for c hp (di_range1 nb.range (da_cons (de_callH h__law_draw c (da_cons (de_var 0) (da_cons (de_op op_sub so_sub de_int (de_blt call_len sc_len nb.len (da_cons (de_var 2) da_nil))) da_nil))) da_nil)) (dg_name 4 c) (dss_cons (ds_set 5 c (de_callH h__law_draw c (da_cons (de_var 0) (da_cons (de_op op_sub so_sub (de_var 1) de_int) da_nil))))
    (dss_one (ds_expr (de_append (de_var 2) (da_cons (de_tup (da_cons (de_var 5) (da_cons (de_op op_addA so_add (de_op op_addA so_add (de_var 5) de_int) (de_callH h__law_draw c (da_cons (de_var 0) (da_cons (de_op op_sub so_sub (de_op op_sub so_sub (de_var 1) de_int) (de_var 5)) da_nil)))) da_nil))) da_nil))))))
    (dss_cons (ds_set 4 c (de_callH h__law_draw c (da_cons (de_var 0) (da_cons (de_blt call_len sc_len nb.len (da_cons (de_var 2) da_nil)) da_nil))))
    (dss_one (ds_ret (de_tup (da_cons (de_var 1) (da_cons (de_bltT call_tuple_of sc_tuple nb.tuple (da_cons (de_op op_catL (so_cat (o := false)) (de_sl false (de_var 2) (do_some (de_var 4)) do_none) (de_sl false (de_var 2) do_none (do_some (de_var 4)))) da_nil)) da_nil)))))))))) pure

abbrev s__law_next : Stmt := topS 36
abbrev N__law_next : List Str := ["_law_net_here", "_law_place", "_law_line", "_law_first", "_law_second"]
theorem sc__law_next : FnScope N__law_next ["_law_net_here", "_law_place", "_law_line"] (defScope s__law_next) := ⟨rfl, rfl, rfl, by decide +kernel, rfl, by decide +kernel, by decide +kernel⟩
theorem walk__law_next { sp__law_next : DSp} (nb : NB mg) (D : Def K mg "_law_next" s__law_next ["_law_net_here", "_law_place", "_law_line"]) (len : ∀ ws M R xr, sp__law_next ws M R xr → ws.length = 3)
    (pure : ∀ ws M R xr, sp__law_next ws M R xr → w__law_next (dEnds R xr) (startD N__law_next ws) M) : HasF P w K mg base (k + 1) "_law_next" ["_law_net_here", "_law_place", "_law_line"] sp__law_next :=
  hasF_ok D sc__law_next len w__law_next (fun f cdv A outer s H E c hp => (dss_cons (ds_asg (de_ix (de_ix (de_var 0) de_int) (de_var 2)) (dg_tup c (dgs_cons (dg_name 3 c) (dgs_cons (dg_name 4 c) dgs_nil))))
    (dss_cons (ds_if (dt_cmp (op_eqD c.rm.room.units) so_eq (de_var 1) (de_var 3)) (dss_one (ds_ret (de_var 4))) dss_nil)
    (dss_one (ds_ret (de_if (dt_cmp (op_eqD c.rm.room.units) so_eq (de_var 1) (de_var 4)) (de_var 3) de_non)))))) pure

abbrev s__law_route : Stmt := topS 37
abbrev N__law_route : List Str := ["_law_deck_here", "_law_net_here", "_law_first", "_law_second", "_law_start", "_law_lines", "_law_seen", "_law_turn", "_law_some", "_law_line"]
theorem sc__law_route : FnScope N__law_route ["_law_deck_here", "_law_net_here"] (defScope s__law_route) := ⟨rfl, rfl, rfl, by decide +kernel, rfl, by decide +kernel, by decide +kernel⟩
theorem walk__law_route {sp__law_one sp__law_draw sp__law_next sp__law_route : DSp} (nb : NB mg) (D : Def K mg "_law_route" s__law_route ["_law_deck_here", "_law_net_here"]) (h__law_one : HasF P w K mg base k "_law_one" ["_law_deck_here", "_law_items"] sp__law_one) (h__law_draw : HasF P w K mg base k "_law_draw" ["_law_deck_here", "_law_many"] sp__law_draw) (h__law_next : HasF P w K mg base k "_law_next" ["_law_net_here", "_law_place", "_law_line"] sp__law_next) (len : ∀ ws M R xr, sp__law_route ws M R xr → ws.length = 2)
    (pure : ∀ ws M R xr, sp__law_route ws M R xr → (w__law_route sp__law_one sp__law_draw sp__law_next) (dEnds R xr) (startD N__law_route ws) M) : HasF P w K mg base (k + 1) "_law_route" ["_law_deck_here", "_law_net_here"] sp__law_route :=
  hasF_ok D sc__law_route len (w__law_route sp__law_one sp__law_draw sp__law_next) (fun f cdv A outer s H E c hp => (dss_cons (ds_asg (de_callH h__law_one c (da_cons (de_var 0) (da_cons (de_ix (de_var 1) de_int) da_nil))) (dg_tup c (dgs_cons (dg_name 2 c) (dgs_cons (dg_name 3 c) dgs_nil))))
    (dss_cons (ds_set 4 c (de_callH h__law_one c (da_cons (de_var 0) (da_cons (de_lst false (da_cons (de_var 2) (da_cons (de_var 3) da_nil))) da_nil))))
    (dss_cons (ds_asg (de_tup (da_cons (de_tup da_nil) (da_cons (de_tup (da_cons (de_var 4) da_nil)) da_nil))) (dg_tup c (dgs_cons (dg_name 5 c) (dgs_cons (dg_name 6 c) dgs_nil))))
    (dss_cons (ds_for c hp (di_range1 nb.range (da_cons (de_op op_addA so_add de_int (de_callH h__law_draw c (da_cons (de_var 0) (da_cons (de_ix (de_var 1) de_int) da_nil)))) da_nil)) (dg_name 7 c) (dss_cons (ds_setLc false 8 c (di_range1 nb.range (da_cons (de_blt call_len sc_len nb.len (da_cons (de_ix (de_var 1) de_int) da_nil)) da_nil)) (blkOk_by (N := N__law_route) (sc := defScope s__law_route) (own := [("_law_line", 9)]) (by decide +kernel)) (dgw_name 9 c) (fun _ _ _ _ _ c => (dts_one (dt_cmp op_notN so_notN (de_callH h__law_next c (da_cons (de_var 1) (da_cons (de_ix (de_var 6) (de_neg de_int)) (da_cons (de_var 9) da_nil)))) de_non))) (fun _ _ _ _ _ c => (de_var 9)))
    (dss_cons (ds_setLc false 8 c (di_seq (de_var 8)) (blkOk_by (N := N__law_route) (sc := defScope s__law_route) (own := [("_law_line", 9)]) (by decide +kernel)) (dgw_name 9 c) (fun _ _ _ _ _ c => (dts_one (dt_cmp op_notIn_seq (so_in (neg := true)) (de_callH h__law_next c (da_cons (de_var 1) (da_cons (de_ix (de_var 6) (de_neg de_int)) (da_cons (de_var 9) da_nil)))) (de_var 6)))) (fun _ _ _ _ _ c => (de_var 9)))
    (dss_one (ds_if (dt_cmp (op_neD c.rm.room.units) so_ne (de_var 8) (de_lst false da_nil)) (dss_cons (ds_set 9 c (de_callH h__law_one c (da_cons (de_var 0) (da_cons (de_var 8) da_nil))))
    (dss_one (ds_asg (de_tup (da_cons (de_op op_addA so_add (de_var 5) (de_tup (da_cons (de_var 9) da_nil))) (da_cons (de_op op_addA so_add (de_var 6) (de_tup (da_cons (de_callH h__law_next c (da_cons (de_var 1) (da_cons (de_ix (de_var 6) (de_neg de_int)) (da_cons (de_var 9) da_nil)))) da_nil))) da_nil))) (dg_tup c (dgs_cons (dg_name 5 c) (dgs_cons (dg_name 6 c) dgs_nil)))))) dss_nil)))))
    (dss_one (ds_ret (de_tup (da_cons (de_var 4) (da_cons (de_var 5) da_nil)))))))))) pure

abbrev s__law_sight : Stmt := topS 38
abbrev N__law_sight : List Str := ["_law_deck_here", "_law_net_here", "_law_word", "_law_route_here", "_law_some"]
theorem sc__law_sight : FnScope N__law_sight ["_law_deck_here", "_law_net_here"] (defScope s__law_sight) := ⟨rfl, rfl, rfl, by decide +kernel, rfl, by decide +kernel, by decide +kernel⟩
theorem walk__law_sight {sp__law_one sp__law_route sp__law_draw sp__law_sight : DSp} (nb : NB mg) (D : Def K mg "_law_sight" s__law_sight ["_law_deck_here", "_law_net_here"]) (h__law_one : HasF P w K mg base k "_law_one" ["_law_deck_here", "_law_items"] sp__law_one) (h__law_route : HasF P w K mg base k "_law_route" ["_law_deck_here", "_law_net_here"] sp__law_route) (h__law_draw : HasF P w K mg base k "_law_draw" ["_law_deck_here", "_law_many"] sp__law_draw) (len : ∀ ws M R xr, sp__law_sight ws M R xr → ws.length = 2)
    (pure : ∀ ws M R xr, sp__law_sight ws M R xr → (w__law_sight sp__law_one sp__law_route sp__law_draw) (dEnds R xr) (startD N__law_sight ws) M) : HasF P w K mg base (k + 1) "_law_sight" ["_law_deck_here", "_law_net_here"] sp__law_sight :=
  hasF_ok D sc__law_sight len (w__law_sight sp__law_one sp__law_route sp__law_draw) (fun f cdv A outer s H E c hp => (dss_cons (ds_par2 2 3 c (da_cons (de_callH h__law_one c (da_cons (de_var 0) (da_cons (de_lst false (da_cons de_str (da_cons de_str (da_cons de_str (da_cons de_str (da_cons de_str da_nil)))))) da_nil))) (da_cons (de_callH h__law_route c (da_cons (de_var 0) (da_cons (de_var 1) da_nil))) da_nil)))
    (dss_cons (ds_if (dt_cmp op_in_seq (so_in (neg := false)) (de_var 2) (de_tup (da_cons de_str (da_cons de_str da_nil)))) (dss_one (ds_ret (de_tup (da_cons (de_var 2) (da_cons (de_var 3) da_nil))))) dss_nil)
    (dss_cons (ds_set 4 c (de_lst false (da_cons de_int (da_cons de_int (da_cons de_int (da_cons de_int (da_cons de_int (da_cons (de_op op_addA so_add de_int (de_callH h__law_draw c (da_cons (de_var 0) (da_cons de_int da_nil)))) (da_cons (de_callH h__law_one c (da_cons (de_var 0) (da_cons (de_lst false (da_cons (de_op op_pow so_pow de_int de_int) (da_cons (de_op op_addA so_add de_int (de_callH h__law_draw c (da_cons (de_var 0) (da_cons (de_op op_pow so_pow de_int de_int) da_nil)))) da_nil))) da_nil))) da_nil)))))))))
    (dss_one (ds_ret (de_tup (da_cons (de_var 2) (da_cons (de_callH h__law_one c (da_cons (de_var 0) (da_cons (de_var 4) da_nil))) (da_cons (de_var 3) (da_cons (de_callH h__law_one c (da_cons (de_var 0) (da_cons (de_var 4) da_nil))) (da_cons (de_callH h__law_route c (da_cons (de_var 0) (da_cons (de_var 1) da_nil))) da_nil)))))))))))) pure

abbrev s__law_route_text : Stmt := topS 39
abbrev N__law_route_text : List Str := ["_law_route_here", "_law_line"]
theorem sc__law_route_text : FnScope N__law_route_text ["_law_route_here"] (defScope s__law_route_text) := ⟨rfl, rfl, rfl, by decide +kernel, rfl, by decide +kernel, by decide +kernel⟩
theorem walk__law_route_text { sp__law_route_text : DSp} (nb : NB mg) (D : Def K mg "_law_route_text" s__law_route_text ["_law_route_here"]) (len : ∀ ws M R xr, sp__law_route_text ws M R xr → ws.length = 1)
    (pure : ∀ ws M R xr, sp__law_route_text ws M R xr → w__law_route_text (dEnds R xr) (startD N__law_route_text ws) M) : HasF P w K mg base (k + 1) "_law_route_text" ["_law_route_here"] sp__law_route_text :=
  hasF_ok D sc__law_route_text len w__law_route_text (fun f cdv A outer s H E c hp => (dss_one (ds_ret (de_op op_addA so_add (de_op op_addA so_add (de_bltT call_str_int sc_str nb.str (da_cons (de_ix (de_var 0) de_int) da_nil)) de_str) (de_join de_str (de_lc false c (di_seq (de_ix (de_var 0) de_int)) (blkOk_by (N := N__law_route_text) (sc := defScope s__law_route_text) (own := [("_law_line", 1)]) (by decide +kernel)) (dgw_name 1 c) (fun _ _ _ _ _ c => dts_nil) (fun _ _ _ _ _ c => (de_bltT call_str_int sc_str nb.str (da_cons (de_var 1) da_nil))))))))) pure

abbrev s__law_words : Stmt := topS 40
abbrev N__law_words : List Str := ["_law_net_here", "_law_sights_here", "_law_rows", "_law_sight_here", "_law_word", "_law_times", "_law_route_here", "_law_more", "_law_other", "_law_pair"]
theorem sc__law_words : FnScope N__law_words ["_law_net_here", "_law_sights_here"] (defScope s__law_words) := ⟨rfl, rfl, rfl, by decide +kernel, rfl, by decide +kernel, by decide +kernel⟩
theorem walk__law_words {sp__law_route_text sp__law_words : DSp} (nb : NB mg) (D : Def K mg "_law_words" s__law_words ["_law_net_here", "_law_sights_here"]) (h__law_route_text : HasF P w K mg base k "_law_route_text" ["_law_route_here"] sp__law_route_text) (len : ∀ ws M R xr, sp__law_words ws M R xr → ws.length = 2)
    (pure : ∀ ws M R xr, sp__law_words ws M R xr → (w__law_words sp__law_route_text) (dEnds R xr) (startD N__law_words ws) M) : HasF P w K mg base (k + 1) "_law_words" ["_law_net_here", "_law_sights_here"] sp__law_words :=
  hasF_ok D sc__law_words len (w__law_words sp__law_route_text) (fun f cdv A outer s H E c hp => (dss_cons (ds_set 2 c (de_lst true (da_cons (de_op op_catL (so_cat (o := false)) (de_lst false (da_cons de_str (da_cons (de_bltT call_str_int sc_str nb.str (da_cons (de_ix (de_var 0) de_int) da_nil)) da_nil))) (de_lc false c (di_seq (de_ix (de_var 0) de_int)) (blkOk_by (N := N__law_words) (sc := defScope s__law_words) (own := [("_law_pair", 9)]) (by decide +kernel)) (dgw_name 9 c) (fun _ _ _ _ _ c => dts_nil) (fun _ _ _ _ _ c => (de_op op_addA so_add (de_op op_addA so_add (de_bltT call_str_int sc_str nb.str (da_cons (de_ix (de_var 9) de_int) da_nil)) de_str) (de_bltT call_str_int sc_str nb.str (da_cons (de_ix (de_var 9) de_int) da_nil)))))) da_nil)))
    (dss_cons (ds_for c hp (di_seq (de_var 1)) (dg_name 3 c) (dss_one (ds_if (dt_cmp (op_eqD c.rm.room.units) so_eq (de_blt call_len sc_len nb.len (da_cons (de_var 3) da_nil)) de_int) (dss_one (ds_expr (de_append (de_var 2) (da_cons (de_lst false (da_cons (de_ix (de_var 3) de_int) (da_cons (de_callH h__law_route_text c (da_cons (de_ix (de_var 3) de_int) da_nil)) da_nil))) da_nil)))) (dss_cons (ds_asg (de_var 3) (dg_tup c (dgs_cons (dg_name 4 c) (dgs_cons (dg_name 5 c) (dgs_cons (dg_name 6 c) (dgs_cons (dg_name 7 c) (dgs_cons (dg_name 8 c) dgs_nil)))))))
    (dss_one (ds_expr (de_append (de_var 2) (da_cons (de_lst false (da_cons (de_var 4) (da_cons (de_bltT call_str_int sc_str nb.str (da_cons (de_var 5) da_nil)) (da_cons (de_callH h__law_route_text c (da_cons (de_var 6) da_nil)) (da_cons (de_bltT call_str_int sc_str nb.str (da_cons (de_var 7) da_nil)) (da_cons (de_callH h__law_route_text c (da_cons (de_var 8) da_nil)) da_nil)))))) da_nil))))))))
    (dss_one (ds_ret (de_frz (de_var 2))))))) pure

abbrev s__law_text : Stmt := topS 41
abbrev N__law_text : List Str := ["_law_rows", "_law_row"]
theorem sc__law_text : FnScope N__law_text ["_law_rows"] (defScope s__law_text) := ⟨rfl, rfl, rfl, by decide +kernel, rfl, by decide +kernel, by decide +kernel⟩
theorem walk__law_text { sp__law_text : DSp} (nb : NB mg) (D : Def K mg "_law_text" s__law_text ["_law_rows"]) (len : ∀ ws M R xr, sp__law_text ws M R xr → ws.length = 1)
    (pure : ∀ ws M R xr, sp__law_text ws M R xr → w__law_text (dEnds R xr) (startD N__law_text ws) M) : HasF P w K mg base (k + 1) "_law_text" ["_law_rows"] sp__law_text :=
  hasF_ok D sc__law_text len w__law_text (fun f cdv A outer s H E c hp => (dss_one (ds_ret (de_join de_str (de_lc false c (di_seq (de_var 0)) (blkOk_by (N := N__law_text) (sc := defScope s__law_text) (own := [("_law_row", 1)]) (by decide +kernel)) (dgw_name 1 c) (fun _ _ _ _ _ c => dts_nil) (fun _ _ _ _ _ c => (de_op op_addA so_add (de_join de_str (de_var 1)) de_str))))))) pure

abbrev s__law_sights : Stmt := topS 42
abbrev N__law_sights : List Str := ["_law_deck_here", "_law_net_here", "_law_found", "_law_many", "_law_k", "_law_sight_here", "_law_great"]
theorem sc__law_sights : FnScope N__law_sights ["_law_deck_here", "_law_net_here"] (defScope s__law_sights) := ⟨rfl, rfl, rfl, by decide +kernel, rfl, by decide +kernel, by decide +kernel⟩
theorem walk__law_sights {sp__law_draw sp__law_sight sp__law_sights : DSp} (nb : NB mg) (D : Def K mg "_law_sights" s__law_sights ["_law_deck_here", "_law_net_here"]) (h__law_draw : HasF P w K mg base k "_law_draw" ["_law_deck_here", "_law_many"] sp__law_draw) (h__law_sight : HasF P w K mg base k "_law_sight" ["_law_deck_here", "_law_net_here"] sp__law_sight) (len : ∀ ws M R xr, sp__law_sights ws M R xr → ws.length = 2)
    (pure : ∀ ws M R xr, sp__law_sights ws M R xr → (w__law_sights sp__law_draw sp__law_sight) (dEnds R xr) (startD N__law_sights ws) M) : HasF P w K mg base (k + 1) "_law_sights" ["_law_deck_here", "_law_net_here"] sp__law_sights :=
  hasF_ok D sc__law_sights len (w__law_sights sp__law_draw sp__law_sight) (fun f cdv A outer s H E c hp => (dss_cons (ds_par2 2 3 c (da_cons (de_lst true da_nil) (da_cons (de_callH h__law_draw c (da_cons (de_var 0) (da_cons de_int da_nil))) da_nil)))
    (dss_cons (ds_if (dt_cmp (op_eqD c.rm.room.units) so_eq (de_callH h__law_draw c (da_cons (de_var 0) (da_cons de_int da_nil))) de_int) (dss_one (ds_set 3 c (de_op op_addA so_add de_int (de_callH h__law_draw c (da_cons (de_var 0) (da_cons de_int da_nil)))))) dss_nil)
    (dss_cons (ds_for c hp (di_range1 nb.range (da_cons (de_var 3) da_nil)) (dg_name 4 c) (dss_cons (ds_set 5 c (de_callH h__law_sight c (da_cons (de_var 0) (da_cons (de_var 1) da_nil))))
    (dss_cons (ds_if (DTW.dt (dtw_and (dt_cmp (op_eqD c.rm.room.units) so_eq (de_blt call_len sc_len nb.len (da_cons (de_var 5) da_nil)) de_int) (dtw_and1 (dt_cmp (op_eqD c.rm.room.units) so_eq (de_callH h__law_draw c (da_cons (de_var 0) (da_cons de_int da_nil))) de_int)))) (dss_cons (ds_set 6 c (de_op op_addA so_add de_int (de_op op_mul so_mul (de_callH h__law_draw c (da_cons (de_var 0) (da_cons de_int da_nil))) (de_bltT call_int_str sc_intS nb.int (da_cons (de_op op_addA so_add de_str (de_op op_mulS so_mulS de_str (de_callH h__law_draw c (da_cons (de_var 0) (da_cons de_int da_nil))))) da_nil)))))
    (dss_one (ds_set 5 c (de_tup (da_cons (de_ix (de_var 5) de_int) (da_cons (de_var 6) (da_cons (de_ix (de_var 5) de_int) (da_cons (de_ix (de_var 5) de_int) (da_cons (de_ix (de_var 5) de_int) da_nil))))))))) dss_nil)
    (dss_one (ds_expr (de_append (de_var 2) (da_cons (de_var 5) da_nil)))))))
    (dss_one (ds_ret (de_bltT call_tuple_of sc_tuple nb.tuple (da_cons (de_var 2) da_nil)))))))) pure

abbrev s_law : Stmt := topS 43
abbrev N_law : List Str := ["_law_script", "_law_deck_here", "_law_turn", "_law_net_here", "_law_sights_here", "_law_held", "_law_due"]
theorem sc_law : FnScope N_law ["_law_script"] (defScope s_law) := ⟨rfl, rfl, rfl, by decide +kernel, rfl, by decide +kernel, by decide +kernel⟩
theorem walk_law {sp__law_deck sp__law_net sp__law_sights sp__law_text sp__law_words sp_sights_text sp_read_sights sp_law : DSp} (nb : NB mg) (D : Def K mg "law" s_law ["_law_script"]) (h__law_deck : HasF P w K mg base k "_law_deck" ["_law_script"] sp__law_deck) (h__law_net : HasF P w K mg base k "_law_net" ["_law_deck_here"] sp__law_net) (h__law_sights : HasF P w K mg base k "_law_sights" ["_law_deck_here", "_law_net_here"] sp__law_sights) (h__law_text : HasF P w K mg base k "_law_text" ["_law_rows"] sp__law_text) (h__law_words : HasF P w K mg base k "_law_words" ["_law_net_here", "_law_sights_here"] sp__law_words) (h_sights_text : HasF P w K mg base k "sights_text" ["net", "sights"] sp_sights_text) (h_read_sights : HasF P w K mg base k "read_sights" ["text"] sp_read_sights) (len : ∀ ws M R xr, sp_law ws M R xr → ws.length = 1)
    (pure : ∀ ws M R xr, sp_law ws M R xr → (w_law sp__law_deck sp__law_net sp__law_sights sp__law_text sp__law_words sp_sights_text sp_read_sights) (dEnds R xr) (startD N_law ws) M) : HasF P w K mg base (k + 1) "law" ["_law_script"] sp_law :=
  hasF_ok D sc_law len (w_law sp__law_deck sp__law_net sp__law_sights sp__law_text sp__law_words sp_sights_text sp_read_sights) (fun f cdv A outer s H E c hp => (dss_cons (ds_set 1 c (de_callH h__law_deck c (da_cons (de_var 0) da_nil)))
    (dss_cons (ds_for c hp (di_range1 nb.range (da_cons de_int da_nil)) (dg_name 2 c) (dss_cons (ds_set 3 c (de_callH h__law_net c (da_cons (de_var 1) da_nil)))
    (dss_cons (ds_set 4 c (de_callH h__law_sights c (da_cons (de_var 1) (da_cons (de_var 3) da_nil))))
    (dss_cons (ds_par2 5 6 c (da_cons (de_blt (call_repr c) sc_reprS nb.repr (da_cons (de_lst false (da_cons (de_var 3) (da_cons (de_var 4) da_nil))) da_nil)) (da_cons (de_callH h__law_text c (da_cons (de_callH h__law_words c (da_cons (de_var 3) (da_cons (de_var 4) da_nil))) da_nil)) da_nil)))
    (dss_cons (ds_if (dt_cmp (op_neD c.rm.room.units) so_ne (de_blt (call_repr c) sc_reprS nb.repr (da_cons (de_lst false (da_cons (de_callH h_sights_text c (da_cons (de_var 3) (da_cons (de_var 4) da_nil))) (da_cons (de_callH h_sights_text c (da_cons (de_var 3) (da_cons (de_var 4) da_nil))) da_nil))) da_nil)) (de_blt (call_repr c) sc_reprS nb.repr (da_cons (de_lst false (da_cons (de_var 6) (da_cons (de_var 6) da_nil))) da_nil))) (dss_one (ds_ret de_bl)) dss_nil)
    (dss_one (ds_if (DTW.dt (dtw_or (dt_cmp (op_neD c.rm.room.units) so_ne (de_blt (call_repr c) sc_reprS nb.repr (da_cons (de_lst false (da_cons (de_callH h_read_sights c (da_cons (de_var 6) da_nil)) (da_cons (de_callH h_read_sights c (da_cons (de_var 6) da_nil)) da_nil))) da_nil)) (de_blt (call_repr c) sc_reprS nb.repr (da_cons (de_op op_repL (so_rep (o := false)) (de_lst false (da_cons (de_tup (da_cons (de_var 3) (da_cons (de_var 4) da_nil))) da_nil)) de_int) da_nil))) (dtw_or1 (dt_cmp (op_neD c.rm.room.units) so_ne (de_blt (call_repr c) sc_reprS nb.repr (da_cons (de_lst false (da_cons (de_var 3) (da_cons (de_var 4) da_nil))) da_nil)) (de_var 5))))) (dss_one (ds_ret de_bl)) dss_nil)))))))
    (dss_one (ds_ret de_bl))))) pure

end

def fnL : List He.DefD := [datD "is_integer" s_is_integer, datD "next_place" s_next_place, datA "places_of_nets" "places_of" s_places_of_nets, datD "is_route" s_is_route, datD "route_text" s_route_text, datD "sight_text" s_sight_text, datD "sights_text" s_sights_text, datD "number_of" s_number_of, datD "numbers_of" s_numbers_of, datA "places_of_texts" "places_of" s_places_of_texts, datD "pair_of" s_pair_of, datD "route_of" s_route_of, datD "times_of" s_times_of, datD "wanted" s_wanted, datD "word_at" s_word_at, datD "net_of" s_net_of, datD "sight_of" s_sight_of, datD "read_sights" s_read_sights, datD "_law_deck" s__law_deck, datD "_law_draw" s__law_draw, datD "_law_one" s__law_one, datD "_law_net" s__law_net, datD "_law_next" s__law_next, datD "_law_route" s__law_route, datD "_law_sight" s__law_sight, datD "_law_route_text" s__law_route_text, datD "_law_words" s__law_words, datD "_law_text" s__law_text, datD "_law_sights" s__law_sights, datD "law" s_law]
def faL : List He.Fa := [.glo "is_integer", .glo "next_place", .glo "places_of_nets", .glo "is_route", .glo "route_text", .glo "sight_text", .glo "sights_text", .glo "number_of", .glo "numbers_of", .glo "places_of_texts", .glo "pair_of", .glo "route_of", .glo "times_of", .glo "wanted", .glo "word_at", .glo "net_of", .glo "sight_of", .glo "read_sights", .glo "_law_deck", .glo "_law_draw", .glo "_law_one", .glo "_law_net", .glo "_law_next", .glo "_law_route", .glo "_law_sight", .glo "_law_route_text", .glo "_law_words", .glo "_law_text", .glo "_law_sights", .glo "law", .free "int", .free "isinstance", .free "bool", .free "tuple", .free "len", .free "all", .free "set", .free "str", .free "range", .free "enumerate", .free "list", .free "abs", .free "repr", .int "MOST_DIGITS" 600, .int "PLACES" 6, .int "LINES" 8, .str "DIGITS" "0123456789", .glo "ROUTE_WORDS", .glo "PAIR_WORDS"]
def tpL : TpL := [("ROUTE_WORDS", (["one", "only"] : List Str).map He.Dv.str), ("PAIR_WORDS", (["most", "less"] : List Str).map He.Dv.str)]
abbrev RL : PySem.W.OpenRow := PySem.W.OpenLaw.row PySem.Challenge.rw_seenroutes_k65_texts_of_sights
abbrev hkL : PySem.W.Hook := hookT 4 faL fnL tpL
def obL (s : PySem.W.SharedT) : Bool × He.AlD := obsTG 4 faL fnL tpL (HandSHeadRun.getT s)
theorem obL_eq (s : PySem.W.SharedT) : obL s = hkL.obs s.abs := obsTG_eq (HandSHeadRun.getT_eq s)
def looseL : List Str := (["is_integer", "next_place", "places_of_nets", "is_route", "route_text", "sight_text", "sights_text", "number_of", "numbers_of", "places_of_texts", "pair_of", "route_of", "times_of", "wanted", "word_at", "net_of", "sight_of", "read_sights", "_law_deck", "_law_draw", "_law_one", "_law_net", "_law_next", "_law_route", "_law_sight", "_law_route_text", "_law_words", "_law_text", "_law_sights", "PLACES"] : List Str) ++ (["LINES", "ROUTE_WORDS", "PAIR_WORDS", "DIGITS", "MOST_DIGITS", "RouteError", "BadText", "places_of"] : List Str)
theorem runL (w : World) : HandSHeadRun.RunEq RL (PySem.W.view RL.prog [43]) hkL obL 4000 looseL w := by
  intro os
  kernel_rfl
theorem factsL {P : Program} {w : World} {K : PySem.W.Frag} {h : Heap} {mg : Str → Option Value} {f : Addr} (X : K.In h) (G : h.Ns mainGlobals mg) (hfa : mg ("law" : Str) = some (.ref f)) (c0 : SaysT faL fnL tpL K) :
    ∃ fd : FuncData, (∀ (s : Shared) (u : Value), BindsTo s fd ⟨[u], []⟩ [("_law_script", u)]) ∧ ∀ base : Heap, K.In base → base.Ns mainGlobals mg → FnD P w K mg base 7 f fd ["_law_script"] (lift K (spLawD 63)) := by
  have c := c0.d
  have nb : NB mg := ⟨He.free_ok X G (c.fact 30 rfl), He.free_ok X G (c.fact 31 rfl), He.free_ok X G (c.fact 32 rfl), He.free_ok X G (c.fact 33 rfl), He.free_ok X G (c.fact 34 rfl), He.free_ok X G (c.fact 35 rfl), He.free_ok X G (c.fact 36 rfl), He.free_ok X G (c.fact 37 rfl), He.free_ok X G (c.fact 38 rfl), He.free_ok X G (c.fact 39 rfl), He.free_ok X G (c.fact 40 rfl), He.free_ok X G (c.fact 41 rfl), He.free_ok X G (c.fact 42 rfl)⟩
  have k_MOST_DIGITS : KI mg "MOST_DIGITS" 600 := ki_of X G c 43 rfl
  have k_PLACES : KI mg "PLACES" 6 := ki_of X G c 44 rfl
  have k_LINES : KI mg "LINES" 8 := ki_of X G c 45 rfl
  have k_DIGITS : KC K mg "DIGITS" c_DIGITS := kc_str X G c 46 rfl
  have k_ROUTE_WORDS : KC K mg "ROUTE_WORDS" c_ROUTE_WORDS := kc_of X G c0 0 47 (["one", "only"] : List Str) rfl rfl
  have k_PAIR_WORDS : KC K mg "PAIR_WORDS" c_PAIR_WORDS := kc_of X G c0 1 48 (["most", "less"] : List Str) rfl rfl
  have D_is_integer : Def K mg "is_integer" s_is_integer ["value", "least"] := def_of X G c 0 0 rfl rfl (fun _ _ _ _ _ _ us hl => match us, hl with | [_, _], _ => rfl)
  have D_next_place : Def K mg "next_place" s_next_place ["net", "place", "line"] := def_of X G c 1 1 rfl rfl (fun _ _ _ _ _ _ us hl => match us, hl with | [_, _, _], _ => rfl)
  have D_places_of_nets : DefA K mg "places_of_nets" "places_of" s_places_of_nets ["net", "route"] := def_ofA X G c 2 2 rfl rfl (fun _ _ _ _ _ _ us hl => match us, hl with | [_, _], _ => rfl)
  have D_is_route : Def K mg "is_route" s_is_route ["net", "value"] := def_of X G c 3 3 rfl rfl (fun _ _ _ _ _ _ us hl => match us, hl with | [_, _], _ => rfl)
  have D_route_text : Def K mg "route_text" s_route_text ["route"] := def_of X G c 4 4 rfl rfl (fun _ _ _ _ _ _ us hl => match us, hl with | [_], _ => rfl)
  have D_sight_text : Def K mg "sight_text" s_sight_text ["sight"] := def_of X G c 5 5 rfl rfl (fun _ _ _ _ _ _ us hl => match us, hl with | [_], _ => rfl)
  have D_sights_text : Def K mg "sights_text" s_sights_text ["net", "sights"] := def_of X G c 6 6 rfl rfl (fun _ _ _ _ _ _ us hl => match us, hl with | [_, _], _ => rfl)
  have D_number_of : Def K mg "number_of" s_number_of ["word"] := def_of X G c 7 7 rfl rfl (fun _ _ _ _ _ _ us hl => match us, hl with | [_], _ => rfl)
  have D_numbers_of : Def K mg "numbers_of" s_numbers_of ["word", "between"] := def_of X G c 8 8 rfl rfl (fun _ _ _ _ _ _ us hl => match us, hl with | [_, _], _ => rfl)
  have D_places_of_texts : DefA K mg "places_of_texts" "places_of" s_places_of_texts ["word"] := def_ofA X G c 9 9 rfl rfl (fun _ _ _ _ _ _ us hl => match us, hl with | [_], _ => rfl)
  have D_pair_of : Def K mg "pair_of" s_pair_of ["word", "places"] := def_of X G c 10 10 rfl rfl (fun _ _ _ _ _ _ us hl => match us, hl with | [_, _], _ => rfl)
  have D_route_of : Def K mg "route_of" s_route_of ["word", "net"] := def_of X G c 11 11 rfl rfl (fun _ _ _ _ _ _ us hl => match us, hl with | [_, _], _ => rfl)
  have D_times_of : Def K mg "times_of" s_times_of ["word"] := def_of X G c 12 12 rfl rfl (fun _ _ _ _ _ _ us hl => match us, hl with | [_], _ => rfl)
  have D_wanted : Def K mg "wanted" s_wanted ["found", "line", "word"] := def_of X G c 13 13 rfl rfl (fun _ _ _ _ _ _ us hl => match us, hl with | [_, _, _], _ => rfl)
  have D_word_at : Def K mg "word_at" s_word_at ["words", "at", "line"] := def_of X G c 14 14 rfl rfl (fun _ _ _ _ _ _ us hl => match us, hl with | [_, _, _], _ => rfl)
  have D_net_of : Def K mg "net_of" s_net_of ["words"] := def_of X G c 15 15 rfl rfl (fun _ _ _ _ _ _ us hl => match us, hl with | [_], _ => rfl)
  have D_sight_of : Def K mg "sight_of" s_sight_of ["words", "net", "line"] := def_of X G c 16 16 rfl rfl (fun _ _ _ _ _ _ us hl => match us, hl with | [_, _, _], _ => rfl)
  have D_read_sights : Def K mg "read_sights" s_read_sights ["text"] := def_of X G c 17 17 rfl rfl (fun _ _ _ _ _ _ us hl => match us, hl with | [_], _ => rfl)
  have D__law_deck : Def K mg "_law_deck" s__law_deck ["_law_script"] := def_of X G c 18 18 rfl rfl (fun _ _ _ _ _ _ us hl => match us, hl with | [_], _ => rfl)
  have D__law_draw : Def K mg "_law_draw" s__law_draw ["_law_deck_here", "_law_many"] := def_of X G c 19 19 rfl rfl (fun _ _ _ _ _ _ us hl => match us, hl with | [_, _], _ => rfl)
  have D__law_one : Def K mg "_law_one" s__law_one ["_law_deck_here", "_law_items"] := def_of X G c 20 20 rfl rfl (fun _ _ _ _ _ _ us hl => match us, hl with | [_, _], _ => rfl)
  have D__law_net : Def K mg "_law_net" s__law_net ["_law_deck_here"] := def_of X G c 21 21 rfl rfl (fun _ _ _ _ _ _ us hl => match us, hl with | [_], _ => rfl)
  have D__law_next : Def K mg "_law_next" s__law_next ["_law_net_here", "_law_place", "_law_line"] := def_of X G c 22 22 rfl rfl (fun _ _ _ _ _ _ us hl => match us, hl with | [_, _, _], _ => rfl)
  have D__law_route : Def K mg "_law_route" s__law_route ["_law_deck_here", "_law_net_here"] := def_of X G c 23 23 rfl rfl (fun _ _ _ _ _ _ us hl => match us, hl with | [_, _], _ => rfl)
  have D__law_sight : Def K mg "_law_sight" s__law_sight ["_law_deck_here", "_law_net_here"] := def_of X G c 24 24 rfl rfl (fun _ _ _ _ _ _ us hl => match us, hl with | [_, _], _ => rfl)
  have D__law_route_text : Def K mg "_law_route_text" s__law_route_text ["_law_route_here"] := def_of X G c 25 25 rfl rfl (fun _ _ _ _ _ _ us hl => match us, hl with | [_], _ => rfl)
  have D__law_words : Def K mg "_law_words" s__law_words ["_law_net_here", "_law_sights_here"] := def_of X G c 26 26 rfl rfl (fun _ _ _ _ _ _ us hl => match us, hl with | [_, _], _ => rfl)
  have D__law_text : Def K mg "_law_text" s__law_text ["_law_rows"] := def_of X G c 27 27 rfl rfl (fun _ _ _ _ _ _ us hl => match us, hl with | [_], _ => rfl)
  have D__law_sights : Def K mg "_law_sights" s__law_sights ["_law_deck_here", "_law_net_here"] := def_of X G c 28 28 rfl rfl (fun _ _ _ _ _ _ us hl => match us, hl with | [_, _], _ => rfl)
  have D_law : Def K mg "law" s_law ["_law_script"] := def_of X G c 29 29 rfl rfl (fun _ _ _ _ _ _ us hl => match us, hl with | [_], _ => rfl)
  have F_is_integer : ∀ base : Heap, HasF P w K mg base 1 "is_integer" ["value", "least"] sp_is_integer := fun base => walk_is_integer (k := 0) nb D_is_integer len_is_integer pure_is_integer
  have F_next_place : ∀ base : Heap, HasF P w K mg base 1 "next_place" ["net", "place", "line"] sp_next_place := fun base => walk_next_place (k := 0) nb D_next_place len_next_place pure_next_place
  have F_places_of_nets : ∀ base : Heap, HasF P w K mg base 2 "places_of_nets" ["net", "route"] sp_places_of_nets := fun base => walk_places_of_nets (k := 1) nb D_places_of_nets ((F_next_place base).mono (by decide)) len_places_of_nets pure_places_of_nets
  have F_is_route : ∀ base : Heap, HasF P w K mg base 3 "is_route" ["net", "value"] sp_is_route := fun base => walk_is_route (k := 2) nb D_is_route ((F_is_integer base).mono (by decide)) ((F_places_of_nets base).mono (by decide)) len_is_route pure_is_route
  have F_route_text : ∀ base : Heap, HasF P w K mg base 1 "route_text" ["route"] sp_route_text := fun base => walk_route_text (k := 0) nb D_route_text len_route_text pure_route_text
  have F_sight_text : ∀ base : Heap, HasF P w K mg base 2 "sight_text" ["sight"] sp_sight_text := fun base => walk_sight_text (k := 1) nb D_sight_text ((F_route_text base).mono (by decide)) k_ROUTE_WORDS len_sight_text pure_sight_text
  have F_sights_text : ∀ base : Heap, HasF P w K mg base 3 "sights_text" ["net", "sights"] sp_sights_text := fun base => walk_sights_text (k := 2) nb D_sights_text ((F_sight_text base).mono (by decide)) len_sights_text pure_sights_text
  have F_number_of : ∀ base : Heap, HasF P w K mg base 1 "number_of" ["word"] sp_number_of := fun base => walk_number_of (k := 0) nb D_number_of k_MOST_DIGITS k_DIGITS len_number_of pure_number_of
  have F_numbers_of : ∀ base : Heap, HasF P w K mg base 2 "numbers_of" ["word", "between"] sp_numbers_of := fun base => walk_numbers_of (k := 1) nb D_numbers_of ((F_number_of base).mono (by decide)) len_numbers_of pure_numbers_of
  have F_places_of_texts : ∀ base : Heap, HasF P w K mg base 2 "places_of_texts" ["word"] sp_places_of_texts := fun base => walk_places_of_texts (k := 1) nb D_places_of_texts ((F_number_of base).mono (by decide)) k_PLACES len_places_of_texts pure_places_of_texts
  have F_pair_of : ∀ base : Heap, HasF P w K mg base 3 "pair_of" ["word", "places"] sp_pair_of := fun base => walk_pair_of (k := 2) nb D_pair_of ((F_numbers_of base).mono (by decide)) len_pair_of pure_pair_of
  have F_route_of : ∀ base : Heap, HasF P w K mg base 4 "route_of" ["word", "net"] sp_route_of := fun base => walk_route_of (k := 3) nb D_route_of ((F_number_of base).mono (by decide)) ((F_numbers_of base).mono (by decide)) ((F_is_route base).mono (by decide)) len_route_of pure_route_of
  have F_times_of : ∀ base : Heap, HasF P w K mg base 2 "times_of" ["word"] sp_times_of := fun base => walk_times_of (k := 1) nb D_times_of ((F_number_of base).mono (by decide)) len_times_of pure_times_of
  have F_wanted : ∀ base : Heap, HasF P w K mg base 1 "wanted" ["found", "line", "word"] sp_wanted := fun base => walk_wanted (k := 0) nb D_wanted len_wanted pure_wanted
  have F_word_at : ∀ base : Heap, HasF P w K mg base 1 "word_at" ["words", "at", "line"] sp_word_at := fun base => walk_word_at (k := 0) nb D_word_at len_word_at pure_word_at
  have F_net_of : ∀ base : Heap, HasF P w K mg base 4 "net_of" ["words"] sp_net_of := fun base => walk_net_of (k := 3) nb D_net_of ((F_wanted base).mono (by decide)) ((F_places_of_texts base).mono (by decide)) ((F_word_at base).mono (by decide)) ((F_pair_of base).mono (by decide)) k_LINES len_net_of pure_net_of
  have F_sight_of : ∀ base : Heap, HasF P w K mg base 5 "sight_of" ["words", "net", "line"] sp_sight_of := fun base => walk_sight_of (k := 4) nb D_sight_of ((F_wanted base).mono (by decide)) ((F_route_of base).mono (by decide)) ((F_word_at base).mono (by decide)) ((F_times_of base).mono (by decide)) k_ROUTE_WORDS k_PAIR_WORDS len_sight_of pure_sight_of
  have F_read_sights : ∀ base : Heap, HasF P w K mg base 6 "read_sights" ["text"] sp_read_sights := fun base => walk_read_sights (k := 5) nb D_read_sights ((F_net_of base).mono (by decide)) ((F_sight_of base).mono (by decide)) len_read_sights pure_read_sights
  have F__law_deck : ∀ base : Heap, HasF P w K mg base 1 "_law_deck" ["_law_script"] sp__law_deck := fun base => walk__law_deck (k := 0) nb D__law_deck len__law_deck pure__law_deck
  have F__law_draw : ∀ base : Heap, HasF P w K mg base 1 "_law_draw" ["_law_deck_here", "_law_many"] sp__law_draw := fun base => walk__law_draw (k := 0) nb D__law_draw len__law_draw pure__law_draw
  have F__law_one : ∀ base : Heap, HasF P w K mg base 2 "_law_one" ["_law_deck_here", "_law_items"] sp__law_one := fun base => walk__law_one (k := 1) nb D__law_one ((F__law_draw base).mono (by decide)) len__law_one pure__law_one
  have F__law_net : ∀ base : Heap, HasF P w K mg base 2 "_law_net" ["_law_deck_here"] sp__law_net := fun base => walk__law_net (k := 1) nb D__law_net ((F__law_draw base).mono (by decide)) len__law_net pure__law_net
  have F__law_next : ∀ base : Heap, HasF P w K mg base 1 "_law_next" ["_law_net_here", "_law_place", "_law_line"] sp__law_next := fun base => walk__law_next (k := 0) nb D__law_next len__law_next pure__law_next
  have F__law_route : ∀ base : Heap, HasF P w K mg base 3 "_law_route" ["_law_deck_here", "_law_net_here"] sp__law_route := fun base => walk__law_route (k := 2) nb D__law_route ((F__law_one base).mono (by decide)) ((F__law_draw base).mono (by decide)) ((F__law_next base).mono (by decide)) len__law_route pure__law_route
  have F__law_sight : ∀ base : Heap, HasF P w K mg base 4 "_law_sight" ["_law_deck_here", "_law_net_here"] sp__law_sight := fun base => walk__law_sight (k := 3) nb D__law_sight ((F__law_one base).mono (by decide)) ((F__law_route base).mono (by decide)) ((F__law_draw base).mono (by decide)) len__law_sight pure__law_sight
  have F__law_route_text : ∀ base : Heap, HasF P w K mg base 1 "_law_route_text" ["_law_route_here"] sp__law_route_text := fun base => walk__law_route_text (k := 0) nb D__law_route_text len__law_route_text pure__law_route_text
  have F__law_words : ∀ base : Heap, HasF P w K mg base 2 "_law_words" ["_law_net_here", "_law_sights_here"] sp__law_words := fun base => walk__law_words (k := 1) nb D__law_words ((F__law_route_text base).mono (by decide)) len__law_words pure__law_words
  have F__law_text : ∀ base : Heap, HasF P w K mg base 1 "_law_text" ["_law_rows"] sp__law_text := fun base => walk__law_text (k := 0) nb D__law_text len__law_text pure__law_text
  have F__law_sights : ∀ base : Heap, HasF P w K mg base 5 "_law_sights" ["_law_deck_here", "_law_net_here"] sp__law_sights := fun base => walk__law_sights (k := 4) nb D__law_sights ((F__law_draw base).mono (by decide)) ((F__law_sight base).mono (by decide)) len__law_sights pure__law_sights
  have F_law : ∀ base : Heap, HasF P w K mg base 7 "law" ["_law_script"] (spLawD 63) := fun base => walk_law (k := 6) nb D_law ((F__law_deck base).mono (by decide)) ((F__law_net base).mono (by decide)) ((F__law_sights base).mono (by decide)) ((F__law_text base).mono (by decide)) ((F__law_words base).mono (by decide)) ((F_sights_text base).mono (by decide)) ((F_read_sights base).mono (by decide)) len_law pure_law
  exact law_of hfa F_law h
end DL
open PySem PySem.W PySem.Calls PyProof.Rows
set_option maxRecDepth 100000 in
set_option maxHeartbeats 0 in
theorem PySem.Challenge.cw_seenroutes_k65_texts_of_sights_holds : PySem.Challenge.rw_seenroutes_k65_texts_of_sights.Holds := by
  w_on; o_law
  refine HandSHeadRun.head_any (r := OpenLaw.row PySem.Challenge.rw_seenroutes_k65_texts_of_sights) (q := view (OpenLaw.row PySem.Challenge.rw_seenroutes_k65_texts_of_sights).prog [43]) (H := DL.hkL) (ob := DL.obL) (M := 4000) (loose := DL.looseL) (d := HandSHeadRun.topDef (OpenLaw.row PySem.Challenge.rw_seenroutes_k65_texts_of_sights).prog 43) (kwd := []) DL.obL_eq
    (by kernel_rfl) (fun s => by kernel_rfl) DL.runL (by kernel_rfl) (by kernel_rfl) (by kernel_rfl) (by rfl) (by first | assumption | decide +kernel) (by decide +kernel) ⟨rfl, rfl, rfl, rfl, rfl, by decide +kernel⟩ ?hw ?hc
  case hw => w_witness2
  case hc =>
    refine DL.walk_ofD (l := PySem.Challenge.rw_seenroutes_k65_texts_of_sights) (n := 63) (k := 7) (x := "_law_script") rfl (by decide) (by kernel_rfl) ⟨⟨rfl, by decide, by decide⟩, rfl⟩ ?F
    intro w mg fa h Y G hmg0
    obtain ⟨K, KX, c⟩ := Y
    have hmg : mg ("law" : PySem.Str) = some (.ref fa) := by
      have e : (HandSHeadRun.topDef (OpenLaw.row PySem.Challenge.rw_seenroutes_k65_texts_of_sights).prog 43).name = ("law" : PySem.Str) := by kernel_rfl
      rw [← e]
      exact hmg0
    obtain ⟨fd, hb, hF⟩ := DL.factsL (P := (PySem.Challenge.rw_seenroutes_k65_texts_of_sights).prog) (w := w) KX G hmg c
    exact ⟨K, fd, KX, hb, hF⟩
